import PyProof.Rows.All
import Wide.All
import OpenK.AllK
import Wide.FinOn
import HandS.ForMost
import HandS.ForExc
import HandS.Deep
import HandS.IsInst
import HandS.Zip
import HandS.More
import HandS.RaiseMore
import HandS.Wide
import HandS.Ends
import HandS.Words
import HandS.WordsExc
import KE.GoesEnum
import HandS.TupAny
import HandS.TupMul
import HandS.Conv
import PyProof.ReprBulk
import KE.GoesNew
import KE.GoesMore
import HandS.Dict
import HandS.Small
import HandS.WordsDict
import KE.SortData
import HandS.Style
import PyProof.NeData
import HandS.TupLe
import PySem.Challenge.RW_dropsums_k27_what_shuts
set_option Elab.async false
set_option linter.all false
set_option maxRecDepth 100000
set_option maxHeartbeats 4000000
set_option exponentiation.threshold 3000
/-! The data level: values without addresses for what never changes, a small heap for what does. -/
namespace DL
open PySem PySem.Spec L2

/-- a value: tuples by what they hold, lists by their address; ro: a list that nobody changes -/
inductive DV where
  | non | bl (b : Bool) | int (i : Int) | str (s : Str) | tup (l : List DV) | ref (a : Addr) | ro (l : List DV) | ty (n : String)
deriving Inhabited
/-- what may change -/
inductive Cell where
  | lst (l : List DV)
  | dic (l : List (Key × DV))
  | ins (C : Addr) (fs : List (Str × DV))
abbrev Gh := Addr → Option Cell
def gup (G : Gh) (a : Addr) (c : Cell) : Gh := fun b => if b = a then some c else G b
theorem gup_same {G : Gh} {a : Addr} {c : Cell} : gup G a c a = some c := by simp [gup]
theorem gup_ne {G : Gh} {a b : Addr} {c : Cell} (h : b ≠ a) : gup G a c b = G b := by simp [gup, h]
theorem gup_gup {G : Gh} {a : Addr} {c d : Cell} : gup (gup G a c) a d = gup G a d := by
  funext b; simp only [gup]; split <;> rfl
theorem ne_gone {G : Gh} {a b : Addr} {c : Cell} (h : G a = some c) (h' : G b = none) : a ≠ b := by
  rintro rfl; rw [h] at h'; cases h'

/-- a list that is known to the object, or one of the module's own -/
def RoL (K : PySem.W.Frag) (H : Hp) (a : Addr) (xs : List V) : Prop := (∃ o, H a = some (.frz o (.lst xs))) ∨ SqL K (fun _ => none) a xs
theorem RoL.sq {K : PySem.W.Frag} {H : Hp} {a : Addr} {xs : List V} (h : RoL K H a xs) : SqL K H a xs := by
  rcases h with h | h
  · exact .inl (.inr h)
  · rcases h with h | h
    · rcases h with h | ⟨o, h⟩ <;> cases h
    · exact .inr h
mutual
inductive VR (K : PySem.W.Frag) (H : Hp) : V → DV → Prop
  | non : VR K H .non .non
  | bl (b : Bool) : VR K H (.bl b) (.bl b)
  | int (i : Int) : VR K H (.int i) (.int i)
  | str (x : Str) : VR K H (.str x) (.str x)
  | ty (n : String) : VR K H (.ty n) (.ty n)
  | ref (a : Addr) : VR K H (.ref a) (.ref a)
  | tup {a : Addr} {xs : List V} {ds : List DV} : SqT K H a xs → VRs K H xs ds → VR K H (.ref a) (.tup ds)
  | ro {a : Addr} {xs : List V} {ds : List DV} : RoL K H a xs → VRs K H xs ds → VR K H (.ref a) (.ro ds)
inductive VRs (K : PySem.W.Frag) (H : Hp) : List V → List DV → Prop
  | nil : VRs K H [] []
  | cons {v : V} {vs : List V} {d : DV} {ds : List DV} : VR K H v d → VRs K H vs ds → VRs K H (v :: vs) (d :: ds)
end

section
variable {K : PySem.W.Frag} {H H' : Hp} {G G' : Gh} {v : V} {vs ws : List V} {d : DV} {ds es : List DV}
theorem VRs.len : ∀ {vs : List V} {ds : List DV}, VRs K H vs ds → vs.length = ds.length
  | _, _, .nil => rfl
  | _, _, .cons _ t => by simp [t.len]
theorem VRs.get : ∀ {vs : List V} {ds : List DV} {i : Nat} {d : DV}, VRs K H vs ds → ds[i]? = some d → ∃ v, vs[i]? = some v ∧ VR K H v d
  | _, _, _, _, .nil, e => by simp at e
  | _, _, 0, _, .cons r _, e => by simp at e; subst e; exact ⟨_, rfl, r⟩
  | _, _, i + 1, d, .cons _ t, e => by
    obtain ⟨v, h1, h2⟩ := t.get (i := i) (d := d) (by simpa using e)
    exact ⟨v, by simpa using h1, h2⟩
theorem VRs.getV : ∀ {vs : List V} {ds : List DV} {i : Nat} {v : V}, VRs K H vs ds → vs[i]? = some v → ∃ d, ds[i]? = some d ∧ VR K H v d
  | _, _, _, _, .nil, e => by simp at e
  | _, _, 0, _, .cons r _, e => by simp at e; subst e; exact ⟨_, rfl, r⟩
  | _, _, i + 1, v, .cons _ t, e => by
    obtain ⟨d, h1, h2⟩ := t.getV (i := i) (v := v) (by simpa using e)
    exact ⟨d, by simpa using h1, h2⟩
theorem VRs.app : ∀ {vs ws : List V} {ds es : List DV}, VRs K H vs ds → VRs K H ws es → VRs K H (vs ++ ws) (ds ++ es)
  | _, _, _, _, .nil, s => s
  | _, _, _, _, .cons r t, s => .cons r (t.app s)
theorem VRs.one (h : VR K H v d) : VRs K H [v] [d] := .cons h .nil
theorem VRs.set (r : VR K H v d) : ∀ {vs : List V} {ds : List DV} (i : Nat), VRs K H vs ds → VRs K H (vs.set i v) (ds.set i d)
  | _, _, _, .nil => .nil
  | _, _, 0, .cons _ t => .cons r t
  | _, _, i + 1, .cons q t => .cons q (t.set r i)
theorem VRs.take : ∀ {vs : List V} {ds : List DV} (n : Nat), VRs K H vs ds → VRs K H (vs.take n) (ds.take n)
  | _, _, 0, _ => .nil
  | _, _, _ + 1, .nil => .nil
  | _, _, n + 1, .cons r t => .cons r (t.take n)
theorem VRs.drop : ∀ {vs : List V} {ds : List DV} (n : Nat), VRs K H vs ds → VRs K H (vs.drop n) (ds.drop n)
  | _, _, 0, r => r
  | _, _, _ + 1, .nil => .nil
  | _, _, n + 1, .cons _ t => t.drop n
theorem VRs.rev : ∀ {vs : List V} {ds : List DV}, VRs K H vs ds → VRs K H vs.reverse ds.reverse
  | _, _, .nil => .nil
  | _, _, .cons r t => by
    rw [List.reverse_cons, List.reverse_cons]
    exact t.rev.app (.cons r .nil)
theorem VRs.eraseIdx : ∀ {vs : List V} {ds : List DV} (n : Nat), VRs K H vs ds → VRs K H (vs.eraseIdx n) (ds.eraseIdx n)
  | _, _, _, .nil => .nil
  | _, _, 0, .cons _ t => t
  | _, _, n + 1, .cons r t => .cons r (t.eraseIdx n)
theorem VRs.dropLast {vs : List V} {ds : List DV} (h : VRs K H vs ds) : VRs K H vs.dropLast ds.dropLast := by
  rw [List.dropLast_eq_take, List.dropLast_eq_take, h.len]
  exact h.take _
theorem VRs.rep (r : VR K H v d) : ∀ n : Nat, VRs K H (List.replicate n v) (List.replicate n d)
  | 0 => .nil
  | n + 1 => .cons r (VRs.rep r n)
theorem VRs.ints : ∀ ns : List Int, VRs K H (ns.map V.int) (ns.map DV.int)
  | [] => .nil
  | n :: r => .cons (.int n) (VRs.ints r)
theorem VRs.strs : ∀ ns : List Str, VRs K H (ns.map V.str) (ns.map DV.str)
  | [] => .nil
  | n :: r => .cons (.str n) (VRs.strs r)
theorem VRs.bls : ∀ ns : List Bool, VRs K H (ns.map V.bl) (ns.map DV.bl)
  | [] => .nil
  | n :: r => .cons (.bl n) (VRs.bls r)
theorem VRs.ofInts : ∀ {ns : List Int} {vs : List V}, VRs K H vs (ns.map DV.int) → vs = ns.map V.int
  | [], _, .nil => rfl
  | _ :: _, _, .cons r t => by cases r; rw [VRs.ofInts t]; rfl
theorem VRs.ofStrs : ∀ {ns : List Str} {vs : List V}, VRs K H vs (ns.map DV.str) → vs = ns.map V.str
  | [], _, .nil => rfl
  | _ :: _, _, .cons r t => by cases r; rw [VRs.ofStrs t]; rfl
theorem VRs.ofBls : ∀ {ns : List Bool} {vs : List V}, VRs K H vs (ns.map DV.bl) → vs = ns.map V.bl
  | [], _, .nil => rfl
  | _ :: _, _, .cons r t => by cases r; rw [VRs.ofBls t]; rfl

/-- a dict's entries -/
inductive KR (K : PySem.W.Frag) (H : Hp) : List (Key × V) → List (Key × DV) → Prop
  | nil : KR K H [] []
  | cons {k : Key} {v : V} {d : DV} {xs : List (Key × V)} {ys : List (Key × DV)} : VR K H v d → KR K H xs ys → KR K H ((k, v) :: xs) ((k, d) :: ys)
/-- an object's attributes -/
inductive FR (K : PySem.W.Frag) (H : Hp) : List (Str × V) → List (Str × DV) → Prop
  | nil : FR K H [] []
  | cons {k : Str} {v : V} {d : DV} {xs : List (Str × V)} {ys : List (Str × DV)} : VR K H v d → FR K H xs ys → FR K H ((k, v) :: xs) ((k, d) :: ys)

/-- a cell stands in the tracked heap -/
def CellOk (K : PySem.W.Frag) (H : Hp) (a : Addr) : Cell → Prop
  | .lst l => ∃ xs, H a = some (.lst xs) ∧ VRs K H xs l
  | .dic l => ∃ xs, H a = some (.dK xs) ∧ KR K H xs l
  | .ins C fs => ∃ dx xs, H a = some (.ins C dx xs) ∧ H dx = some (.own a) ∧ FR K H xs fs
def WG (K : PySem.W.Frag) (G : Gh) (H : Hp) : Prop := ∀ a c, G a = some c → CellOk K H a c
/-- what is tracked and no cell stays as it is, and becomes none -/
def Ext (G : Gh) (H : Hp) (G' : Gh) (H' : Hp) : Prop := ∀ a o, H a = some o → G a = none → H' a = some o ∧ G' a = none
theorem Ext.refl : Ext G H G H := fun _ _ e n => ⟨e, n⟩
theorem Ext.trans {G1 G2 G3 : Gh} {H1 H2 H3 : Hp} (x : Ext G1 H1 G2 H2) (y : Ext G2 H2 G3 H3) : Ext G1 H1 G3 H3 := fun a o e n => by
  obtain ⟨e2, n2⟩ := x a o e n
  exact y a o e2 n2
theorem WG.notTup (w : WG K G H) {a : Addr} {xs : List V} (e : H a = some (.tup xs)) : G a = none := by
  cases q : G a with
  | none => rfl
  | some c =>
    have z := w a c q
    cases c <;> (simp only [CellOk] at z; obtain ⟨_, z⟩ := z; simp_all)
theorem WG.notFrz (w : WG K G H) {a : Addr} {o : Obj} {u : HO} (e : H a = some (.frz o u)) : G a = none := by
  cases q : G a with
  | none => rfl
  | some c =>
    have z := w a c q
    cases c <;> (simp only [CellOk] at z; obtain ⟨_, z⟩ := z; simp_all)
theorem WG.notOwn (w : WG K G H) {a x : Addr} (e : H a = some (.own x)) : G a = none := by
  cases q : G a with
  | none => rfl
  | some c =>
    have z := w a c q
    cases c <;> (simp only [CellOk] at z; obtain ⟨_, z⟩ := z; simp_all)
theorem sqT_ext {a : Addr} {xs : List V} (h : SqT K H a xs) (w : WG K G H) (x : Ext G H G' H') : SqT K H' a xs := by
  rcases h with h | h
  · rcases h with h | ⟨o, h⟩
    · exact .inl (.inl (x a _ h (w.notTup h)).1)
    · exact .inl (.inr ⟨o, (x a _ h (w.notFrz h)).1⟩)
  · exact .inr h
theorem RoL.ext {a : Addr} {xs : List V} (h : RoL K H a xs) (w : WG K G H) (x : Ext G H G' H') : RoL K H' a xs := by
  rcases h with ⟨o, h⟩ | h
  · exact .inl ⟨o, (x a _ h (w.notFrz h)).1⟩
  · exact .inr h
mutual
theorem VR.ext (w : WG K G H) (x : Ext G H G' H') : ∀ {v : V} {d : DV}, VR K H v d → VR K H' v d
  | _, _, .non => .non
  | _, _, .bl b => .bl b
  | _, _, .int i => .int i
  | _, _, .str i => .str i
  | _, _, .ty i => .ty i
  | _, _, .ref a => .ref a
  | _, _, .tup h t => .tup (sqT_ext h w x) (VRs.ext w x t)
  | _, _, .ro h t => .ro (h.ext w x) (VRs.ext w x t)
theorem VRs.ext (w : WG K G H) (x : Ext G H G' H') : ∀ {vs : List V} {ds : List DV}, VRs K H vs ds → VRs K H' vs ds
  | _, _, .nil => .nil
  | _, _, .cons r t => .cons (r.ext w x) (VRs.ext w x t)
end
theorem KR.ext (w : WG K G H) (x : Ext G H G' H') : ∀ {xs : List (Key × V)} {ys : List (Key × DV)}, KR K H xs ys → KR K H' xs ys
  | _, _, .nil => .nil
  | _, _, .cons r t => .cons (r.ext w x) (KR.ext w x t)
theorem FR.ext (w : WG K G H) (x : Ext G H G' H') : ∀ {xs : List (Str × V)} {ys : List (Str × DV)}, FR K H xs ys → FR K H' xs ys
  | _, _, .nil => .nil
  | _, _, .cons r t => .cons (r.ext w x) (FR.ext w x t)
/-- a place that may be written: new, or a cell's -/
def Put (G : Gh) (H : Hp) (a : Addr) : Prop := H a = none ∨ ∃ c, G a = some c
theorem WG.non (w : WG K G H) {a : Addr} (e : H a = none) : G a = none := by
  cases q : G a with
  | none => rfl
  | some c =>
    have z := w a c q
    cases c <;> (simp only [CellOk] at z; obtain ⟨_, z⟩ := z; simp_all)
theorem Put.ext (p : Put G H a) {c : Cell} {o : HO} : Ext G H (gup G a c) (upd H a o) := fun b u e n => by
  have hb : b ≠ a := by
    rintro rfl
    rcases p with p | ⟨c, p⟩
    · rw [e] at p; cases p
    · rw [n] at p; cases p
  exact ⟨by rw [upd_ne hb]; exact e, by rw [gup_ne hb]; exact n⟩
theorem Put.notOwn (w : WG K G H) (p : Put G H a) {b x : Addr} (e : H b = some (.own x)) : b ≠ a := by
  rintro rfl
  rcases p with p | ⟨c, p⟩
  · rw [e] at p; cases p
  · rw [w.notOwn e] at p; cases p
theorem CellOk.move (w : WG K G H) (x : Ext G H G' H') {b : Addr} {c : Cell} (h : CellOk K H b c) (hb : H' b = H b) (ho : ∀ d y, H d = some (.own y) → H' d = H d) : CellOk K H' b c := by
  cases c with
  | lst l => obtain ⟨xs, e, r⟩ := h; exact ⟨xs, hb.trans e, r.ext w x⟩
  | dic l => obtain ⟨xs, e, r⟩ := h; exact ⟨xs, hb.trans e, r.ext w x⟩
  | ins C fs => obtain ⟨dx, xs, e, o, r⟩ := h; exact ⟨dx, xs, hb.trans e, (ho _ _ o).trans o, r.ext w x⟩
theorem WG.put (w : WG K G H) (p : Put G H a) {c : Cell} {o : HO} (new : CellOk K (upd H a o) a c) : WG K (gup G a c) (upd H a o) := fun b c' e => by
  by_cases hb : b = a
  · subst hb
    rw [gup_same] at e; cases e; exact new
  · rw [gup_ne hb] at e
    exact (w b c' e).move w (p.ext (c := c)) (upd_ne hb) fun d y q => upd_ne (p.notOwn w q)
theorem Ext.new {p : Addr} (n : H p = none) {o : HO} : Ext G H G (upd H p o) := fun b u e g => by
  have hb : b ≠ p := by rintro rfl; rw [e] at n; cases n
  exact ⟨by rw [upd_ne hb]; exact e, g⟩
theorem WG.new (w : WG K G H) {p : Addr} (n : H p = none) {o : HO} : WG K G (upd H p o) := fun b c' e => by
  have hb : b ≠ p := by rintro rfl; rw [w.non n] at e; cases e
  exact (w b c' e).move w (Ext.new n) (upd_ne hb) fun d y q => upd_ne (by rintro rfl; rw [q] at n; cases n)
theorem WG.newL (w : WG K G H) {p : Addr} (n : H p = none) {xs : List V} {ds : List DV} (r : VRs K H xs ds) : WG K (gup G p (.lst ds)) (upd H p (.lst xs)) :=
  w.put (.inl n) ⟨xs, upd_same, r.ext w (Ext.new n)⟩
theorem VR.newT (w : WG K G H) {p : Addr} (n : H p = none) {xs : List V} {ds : List DV} (r : VRs K H xs ds) : VR K (upd H p (.tup xs)) (.ref p) (.tup ds) :=
  .tup (SqT.of upd_same) (r.ext w (Ext.new n))
theorem WG.setL (w : WG K G H) {p : Addr} {l : List DV} (e : G p = some (.lst l)) {xs : List V} {ds : List DV} (r : VRs K H xs ds) : WG K (gup G p (.lst ds)) (upd H p (.lst xs)) :=
  w.put (.inr ⟨_, e⟩) ⟨xs, upd_same, r.ext w (Put.ext (c := .lst ds) (.inr ⟨_, e⟩))⟩
theorem Ext.setC {p : Addr} {c c' : Cell} (e : G p = some c) {o : HO} : Ext G H (gup G p c') (upd H p o) := Put.ext (.inr ⟨_, e⟩)
theorem Ext.newC {p : Addr} {c' : Cell} (e : H p = none) {o : HO} : Ext G H (gup G p c') (upd H p o) := Put.ext (.inl e)
/-- forgetting cells -/
theorem WG.less (w : WG K G H) (h : ∀ a c, G' a = some c → G a = some c) : WG K G' H := fun a c e => w a c (h a c e)

/-- slots: none forgets -/
inductive ER (K : PySem.W.Frag) (H : Hp) : St → List (Option DV) → Prop
  | nil : ER K H [] []
  | skip (o : Option V) {xs : St} {ys : List (Option DV)} : ER K H xs ys → ER K H (o :: xs) (none :: ys)
  | cons {v : V} {d : DV} {xs : St} {ys : List (Option DV)} : VR K H v d → ER K H xs ys → ER K H (some v :: xs) (some d :: ys)
theorem ER.ext (w : WG K G H) (x : Ext G H G' H') : ∀ {xs : St} {ys : List (Option DV)}, ER K H xs ys → ER K H' xs ys
  | _, _, .nil => .nil
  | _, _, .skip o t => .skip o (ER.ext w x t)
  | _, _, .cons r t => .cons (r.ext w x) (ER.ext w x t)
theorem ER.get : ∀ {xs : St} {ys : List (Option DV)} {i : Nat} {d : DV}, ER K H xs ys → ys[i]? = some (some d) → ∃ v, xs[i]? = some (some v) ∧ VR K H v d
  | _, _, _, _, .nil, e => by simp at e
  | _, _, 0, _, .skip o t, e => by simp at e
  | _, _, i + 1, d, .skip o t, e => by
    obtain ⟨v, h1, h2⟩ := t.get (i := i) (d := d) (by simpa using e)
    exact ⟨v, by simpa using h1, h2⟩
  | _, _, 0, _, .cons r t, e => by simp at e; subst e; exact ⟨_, rfl, r⟩
  | _, _, i + 1, d, .cons r t, e => by
    obtain ⟨v, h1, h2⟩ := t.get (i := i) (d := d) (by simpa using e)
    exact ⟨v, by simpa using h1, h2⟩
theorem ER.set (r : VR K H v d) : ∀ {xs : St} {ys : List (Option DV)} (i : Nat), ER K H xs ys → ER K H (xs.set i (some v)) (ys.set i (some d))
  | _, _, _, .nil => .nil
  | _, _, 0, .skip _ t => .cons r t
  | _, _, i + 1, .skip o t => .skip o (ER.set r i t)
  | _, _, 0, .cons _ t => .cons r t
  | _, _, i + 1, .cons q t => .cons q (ER.set r i t)
theorem ER.setNone : ∀ {xs : St} {ys : List (Option DV)} (i : Nat) (o : Option V), ER K H xs ys → ER K H (xs.set i o) (ys.set i none)
  | _, _, _, _, .nil => .nil
  | _, _, 0, _, .skip _ t => .skip _ t
  | _, _, i + 1, o', .skip o t => .skip o (ER.setNone i o' t)
  | _, _, 0, _, .cons _ t => .skip _ t
  | _, _, i + 1, o', .cons q t => .cons q (ER.setNone i o' t)
def wipeD (ys : List (Option DV)) : List Nat → List (Option DV)
  | [] => ys
  | i :: r => (wipeD ys r).set i none
theorem ER.wipe {xs : St} {ys : List (Option DV)} (h : ER K H xs ys) : ∀ vs : List Nat, ER K H (L2.wipe xs vs) (wipeD ys vs)
  | [] => h
  | i :: r => ER.setNone i none (ER.wipe h r)
theorem ER.start : ∀ {vs : List V} {ds : List DV}, VRs K H vs ds → ∀ n : Nat, ER K H (vs.map some ++ List.replicate n none) (ds.map some ++ List.replicate n none)
  | _, _, .nil, 0 => .nil
  | _, _, .nil, n + 1 => .skip none (ER.start .nil n)
  | _, _, .cons r t, n => .cons r (ER.start t n)
end
end DL

namespace DL
open PySem PySem.Spec L2

/-! ### readings at the data level -/
abbrev Dv := List (Option DV)
/-- what is wanted of an exception: its class, its fields -/
abbrev DX := Addr → List (Str × DV) → Gh → Prop
abbrev DE := DX → Dv → Gh → (DV → Gh → Prop) → Prop
abbrev DT := DX → Dv → Gh → (Bool → Gh → Prop) → Prop
abbrev DA := DX → Dv → Gh → (List DV → Gh → Prop) → Prop
structure DEnds where
  nx : Dv → Gh → Prop
  rt : DV → Gh → Prop
  bk : Dv → Gh → Prop := fun _ _ => False
  ct : Dv → Gh → Prop := fun _ _ => False
  ex : Addr → List (Str × DV) → Dv → Gh → Prop := fun _ _ _ _ => False
abbrev DS := DEnds → Dv → Gh → Prop

/-- an exception's wish is kept -/
def XLe (K : PySem.W.Frag) (G : Gh) (H : Hp) (Y : DX) (W : Value → Option Addr → Hp → Prop) : Prop :=
  ∀ C fs G' d xs H', Y C fs G' → H' d = some (.xd xs) → FR K H' xs fs → WG K G' H' → Ext G H G' H' → W (.ref C) (some d) H'
theorem XLe.step {K : PySem.W.Frag} {G G1 : Gh} {H H1 : Hp} {Y : DX} {W : Value → Option Addr → Hp → Prop} (h : XLe K G H Y W) (x : Ext G H G1 H1) : XLe K G1 H1 Y W :=
  fun C fs G' d xs H' y e f w x' => h C fs G' d xs H' y e f w (x.trans x')

def TEl (K : PySem.W.Frag) (W : WX) (w : DE) : TE := fun σ H Q => ∃ (Y : DX) (env : Dv) (G : Gh) (P : DV → Gh → Prop), ER K H σ env ∧ WG K G H ∧ w Y env G P ∧
  (∀ d G' v H', P d G' → WG K G' H' → Ext G H G' H' → VR K H' v d → Q v H') ∧ XLe K G H Y fun c d => W c d σ
def TTl (K : PySem.W.Frag) (W : WX) (w : DT) : TT := fun σ H Q => ∃ (Y : DX) (env : Dv) (G : Gh) (P : Bool → Gh → Prop), ER K H σ env ∧ WG K G H ∧ w Y env G P ∧
  (∀ b G' H', P b G' → WG K G' H' → Ext G H G' H' → Q b H') ∧ XLe K G H Y fun c d => W c d σ
def TAl (K : PySem.W.Frag) (W : WX) (w : DA) : TA := fun σ H Q => ∃ (Y : DX) (env : Dv) (G : Gh) (P : List DV → Gh → Prop), ER K H σ env ∧ WG K G H ∧ w Y env G P ∧
  (∀ d G' v H', P d G' → WG K G' H' → Ext G H G' H' → VRs K H' v d → Q v H') ∧ XLe K G H Y fun c d => W c d σ
structure LeE (K : PySem.W.Frag) (W : WX) (G : Gh) (H : Hp) (De : DEnds) (D : Ends) : Prop where
  nx : ∀ env G' σ H', De.nx env G' → ER K H' σ env → WG K G' H' → Ext G H G' H' → D.nx σ H'
  bk : ∀ env G' σ H', De.bk env G' → ER K H' σ env → WG K G' H' → Ext G H G' H' → D.bk σ H'
  ct : ∀ env G' σ H', De.ct env G' → ER K H' σ env → WG K G' H' → Ext G H G' H' → D.ct σ H'
  rt : ∀ d G' v H', De.rt d G' → VR K H' v d → WG K G' H' → Ext G H G' H' → D.rt v H'
  ex : ∀ C fs env G' σ d xs H', De.ex C fs env G' → H' d = some (.xd xs) → FR K H' xs fs → ER K H' σ env → WG K G' H' → Ext G H G' H' → W (.ref C) (some d) σ H'
theorem LeE.step {K : PySem.W.Frag} {W : WX} {G G1 : Gh} {H H1 : Hp} {De : DEnds} {D : Ends} (h : LeE K W G H De D) (x : Ext G H G1 H1) : LeE K W G1 H1 De D :=
  ⟨fun env G' σ H' p e w y => h.nx env G' σ H' p e w (x.trans y), fun env G' σ H' p e w y => h.bk env G' σ H' p e w (x.trans y), fun env G' σ H' p e w y => h.ct env G' σ H' p e w (x.trans y),
    fun d G' v H' p r w y => h.rt d G' v H' p r w (x.trans y), fun C fs env G' σ d xs H' p e f r w y => h.ex C fs env G' σ d xs H' p e f r w (x.trans y)⟩
def TSl (K : PySem.W.Frag) (W : WX) (w : DS) : TS := fun D σ H => ∃ (env : Dv) (G : Gh) (De : DEnds), ER K H σ env ∧ WG K G H ∧ w De env G ∧ LeE K W G H De D

/-! ### the judgements -/
structure QE (X : Cx) (W : WX) (e : Expr) (w : DE) : Prop where
  pe : PE X e (TEl X.K W w)
structure QT (X : Cx) (W : WX) (e : Expr) (w : DT) : Prop where
  pt : PT X e (TTl X.K W w)
structure QW (X : Cx) (W : WX) (e : Expr) (w : DT) : Prop where
  pw : PW X e (TTl X.K W w)
structure QA (X : Cx) (W : WX) (es : List Expr) (w : DA) : Prop where
  pa : PA X es (TAl X.K W w)
structure QS (X : Cx) (W : WX) (st : Stmt) (w : DS) : Prop where
  ps : PS X st (TSl X.K W w)
structure QSs (X : Cx) (W : WX) (st : List Stmt) (w : DS) : Prop where
  pss : PSs X st (TSl X.K W w)
section
variable {X : Cx} {W : WX} {e : Expr} {st : Stmt} {sts : List Stmt}
theorem PE.wk {t t' : TE} (h : PE X e t) (i : ∀ σ H Q, t' σ H Q → t σ H Q) : PE X e t' := ⟨fun a b c d q I z => h.run a b c d q I (i _ _ _ z)⟩
theorem PT.wk {t t' : TT} (h : PT X e t) (i : ∀ σ H Q, t' σ H Q → t σ H Q) : PT X e t' := ⟨fun a b c d q I z => h.run a b c d q I (i _ _ _ z)⟩
theorem PW.wk {t t' : TT} (h : PW X e t) (i : ∀ σ H Q, t' σ H Q → t σ H Q) : PW X e t' := ⟨fun u a b c d q I z => h.run u a b c d q I (i _ _ _ z)⟩
theorem PA.wk {es : List Expr} {t t' : TA} (h : PA X es t) (i : ∀ σ H Q, t' σ H Q → t σ H Q) : PA X es t' := ⟨fun u a b c d q I z => h.run u a b c d q I (i _ _ _ z)⟩
theorem PS.wk {t t' : TS} (h : PS X st t) (i : ∀ D σ H, t' D σ H → t D σ H) : PS X st t' := ⟨fun a b c d q I z => h.run a b c d q I (i _ _ _ z)⟩
theorem PSs.wk {t t' : TS} (h : PSs X sts t) (i : ∀ D σ H, t' D σ H → t D σ H) : PSs X sts t' := ⟨fun a b c d q I z => h.run a b c d q I (i _ _ _ z)⟩

/-! ### names and constants -/
def wVar (i : Nat) : DE := fun _ env G Q => match env[i]? with | some (some d) => Q d G | _ => False
def wC (d : DV) : DE := fun _ _ G Q => Q d G
theorem q_var (i : Nat) {x : Str} {pos : Pos} (hN : X.N[i]? = some x := by rfl) (hv : Vis X.env.scope x := by first | exact Or.inl rfl | exact Or.inr (Or.inl rfl) | exact Or.inr (Or.inr rfl)) (hd : (x == ("__debug__" : Str)) = false := by decide)
    (hcd : (x == ("__classdict__" : Str)) = false := by decide) : QE X W (.Name x pos) (wVar i) := by
  refine ⟨PE.wk (pe_var (i := i) hN hv hd hcd) ?_⟩
  rintro σ H Q ⟨Y, env, G, P, er, wg, h, k, kx⟩
  unfold wVar at h
  split at h
  · rename_i d e
    obtain ⟨v, e1, r⟩ := er.get e
    exact ⟨v, e1, k _ _ _ _ h wg Ext.refl r⟩
  · exact h.elim
theorem q_const {v : V} {d : DV} (h : PE X e (tC v)) (r : ∀ H, VR X.K H v d) : QE X W e (wC d) :=
  ⟨PE.wk h fun _ H _ ⟨_, _, _, _, _, wg, h, k, _⟩ => k _ _ _ _ h wg Ext.refl (r H)⟩
theorem q_int {i j pos} : QE X W (.Constant (.int i) j pos) (wC (.int i)) := q_const pe_int fun _ => .int _
theorem q_bl {i j pos} : QE X W (.Constant (.bool i) j pos) (wC (.bl i)) := q_const pe_bl fun _ => .bl _
theorem q_non {j pos} : QE X W (.Constant .none j pos) (wC .non) := q_const pe_non fun _ => .non
theorem q_str {i j pos} : QE X W (.Constant (.str i) j pos) (wC (.str i)) := q_const pe_str fun _ => .str _
/-- a module's constant -/
theorem q_glob {x : Str} {d : DV} {v : V} {u : Value} {pos : Pos} (hm : X.mg x = some u) (r : RelV v u) (rd : ∀ H, VR X.K H v d) (hg : Gl X x := by rfl) (hd : (x == ("__debug__" : Str)) = false := by decide) : QE X W (.Name x pos) (wC d) :=
  q_const (pe_glob hg hm r hd) rd

/-! ### operators -/
abbrev D2 := DV → DV → Gh → (DV → Gh → Prop) → Prop
def lift2 (K : PySem.W.Frag) (r : D2) : R2 := fun x y H Q => ∃ dx dy G P, VR K H x dx ∧ VR K H y dy ∧ WG K G H ∧ r dx dy G P ∧ ∀ d G' v H', P d G' → WG K G' H' → Ext G H G' H' → VR K H' v d → Q v H'
def OpD (X : Cx) (f : Value → Value → Sem Value) (r : D2) : Prop := OpR X f (lift2 X.K r)
def wOp (r : D2) (wa wb : DE) : DE := fun Y env G Q => wa Y env G fun x G1 => wb Y env G1 fun y G2 => r x y G2 Q
variable {a b c : Expr} {wa wb wc : DE} {pos : Pos}
/-- the two parts of an operation -/
theorem two_parts {r : D2} {σ : L2.St} {H : Hp} {Q : VK} (h : TEl X.K W (wOp r wa wb) σ H Q) : tOp (lift2 X.K r) (TEl X.K W wa) (TEl X.K W wb) σ H Q := by
  obtain ⟨Y, env, G, P, er, wg, h, k, kx⟩ := h
  refine ⟨Y, env, G, _, er, wg, h, fun x G1 v H1 h1 w1 x1 r1 => ?_, kx⟩
  refine ⟨Y, env, G1, _, er.ext wg x1, w1, h1, fun y G2 u H2 h2 w2 x2 r2 => ?_, kx.step x1⟩
  exact ⟨x, y, G2, P, r1.ext w1 x2, r2, w2, h2, fun d G' v' H' p w' x' r' => k d G' v' H' p w' ((x1.trans x2).trans x') r'⟩
theorem q_op {op : Operator} {r : D2} (ho : OpD X (binaryOp op) r) (ha : QE X W a wa) (hb : QE X W b wb) : QE X W (.BinOp a op b pos) (wOp r wa wb) :=
  ⟨PE.wk (pe_op ho ha.pe hb.pe) fun _ _ _ h => two_parts h⟩
theorem q_cmp {op : CmpOp} {r : D2} (ho : OpD X (compareOp op) r) (ha : QE X W a wa) (hb : QE X W b wb) (hm : behindInMarks op b = false := by first | exact nomark _ | rfl) : QE X W (.Compare a [op] [b] pos) (wOp r wa wb) :=
  ⟨PE.wk (pe_cmpR ho ha.pe hb.pe hm) fun _ _ _ h => two_parts h⟩
/-- a value as a test -/
def wTst (w : DE) : DT := fun Y env G Q => w Y env G fun d G' => match d with | .bl b => Q b G' | _ => False
theorem tst_parts {t : DE} {σ : L2.St} {H : Hp} {Q : Bool → Hp → Prop} (h : TTl X.K W (wTst t) σ H Q) : TEl X.K W t σ H fun x H1 => ∃ k, x = .bl k ∧ Q k H1 := by
  obtain ⟨Y, env, G, P, er, wg, h, k, kx⟩ := h
  refine ⟨Y, env, G, _, er, wg, h, fun d G' v H' p w' x' r => ?_, kx⟩
  cases d <;> first | exact p.elim | skip
  cases r
  exact ⟨_, rfl, k _ _ _ p w' x'⟩
theorem qt_val (h : QE X W e wa) (he : ∀ whole, isTrue e X.env whole = (do let v ← whole; standAt e.pos; holding [v] (truthy v)) := by intro _; rfl) : QT X W e (wTst wa) :=
  ⟨PT.wk (pt_val h.pe he) fun _ _ _ h => tst_parts h⟩
theorem qt_cmp {op : CmpOp} {r : D2} (ho : OpD X (compareOp op) r) (ha : QE X W a wa) (hb : QE X W b wb) (hm : behindInMarks op b = false := by first | exact nomark _ | rfl) : QT X W (.Compare a [op] [b] pos) (wTst (wOp r wa wb)) :=
  ⟨PT.wk (pt_cmpR ho ha.pe hb.pe hm) fun σ H Q h => by
    obtain ⟨Y, env, G, P, er, wg, h, k, kx⟩ := tst_parts h
    exact two_parts ⟨Y, env, G, P, er, wg, h, k, kx⟩⟩
/-- a < b < c -/
def wChain (r r' : D2) (wa wb wc : DE) : DE := fun Y env G Q => wa Y env G fun x G1 => wb Y env G1 fun y G2 => r x y G2 fun z G3 => match z with
  | .bl true => wc Y env G3 fun u G4 => r' y u G4 Q
  | .bl false => Q (.bl false) G3
  | _ => False
theorem chain_parts {r r' : D2} {σ : L2.St} {H : Hp} {Q : VK} (h : TEl X.K W (wChain r r' wa wb wc) σ H Q) : tChain (lift2 X.K r) (lift2 X.K r') (TEl X.K W wa) (TEl X.K W wb) (TEl X.K W wc) σ H Q := by
  obtain ⟨Y, env, G, P, er, wg, h, k, kx⟩ := h
  refine ⟨Y, env, G, _, er, wg, h, fun x G1 v H1 h1 w1 x1 r1 => ?_, kx⟩
  refine ⟨Y, env, G1, _, er.ext wg x1, w1, h1, fun y G2 u H2 h2 w2 x2 r2 => ?_, kx.step x1⟩
  refine ⟨x, y, G2, _, r1.ext w1 x2, r2, w2, h2, fun z G3 q H3 h3 w3 x3 r3 => ?_⟩
  have e3 := (er.ext wg x1).ext w1 (x2.trans x3)
  have t3 := (x1.trans x2).trans x3
  cases z <;> first | exact h3.elim | skip
  rename_i bb
  cases r3
  cases bb with
  | false => exact ⟨false, rfl, by rw [if_neg Bool.false_ne_true]; exact k _ _ _ _ h3 w3 t3 (.bl false)⟩
  | true =>
    refine ⟨true, rfl, ?_⟩
    rw [if_pos rfl]
    refine ⟨Y, env, G3, _, e3, w3, h3, fun z' G4 q' H4 h4 w4 x4 r4 => ?_, kx.step t3⟩
    exact ⟨y, z', G4, P, r2.ext w2 (x3.trans x4), r4, w4, h4, fun d G' v' H' p w' x' r' => k d G' v' H' p w' ((t3.trans x4).trans x') r'⟩
theorem q_chain {op op' : CmpOp} {r r' : D2} (ho : OpD X (compareOp op) r) (ho' : OpD X (compareOp op') r') (ha : QE X W a wa) (hb : QE X W b wb) (hc : QE X W c wc) (hm : lastMarks [op, op'] [b, c] = false := by rfl) : QE X W (.Compare a [op, op'] [b, c] pos) (wChain r r' wa wb wc) :=
  ⟨PE.wk (pe_chain ho ho' ha.pe hb.pe hc.pe hm) fun _ _ _ h => chain_parts h⟩
theorem qt_chain {op op' : CmpOp} {r r' : D2} (ho : OpD X (compareOp op) r) (ho' : OpD X (compareOp op') r') (ha : QE X W a wa) (hb : QE X W b wb) (hc : QE X W c wc) (hm : lastMarks [op, op'] [b, c] = false := by rfl) : QT X W (.Compare a [op, op'] [b, c] pos) (wTst (wChain r r' wa wb wc)) :=
  ⟨PT.wk (pt_chain ho ho' ha.pe hb.pe hc.pe hm) fun σ H Q h => by
    obtain ⟨Y, env, G, P, er, wg, h, k, kx⟩ := tst_parts h
    exact chain_parts ⟨Y, env, G, P, er, wg, h, k, kx⟩⟩

/-! ### and, or, not -/
def wAndT (t u : DT) : DT := fun Y env G Q => t Y env G fun c G1 => if c = true then u Y env G1 Q else Q false G1
def wOrT (t u : DT) : DT := fun Y env G Q => t Y env G fun c G1 => if c = true then Q true G1 else u Y env G1 Q
def wNotT (t : DT) : DT := fun Y env G Q => t Y env G fun c G1 => Q (!c) G1
variable {ta tb : DT} {rest : List Expr}
theorem qw_and1 (ha : QT X W a ta) : QW X W (.BoolOp .And [a] pos) ta := ⟨pw_and1 ha.pt⟩
theorem qw_or1 (ha : QT X W a ta) : QW X W (.BoolOp .Or [a] pos) ta := ⟨pw_or1 ha.pt⟩
theorem qw_and (ha : QT X W a ta) (hb : QW X W (.BoolOp .And (b :: rest) pos) tb) : QW X W (.BoolOp .And (a :: b :: rest) pos) (wAndT ta tb) :=
  ⟨PW.wk (pw_and ha.pt hb.pw) fun σ H Q ⟨Y, env, G, P, er, wg, h, k, kx⟩ => ⟨Y, env, G, _, er, wg, h, fun c G1 H1 h1 w1 x1 => by
    cases c with
    | true => simp only [if_true] at h1 ⊢; exact ⟨Y, env, G1, P, er.ext wg x1, w1, h1, fun b G' H' p w' x' => k b G' H' p w' (x1.trans x'), kx.step x1⟩
    | false => simp only [Bool.false_eq_true, if_false] at h1 ⊢; exact k _ _ _ h1 w1 x1, kx⟩⟩
theorem qw_or (ha : QT X W a ta) (hb : QW X W (.BoolOp .Or (b :: rest) pos) tb) : QW X W (.BoolOp .Or (a :: b :: rest) pos) (wOrT ta tb) :=
  ⟨PW.wk (pw_or ha.pt hb.pw) fun σ H Q ⟨Y, env, G, P, er, wg, h, k, kx⟩ => ⟨Y, env, G, _, er, wg, h, fun c G1 H1 h1 w1 x1 => by
    cases c with
    | false => simp only [Bool.false_eq_true, if_false] at h1 ⊢; exact ⟨Y, env, G1, P, er.ext wg x1, w1, h1, fun b G' H' p w' x' => k b G' H' p w' (x1.trans x'), kx.step x1⟩
    | true => simp only [if_true] at h1 ⊢; exact k _ _ _ h1 w1 x1, kx⟩⟩
theorem qt_w (h : QW X W e ta) : QT X W e ta := ⟨h.pw.pt⟩
theorem qt_not (ha : QT X W a ta) : QT X W (.UnaryOp .Not a pos) (wNotT ta) :=
  ⟨PT.wk (pt_not ha.pt) fun σ H Q ⟨Y, env, G, P, er, wg, h, k, kx⟩ => ⟨Y, env, G, _, er, wg, h, fun c G1 H1 h1 w1 x1 => k _ _ _ h1 w1 x1, kx⟩⟩
def wAnd (wa wb : DE) : DE := fun Y env G Q => wa Y env G fun x G1 => match x with | .bl true => wb Y env G1 Q | .bl false => Q (.bl false) G1 | _ => False
def wOr (wa wb : DE) : DE := fun Y env G Q => wa Y env G fun x G1 => match x with | .bl false => wb Y env G1 Q | .bl true => Q (.bl true) G1 | _ => False
def wNot (wa : DE) : DE := fun Y env G Q => wa Y env G fun x G1 => match x with | .bl b => Q (.bl (!b)) G1 | _ => False
theorem q_one {op} (h : QE X W a wa) : QE X W (.BoolOp op [a] pos) wa := ⟨pe_one h.pe⟩
theorem q_and (ha : QE X W a wa) (hb : QE X W (.BoolOp .And (b :: rest) pos) wb) : QE X W (.BoolOp .And (a :: b :: rest) pos) (wAnd wa wb) :=
  ⟨PE.wk (pe_and ha.pe hb.pe) fun σ H Q ⟨Y, env, G, P, er, wg, h, k, kx⟩ => ⟨Y, env, G, _, er, wg, h, fun d G1 v H1 h1 w1 x1 r => by
    cases d <;> first | exact h1.elim | skip
    rename_i c
    cases r
    refine ⟨c, rfl, ?_⟩
    cases c with
    | true => rw [if_pos rfl]; exact ⟨Y, env, G1, P, er.ext wg x1, w1, h1, fun d G' v' H' p w' x' r => k d G' v' H' p w' (x1.trans x') r, kx.step x1⟩
    | false => rw [if_neg Bool.false_ne_true]; exact k _ _ _ _ h1 w1 x1 (.bl false), kx⟩⟩
theorem q_or (ha : QE X W a wa) (hb : QE X W (.BoolOp .Or (b :: rest) pos) wb) : QE X W (.BoolOp .Or (a :: b :: rest) pos) (wOr wa wb) :=
  ⟨PE.wk (pe_or ha.pe hb.pe) fun σ H Q ⟨Y, env, G, P, er, wg, h, k, kx⟩ => ⟨Y, env, G, _, er, wg, h, fun d G1 v H1 h1 w1 x1 r => by
    cases d <;> first | exact h1.elim | skip
    rename_i c
    cases r
    refine ⟨c, rfl, ?_⟩
    cases c with
    | false => rw [if_neg Bool.false_ne_true]; exact ⟨Y, env, G1, P, er.ext wg x1, w1, h1, fun d G' v' H' p w' x' r => k d G' v' H' p w' (x1.trans x') r, kx.step x1⟩
    | true => rw [if_pos rfl]; exact k _ _ _ _ h1 w1 x1 (.bl true), kx⟩⟩
theorem q_not (ha : QE X W a wa) : QE X W (.UnaryOp .Not a pos) (wNot wa) :=
  ⟨PE.wk (pe_not ha.pe) fun σ H Q ⟨Y, env, G, P, er, wg, h, k, kx⟩ => ⟨Y, env, G, _, er, wg, h, fun d G1 v H1 h1 w1 x1 r => by
    cases d <;> first | exact h1.elim | skip
    rename_i c
    cases r
    exact ⟨c, rfl, k _ _ _ _ h1 w1 x1 (.bl _)⟩, kx⟩⟩
def wIf (t : DT) (wa wb : DE) : DE := fun Y env G Q => t Y env G fun c G1 => if c = true then wa Y env G1 Q else wb Y env G1 Q
theorem q_ifExp (hc : QT X W c ta) (ha : QE X W a wa) (hb : QE X W b wb) : QE X W (.IfExp c a b pos) (wIf ta wa wb) :=
  ⟨PE.wk (pe_ifExp hc.pt ha.pe hb.pe) fun σ H Q ⟨Y, env, G, P, er, wg, h, k, kx⟩ => ⟨Y, env, G, _, er, wg, h, fun c G1 H1 h1 w1 x1 => by
    cases c with
    | true => simp only [if_true] at h1 ⊢; exact ⟨Y, env, G1, P, er.ext wg x1, w1, h1, fun d G' v' H' p w' x' r => k d G' v' H' p w' (x1.trans x') r, kx.step x1⟩
    | false => simp only [Bool.false_eq_true, if_false] at h1 ⊢; exact ⟨Y, env, G1, P, er.ext wg x1, w1, h1, fun d G' v' H' p w' x' r => k d G' v' H' p w' (x1.trans x') r, kx.step x1⟩, kx⟩⟩

/-! ### argument lists, displays, calls of what is known -/
def wNil : DA := fun _ _ G Q => Q [] G
def wCons (wa : DE) (wr : DA) : DA := fun Y env G Q => wa Y env G fun d G1 => wr Y env G1 fun ds G2 => Q (d :: ds) G2
variable {es : List Expr} {wr : DA}
theorem qa_nil : QA X W [] wNil := ⟨PA.wk pa_nil fun σ H Q ⟨Y, env, G, P, er, wg, h, k, kx⟩ => k _ _ _ _ h wg Ext.refl .nil⟩
theorem qa_cons (ha : QE X W e wa) (hr : QA X W es wr) (hs : starEach (e :: es) X.env = (false, eval e X.env) :: starEach es X.env := by rfl) : QA X W (e :: es) (wCons wa wr) :=
  ⟨PA.wk (pa_cons ha.pe hr.pa hs) fun σ H Q ⟨Y, env, G, P, er, wg, h, k, kx⟩ => ⟨Y, env, G, _, er, wg, h, fun d G1 v H1 h1 w1 x1 r1 =>
    ⟨Y, env, G1, _, er.ext wg x1, w1, h1, fun ds G2 vs H2 h2 w2 x2 r2 => k _ _ _ _ h2 w2 (x1.trans x2) (.cons (r1.ext w1 x2) r2), kx.step x1⟩, kx⟩⟩
def wTup (wr : DA) : DE := fun Y env G Q => wr Y env G fun ds G1 => ds.length ≤ sizeLine ∧ Q (.tup ds) G1
def wLst (wr : DA) : DE := fun Y env G Q => wr Y env G fun ds G1 => ds.length ≤ sizeLine ∧ ∀ p, G1 p = none → Q (.ref p) (gup G1 p (.lst ds))
theorem q_tup {x1} (h : QA X W es wr) : QE X W (.Tuple es x1 pos) (wTup wr) :=
  ⟨PE.wk (pe_tup h.pa) fun σ H Q ⟨Y, env, G, P, er, wg, h, k, kx⟩ => ⟨Y, env, G, _, er, wg, h, fun ds G1 vs H1 h1 w1 x1 r1 =>
    ⟨by rw [r1.len]; exact h1.1, fun p np => k _ _ _ _ h1.2 (w1.new np) (x1.trans (Ext.new np)) (VR.newT w1 np r1)⟩, kx⟩⟩
theorem q_lst (h : QA X W es wr) : QE X W (.List es pos) (wLst wr) :=
  ⟨PE.wk (pe_lst h.pa) fun σ H Q ⟨Y, env, G, P, er, wg, h, k, kx⟩ => ⟨Y, env, G, _, er, wg, h, fun ds G1 vs H1 h1 w1 x1 r1 =>
    ⟨by rw [r1.len]; exact h1.1, fun p np => k _ _ _ _ (h1.2 p (w1.non np)) (w1.newL np r1) (x1.trans (Ext.newC np)) (.ref p)⟩, kx⟩⟩
abbrev DC := List DV → Gh → (DV → Gh → Prop) → Prop
def liftC (K : PySem.W.Frag) (r : DC) : List V → Hp → VK → Prop := fun xs H Q => ∃ ds G P, VRs K H xs ds ∧ WG K G H ∧ r ds G P ∧ ∀ d G' v H', P d G' → WG K G' H' → Ext G H G' H' → VR K H' v d → Q v H'
def CallD (X : Cx) (f : Value) (r : DC) : Prop := CallR X f (liftC X.K r)
def wCB (r : DC) (wr : DA) : DE := fun Y env G Q => wr Y env G fun ds G1 => r ds G1 Q
theorem cb_parts {r : DC} {σ : L2.St} {H : Hp} {Q : VK} (h : TEl X.K W (wCB r wr) σ H Q) : tCB (liftC X.K r) (TAl X.K W wr) σ H Q := by
  obtain ⟨Y, env, G, P, er, wg, h, k, kx⟩ := h
  exact ⟨Y, env, G, _, er, wg, h, fun ds G1 vs H1 h1 w1 x1 r1 => ⟨ds, G1, P, r1, w1, h1, fun d G' v H' p w' x' r' => k d G' v H' p w' (x1.trans x') r'⟩, kx⟩
theorem q_callB {id : String} {x : Str} {p : Pos} {r : DC} (hc : CallD X (.builtin id) r) (hm : X.mg x = none) (ha : QA X W (e :: es) wr) (hv : bootBuiltins x = some (.builtin id) := by decide +kernel) (hg : Gl X x := by rfl) (hn : x ≠ "__name__" := by decide) (hdb : (x == ("__debug__" : Str)) = false := by decide)
    (he : starEach (e :: es) X.env = (false, eval e X.env) :: starEach es X.env := by rfl) (hpl : (backTo pos (starEach es X.env)).any (·.1) = false := by rfl) : QE X W (.Call (.Name x p) (e :: es) [] pos) (wCB r wr) :=
  ⟨PE.wk (pe_callB hc hg hm hv ha.pa hn hdb he hpl) fun _ _ _ h => cb_parts h⟩
theorem q_callTy {T : String} {x : Str} {p : Pos} {r : DC} (hc : CallD X (.type T) r) (hm : X.mg x = none) (ha : QA X W (e :: es) wr) (hv : bootBuiltins x = some (.type T) := by decide +kernel) (hg : Gl X x := by rfl) (hn : x ≠ "__name__" := by decide) (hdb : (x == ("__debug__" : Str)) = false := by decide)
    (he : starEach (e :: es) X.env = (false, eval e X.env) :: starEach es X.env := by rfl) (hpl : (backTo pos (starEach es X.env)).any (·.1) = false := by rfl) : QE X W (.Call (.Name x p) (e :: es) [] pos) (wCB r wr) :=
  ⟨PE.wk (pe_callTy hc hg hm hv ha.pa hn hdb he hpl) fun _ _ _ h => cb_parts h⟩

/-! ### small statements -/
variable {w u : DS}
def wNext : DS := fun D env G => D.nx env G
def wSeq (t u : DS) : DS := fun D env G => t { D with nx := u D } env G
theorem seq_parts {D : Ends} {σ : L2.St} {H : Hp} {t u : DS} (h : TSl X.K W (wSeq t u) D σ H) : tSeq (TSl X.K W t) (TSl X.K W u) D σ H := by
  obtain ⟨env, G, De, er, wg, h, le⟩ := h
  exact ⟨env, G, _, er, wg, h, fun env' G' σ' H' p e' w' x' => ⟨env', G', De, e', w', p, le.step x'⟩, le.bk, le.ct, le.rt, le.ex⟩
theorem qss_nil : QSs X W [] wNext := ⟨PSs.wk pss_nil fun D σ H ⟨env, G, De, er, wg, h, le⟩ => le.nx _ _ _ _ h er wg Ext.refl⟩
theorem qss_cons (h1 : QS X W st w) (h2 : QSs X W sts u) : QSs X W (st :: sts) (wSeq w u) := ⟨PSs.wk (pss_cons h1.ps h2.pss) fun _ _ _ h => seq_parts h⟩
theorem qss_one (h1 : QS X W st w) : QSs X W [st] w := ⟨pss_one h1.ps⟩
theorem qs_pass : QS X W (.Pass pos) wNext := ⟨PS.wk ps_pass fun D σ H ⟨env, G, De, er, wg, h, le⟩ => le.nx _ _ _ _ h er wg Ext.refl⟩
def wBreak : DS := fun D env G => D.bk env G
def wCont : DS := fun D env G => D.ct env G
theorem qs_break : QS X W (.Break pos) wBreak := ⟨PS.wk ps_break fun D σ H ⟨env, G, De, er, wg, h, le⟩ => le.bk _ _ _ _ h er wg Ext.refl⟩
theorem qs_continue : QS X W (.Continue pos) wCont := ⟨PS.wk ps_continue fun D σ H ⟨env, G, De, er, wg, h, le⟩ => le.ct _ _ _ _ h er wg Ext.refl⟩
/-- an expression's exceptions, as the statement wants them -/
theorem LeE.xle {D : Ends} {De : DEnds} {G : Gh} {H : Hp} {σ : L2.St} {env : Dv} (le : LeE X.K W G H De D) (wg : WG X.K G H) (er : ER X.K H σ env) : XLe X.K G H (fun C fs G' => De.ex C fs env G') fun c d => W c d σ :=
  fun C fs G' d xs H' y e f w' x' => le.ex C fs env G' σ d xs H' y e f (er.ext wg x') w' x'
def wExpr (we : DE) : DS := fun D env G => we (fun C fs G' => D.ex C fs env G') env G fun _ G1 => D.nx env G1
def wRet (we : DE) : DS := fun D env G => we (fun C fs G' => D.ex C fs env G') env G D.rt
theorem qs_expr (he : QE X W e wa) (hs : swapsWith e none pos.line X.env = pure false := by rfl) : QS X W (.Expr e pos) (wExpr wa) :=
  ⟨PS.wk (ps_expr he.pe hs) fun D σ H ⟨env, G, De, er, wg, h, le⟩ => ⟨_, env, G, _, er, wg, h, fun d G' v H' p w' x' r => le.nx _ _ _ _ p (er.ext wg x') w' x', le.xle wg er⟩⟩
theorem qs_ret (he : QE X W e wa) : QS X W (.Return (some e) pos) (wRet wa) :=
  ⟨PS.wk (ps_ret he.pe) fun D σ H ⟨env, G, De, er, wg, h, le⟩ => ⟨_, env, G, _, er, wg, h, fun d G' v H' p w' x' r => le.rt _ _ _ _ p r w' x', le.xle wg er⟩⟩
def wRetN : DS := fun D _ G => D.rt .non G
theorem qs_retN : QS X W (.Return none pos) wRetN := ⟨PS.wk ps_retN fun D σ H ⟨env, G, De, er, wg, h, le⟩ => le.rt _ _ _ _ h .non wg Ext.refl⟩
def wIfS (c : DT) (t u : DS) : DS := fun D env G => c (fun C fs G' => D.ex C fs env G') env G fun b G1 => if b = true then t D env G1 else u D env G1
theorem qs_if {as bs : List Stmt} (hc : QT X W c ta) (ha : QSs X W as w) (hb : QSs X W bs u) : QS X W (.If c as bs pos) (wIfS ta w u) :=
  ⟨PS.wk (ps_if hc.pt ha.pss hb.pss) fun D σ H ⟨env, G, De, er, wg, h, le⟩ => ⟨_, env, G, _, er, wg, h, fun b G' H' p w' x' => by
    cases b with
    | true => simp only [if_true] at p ⊢; exact ⟨env, G', De, er.ext wg x', w', p, le.step x'⟩
    | false => simp only [Bool.false_eq_true, if_false] at p ⊢; exact ⟨env, G', De, er.ext wg x', w', p, le.step x'⟩, le.xle wg er⟩⟩
def wSet (i : Nat) (we : DE) : DS := fun D env G => we (fun C fs G' => D.ex C fs env G') env G fun d G1 => D.nx (env.set i (some d)) G1
theorem qs_set (i : Nat) {x : Str} {pos' : Pos} (hN : X.N.Nodup) (he : QE X W e wa) (hi : X.N[i]? = some x := by rfl) (hx : Loc X.env.scope x := by first | exact Or.inl rfl | exact Or.inr rfl) (hs : swapsWith e (some (.Name x pos')) pos.line X.env = pure false := by rfl)
    (hf : X.fn x = true ∨ X.env.scope.names.lookup x = some .local := by first | exact .inl rfl | exact .inr rfl) : QS X W (.Assign [.Name x pos'] e pos) (wSet i wa) :=
  ⟨PS.wk (ps_set (i := i) hN hi hx he.pe hs hf) fun D σ H ⟨env, G, De, er, wg, h, le⟩ => ⟨_, env, G, _, er, wg, h, fun d G' v H' p w' x' r => le.nx _ _ _ _ p ((er.ext wg x').set r i) w' x', le.xle wg er⟩⟩
end
end DL

namespace DL
open PySem PySem.Spec L2

/-! ### targets -/
abbrev DG := DV → Dv → Gh → (Dv → Gh → Prop) → Prop
abbrev DGs := List DV → Dv → Gh → (Dv → Gh → Prop) → Prop
def TGl (K : PySem.W.Frag) (g : DG) : TG := fun v σ H Q => ∃ d env G P, VR K H v d ∧ ER K H σ env ∧ WG K G H ∧ g d env G P ∧ ∀ env' G' σ' H', P env' G' → ER K H' σ' env' → WG K G' H' → Ext G H G' H' → Q σ' H'
def TGsl (K : PySem.W.Frag) (g : DGs) : TGs := fun v σ H Q => ∃ d env G P, VRs K H v d ∧ ER K H σ env ∧ WG K G H ∧ g d env G P ∧ ∀ env' G' σ' H', P env' G' → ER K H' σ' env' → WG K G' H' → Ext G H G' H' → Q σ' H'
structure QG (X : Cx) (tg : Expr) (t : TG) (g : DG) : Prop where
  pg : PG X tg t
  sim : ∀ v σ H Q, TGl X.K g v σ H Q → t v σ H Q
structure QGs (X : Cx) (tg : List Expr) (t : TGs) (g : DGs) : Prop where
  pg : PGs X tg t
  sim : ∀ v σ H Q, TGsl X.K g v σ H Q → t v σ H Q
/-- nothing but these slots is changed -/
def Keeps (vs : List Nat) (t : TG) : Prop := ∀ v σ H Q, t v σ H Q → t v σ H fun σ' H' => Q σ' H' ∧ wipe σ' vs = wipe σ vs
def KeepsS (vs : List Nat) (t : TGs) : Prop := ∀ v σ H Q, t v σ H Q → t v σ H fun σ' H' => Q σ' H' ∧ wipe σ' vs = wipe σ vs
def wgName (i : Nat) : DG := fun d env G Q => Q (env.set i (some d)) G
def wgNil : DGs := fun ds env G Q => match ds with | [] => Q env G | _ => False
def wgCons (g : DG) (gs : DGs) : DGs := fun ds env G Q => match ds with | d :: r => g d env G fun env1 G1 => gs r env1 G1 Q | _ => False
def wgTup (gs : DGs) : DG := fun d env G Q => match d with | .tup ds => gs ds env G Q | _ => False
theorem set_wipe {σ : L2.St} {i : Nat} {o : Option V} : ∀ {vs : List Nat}, i ∈ vs → wipe (σ.set i o) vs = wipe σ vs
  | [], h => by simp at h
  | v :: vs, h => by
    show (wipe (σ.set i o) vs).set v none = (wipe σ vs).set v none
    by_cases hv : i ∈ vs
    · rw [set_wipe hv]
    · have e : i = v := by simpa [hv] using h
      subst e
      have step : ∀ ws : List Nat, i ∉ ws → wipe (σ.set i o) ws = (wipe σ ws).set i o := by
        intro ws
        induction ws with
        | nil => intro _; rfl
        | cons w ws ih =>
          intro hn
          have hw : i ≠ w := fun q => hn (by simp [q])
          show (wipe (σ.set i o) ws).set w none = ((wipe σ ws).set w none).set i o
          rw [ih fun q => hn (List.mem_cons_of_mem _ q), List.set_comm _ _ hw]
      rw [step vs hv, List.set_set]
theorem wipe_get {σ : L2.St} {j : Nat} : ∀ vs : List Nat, (wipe σ vs)[j]? = if j ∈ vs then (if j < σ.length then some none else none) else σ[j]?
  | [] => by simp [wipe]
  | v :: vs => by
    have ih := wipe_get (σ := σ) (j := j) vs
    have hl := wipe_length σ vs
    show ((wipe σ vs).set v none)[j]? = _
    by_cases hj : v = j
    · subst hj
      by_cases h : v < σ.length
      · rw [List.getElem?_set_self (by omega)]
        simp [h]
      · rw [List.getElem?_eq_none (by simp; omega)]
        simp [h]
    · rw [List.getElem?_set_ne hj, ih]
      have : j ≠ v := fun q => hj q.symm
      simp [this]
theorem wipe_wipe {σ : L2.St} (vs : List Nat) : wipe (wipe σ vs) vs = wipe σ vs := by
  apply List.ext_getElem?
  intro j
  rw [wipe_get, wipe_get, wipe_length]
  split <;> simp_all
section
variable {X : Cx} {W : WX} {e : Expr} {st : Stmt} {sts : List Stmt} {es : List Expr} {pos : Pos} {wa wb : DE} {w u : DS}
theorem qg_name (i : Nat) {x : Str} (hN : X.N.Nodup) (hi : X.N[i]? = some x := by rfl) (hx : Loc X.env.scope x := by first | exact Or.inl rfl | exact Or.inr rfl) (hf : X.fn x = true ∨ X.env.scope.names.lookup x = some .local := by first | exact .inl rfl | exact .inr rfl) :
    QG X (.Name x pos) (gName i) (wgName i) :=
  ⟨pg_name hN hi hx hf, fun v σ H Q ⟨d, env, G, P, r, er, wg, h, k⟩ => k _ _ _ _ h (er.set r i) wg Ext.refl⟩
theorem keeps_name {vs : List Nat} {i : Nat} (h : i ∈ vs) : Keeps vs (gName i) := fun v σ H Q q => ⟨q, set_wipe h⟩
theorem qgs_nil : QGs X [] gNil wgNil := ⟨pgs_nil, fun v σ H Q ⟨d, env, G, P, r, er, wg, h, k⟩ => by
  cases d with
  | nil => cases r; exact ⟨rfl, k _ _ _ _ h er wg Ext.refl⟩
  | cons => exact h.elim⟩
theorem qgs_cons {tg : Expr} {tgs : List Expr} {t : TG} {ts : TGs} {g : DG} {gs : DGs} (h1 : QG X tg t g) (h2 : QGs X tgs ts gs) (hs : (assignEach (tg :: tgs) X.env).map (·.2) = assign tg X.env :: (assignEach tgs X.env).map (·.2) := by rfl) : QGs X (tg :: tgs) (gCons t ts) (wgCons g gs) :=
  ⟨pgs_cons h1.pg h2.pg hs, fun v σ H Q ⟨d, env, G, P, r, er, wg, h, k⟩ => by
    cases d with
    | nil => exact h.elim
    | cons d ds =>
      cases r with
      | cons r1 r2 =>
        exact ⟨_, _, rfl, h1.sim _ _ _ _ ⟨d, env, G, _, r1, er, wg, h, fun env' G' σ' H' p e' w' x' => h2.sim _ _ _ _ ⟨ds, env', G', P, r2.ext wg x', e', w', p, fun a b c q p2 e2 w2 x2 => k a b c q p2 e2 w2 (x'.trans x2)⟩⟩⟩⟩
theorem keeps_nil {vs : List Nat} : KeepsS vs gNil := fun v σ H Q ⟨h, q⟩ => ⟨h, q, rfl⟩
/-- what a target may be asked twice -/
def MonoG (t : TG) : Prop := ∀ v σ H Q Q', t v σ H Q → (∀ σ' H', Q σ' H' → Q' σ' H') → t v σ H Q'
def MonoGs (t : TGs) : Prop := ∀ v σ H Q Q', t v σ H Q → (∀ σ' H', Q σ' H' → Q' σ' H') → t v σ H Q'
theorem mono_name {i : Nat} : MonoG (gName i) := fun v σ H Q Q' h k => k _ _ h
theorem mono_nil : MonoGs gNil := fun v σ H Q Q' ⟨h, q⟩ k => ⟨h, k _ _ q⟩
theorem mono_cons {t : TG} {ts : TGs} (h1 : MonoG t) (h2 : MonoGs ts) : MonoGs (gCons t ts) := fun v σ H Q Q' ⟨a, r, e, h⟩ k => ⟨a, r, e, h1 _ _ _ _ _ h fun _ _ q => h2 _ _ _ _ _ q k⟩
theorem mono_tup {K : PySem.W.Frag} {n : Nat} {ts : TGs} (h2 : MonoGs ts) : MonoG (gTup K n ts) := fun v σ H Q Q' ⟨a, xs, e, s, l, h⟩ k => ⟨a, xs, e, s, l, h2 _ _ _ _ _ h k⟩
theorem keeps_cons {vs : List Nat} {t : TG} {ts : TGs} (m1 : MonoG t) (m2 : MonoGs ts) (h1 : Keeps vs t) (h2 : KeepsS vs ts) : KeepsS vs (gCons t ts) := fun v σ H Q ⟨a, r, e, h⟩ =>
  ⟨a, r, e, m1 _ _ _ _ _ (h1 _ _ _ _ h) fun σ' H' ⟨q, e1⟩ => m2 _ _ _ _ _ (h2 _ _ _ _ q) fun σ2 H2 ⟨q2, e2⟩ => ⟨q2, e2.trans e1⟩⟩
theorem keeps_tup {vs : List Nat} {K : PySem.W.Frag} {n : Nat} {ts : TGs} (h2 : KeepsS vs ts) : Keeps vs (gTup K n ts) := fun v σ H Q ⟨a, xs, e, s, l, h⟩ => ⟨a, xs, e, s, l, h2 _ _ _ _ h⟩
theorem qg_tup {tgs : List Expr} {k : Nat} {ts : TGs} {gs : DGs} {n : Nat} (hc : X.calm = true) (h : QGs X tgs ts gs) (hl : ∀ ds env G P, gs ds env G P → ds.length = n) (he : PG X (.Tuple tgs k pos) (gTup X.K n ts)) : QG X (.Tuple tgs k pos) (gTup X.K n ts) (wgTup gs) :=
  ⟨he, fun v σ H Q ⟨d, env, G, P, r, er, wg, hh, kk⟩ => by
    cases d <;> first | exact hh.elim | skip
    cases r with
    | tup sq rs => exact ⟨_, _, rfl, sq, by rw [rs.len]; exact hl _ _ _ _ hh, h.sim _ _ _ _ ⟨_, env, G, P, rs, er, wg, hh, kk⟩⟩⟩

/-! ### plain stores -/
def wAsg (we : DE) (g : DG) : DS := fun D env G => we (fun C fs G' => D.ex C fs env G') env G fun d G1 => g d env G1 D.nx
theorem qs_asg {tg : Expr} {t : TG} {g : DG} (he : QE X W e wa) (hg : QG X tg t g) (hs : swapsWithSole [tg] e pos.line X.env = pure false := by rfl) (hw : swappedStores [tg] e X.env = pure none := by rfl) (h1 : (assignEach [tg] X.env).map (·.2) = [assign tg X.env] := by rfl) : QS X W (.Assign [tg] e pos) (wAsg wa g) :=
  ⟨PS.wk (ps_asg he.pe hg.pg hs hw h1) fun D σ H ⟨env, G, De, er, wg, h, le⟩ => ⟨_, env, G, _, er, wg, h, fun d G' v H' p w' x' r =>
    hg.sim _ _ _ _ ⟨d, env, G', De.nx, r, er.ext wg x', w', p, fun env2 G2 σ2 H2 p2 e2 w2 x2 => le.nx _ _ _ _ p2 e2 w2 (x'.trans x2)⟩, le.xle wg er⟩⟩
/-- o[i] = v -/
abbrev D3 := DV → DV → DV → Gh → (Gh → Prop) → Prop
def lift3 (K : PySem.W.Frag) (r : D3) : TSet := fun o i v H Q => ∃ dv dx dy G P, VR K H o dv ∧ VR K H i dx ∧ VR K H v dy ∧ WG K G H ∧ r dv dx dy G P ∧ ∀ G' H', P G' → WG K G' H' → Ext G H G' H' → Q H'
def SetD (X : Cx) (r : D3) : Prop := PSet X (lift3 X.K r)
def wgSub (wo wi : DE) (r : D3) : DG := fun d env G Q => wo (fun _ _ _ => False) env G fun o G1 => wi (fun _ _ _ => False) env G1 fun i G2 => r o i d G2 fun G3 => Q env G3
abbrev W0 : WX := fun _ _ _ _ => False
theorem xle0 {K : PySem.W.Frag} {G : Gh} {H : Hp} {W : Value → Option Addr → Hp → Prop} : XLe K G H (fun _ _ _ => False) W := fun _ _ _ _ _ _ h => h.elim
theorem qg_sub {o i : Expr} {wo wi : DE} {r : D3} (ho : QE X W o wo) (hi : QE X W i wi) (hs : SetD X r) (hp : PG X (.Subscript o i pos) (gSub (TEl X.K W wo) (TEl X.K W wi) (lift3 X.K r))) : QG X (.Subscript o i pos) (gSub (TEl X.K W wo) (TEl X.K W wi) (lift3 X.K r)) (wgSub wo wi r) :=
  ⟨hp, fun v σ H Q ⟨d, env, G, P, rv, er, wg, h, k⟩ => ⟨_, env, G, _, er, wg, h, fun x G1 vx H1 h1 w1 x1 r1 => ⟨_, env, G1, _, er.ext wg x1, w1, h1, fun y G2 vy H2 h2 w2 x2 r2 =>
    ⟨x, y, d, G2, _, r1.ext w1 x2, r2, rv.ext wg (x1.trans x2), w2, h2, fun G3 H3 p3 w3 x3 => k _ _ _ _ p3 (er.ext wg ((x1.trans x2).trans x3)) w3 ((x1.trans x2).trans x3)⟩, xle0⟩, xle0⟩⟩

/-! ### what is walked -/
abbrev DI := DX → Dv → Gh → (List DV → (Gh → Prop) → Gh → Prop) → Prop
structure ItD (K : PySem.W.Frag) (J : It) (items : List DV) (stay : Gh → Prop) (G0 : Gh) (H0 : Hp) : Prop where
  go : ∀ i H G d, WG K G H → Ext G0 H0 G H → stay G → items[i]? = some d → J.go i H ∧ ∀ x H', J.yld i H x H' → WG K G H' ∧ Ext G H G H' ∧ VR K H' x d
  stop : ∀ i H G, WG K G H → Ext G0 H0 G H → stay G → items.length = i → J.stop i H
def TIl (K : PySem.W.Frag) (W : WX) (wi : DI) : TI := fun σ H R => ∃ (Y : DX) (env : Dv) (G : Gh) (P : List DV → (Gh → Prop) → Gh → Prop), ER K H σ env ∧ WG K G H ∧ wi Y env G P ∧
  (∀ items stay G1 H1 J, P items stay G1 → WG K G1 H1 → Ext G H G1 H1 → ItD K J items stay G1 H1 → R J H1) ∧ XLe K G H Y fun c d => W c d σ
structure QI (X : Cx) (W : WX) (tg iter : Expr) (wi : DI) : Prop where
  pi : PI X tg iter (TIl X.K W wi)
theorem PI.wk {tg iter : Expr} {t t' : TI} (h : PI X tg iter t) (i : ∀ σ H R, t' σ H R → t σ H R) : PI X tg iter t' := ⟨fun a b c d q I z => h.run a b c d q I (i _ _ _ z)⟩
def forL (stay : Gh → Prop) (g : DG) (wb : DS) (D : DEnds) : List DV → Dv → Gh → Prop
  | [], env, G => stay G ∧ D.nx env G
  | x :: r, env, G => stay G ∧ g x env G fun env1 G1 => wb { D with nx := forL stay g wb D r, ct := forL stay g wb D r, bk := D.nx } env1 G1
def wFor (wi : DI) (g : DG) (wb : DS) : DS := fun D env G => wi (fun C fs G' => D.ex C fs env G') env G fun items stay G1 => forL stay g wb D items env G1
theorem drop_cons {α : Type} {l : List α} {i : Nat} {x : α} {r : List α} (h : l.drop i = x :: r) : l[i]? = some x ∧ l.drop (i + 1) = r ∧ i < l.length := by
  have hl : i < l.length := by
    have := congrArg List.length h
    rw [List.length_drop, List.length_cons] at this
    omega
  rw [List.drop_eq_getElem_cons hl] at h
  injection h with h1 h2
  exact ⟨by rw [List.getElem?_eq_getElem hl, h1], h2, hl⟩
theorem qs_for {tg iter : Expr} {body : List Stmt} {t : TG} {wi : DI} {g : DG} {wl : DS} (hp : PassesOwn (model X.prog X.w) X.A X.env X.xe) (hc : X.calm = true) (hi : QI X W tg iter wi) (hg : QG X tg t g) (hb : QSs X W body wl)
    (hs : ∀ x, foldedSetIterable iter X.env x = pure x := by intro _; rfl) : QS X W (.For tg iter body [] pos) (wFor wi g wl) := by
  refine ⟨PS.wk (ps_for hp hc hi.pi hg.pg hb.pss hs) ?_⟩
  rintro D σ H ⟨env, G, De, er, wg, h, le⟩
  refine ⟨_, env, G, _, er, wg, h, fun items stay G1 H1 J p w1 x1 it => ?_, le.xle wg er⟩
  refine ⟨fun i m σ' H' => ∃ env' G', m = items.length - i ∧ i ≤ items.length ∧ ER X.K H' σ' env' ∧ WG X.K G' H' ∧ Ext G1 H1 G' H' ∧ forL stay g wl De (items.drop i) env' G', ⟨_, env, G1, rfl, Nat.zero_le _, er.ext wg x1, w1, Ext.refl, by simpa using p⟩, ?_⟩
  rintro i m σ' H' ⟨env', G', rfl, hle, er', w', x', f⟩
  cases q : items.drop i with
  | nil =>
    rw [q] at f
    have hl : items.length = i := Nat.le_antisymm (List.drop_eq_nil_iff.mp q) hle
    exact .inl ⟨it.stop i H' G' w' x' f.1 hl, le.nx _ _ _ _ f.2 er' w' (x1.trans x')⟩
  | cons d r =>
    rw [q] at f
    obtain ⟨hd, hr, hl⟩ := drop_cons q
    obtain ⟨jg, jy⟩ := it.go i H' G' d w' x' f.1 hd
    refine .inr ⟨jg, fun σ2 H2 => ∃ env2 G2, ER X.K H2 σ2 env2 ∧ WG X.K G2 H2 ∧ Ext G1 H1 G2 H2 ∧ forL stay g wl De r env2 G2, fun σ2 H2 ⟨env2, G2, e2, w2, x2, f2⟩ => ⟨items.length - (i + 1), by omega, env2, G2, rfl, hl, e2, w2, x2, by rw [hr]; exact f2⟩, fun y H2 hy => ?_⟩
    obtain ⟨w2, x2, rv⟩ := jy y H2 hy
    refine hg.sim _ _ _ _ ⟨d, env', G', _, rv, er'.ext w' x2, w2, f.2, fun env3 G3 σ3 H3 p3 e3 w3 x3 => ?_⟩
    have t3 := (x'.trans x2).trans x3
    exact ⟨env3, G3, _, e3, w3, p3, fun a b c d z e4 w4 x4 => ⟨a, b, e4, w4, t3.trans x4, z⟩, fun a b c d z e4 w4 x4 => le.nx _ _ _ _ z e4 w4 ((x1.trans t3).trans x4),
      fun a b c d z e4 w4 x4 => ⟨a, b, e4, w4, t3.trans x4, z⟩, fun a b c d z r4 w4 x4 => le.rt _ _ _ _ z r4 w4 ((x1.trans t3).trans x4), fun C fs a b c d xs H4 z e4 f4 r4 w4 x4 => le.ex _ _ _ _ _ _ _ _ z e4 f4 r4 w4 ((x1.trans t3).trans x4)⟩
/-- a loop by what holds between two turns -/
theorem forL_inv {stay : Gh → Prop} {g : DG} {wl : DS} {De : DEnds} {items : List DV} {env : Dv} {G : Gh} (Inv : Nat → Dv → Gh → Prop) (h0 : Inv 0 env G) (hs : ∀ i env G, i ≤ items.length → Inv i env G → stay G)
    (ht : ∀ i d env G (K : Dv → Gh → Prop), items[i]? = some d → i < items.length → Inv i env G → (∀ e g, Inv (i + 1) e g → K e g) → g d env G fun env1 G1 => wl { De with nx := K, ct := K, bk := De.nx } env1 G1)
    (he : ∀ env G, Inv items.length env G → De.nx env G) : forL stay g wl De items env G := by
  have key : ∀ k i env G, items.length - i = k → i ≤ items.length → Inv i env G → forL stay g wl De (items.drop i) env G := by
    intro k
    induction k with
    | zero =>
      intro i env G hk hi h
      have e : i = items.length := by omega
      subst e
      rw [List.drop_length]
      exact ⟨hs _ _ _ hi h, he _ _ h⟩
    | succ k ih =>
      intro i env G hk hi h
      have hl : i < items.length := by omega
      rw [List.drop_eq_getElem_cons hl]
      exact ⟨hs _ _ _ hi h, ht i _ env G _ (List.getElem?_eq_getElem hl) hl h fun e g p => ih (i + 1) e g (by omega) hl p⟩
  exact key _ 0 env G rfl (Nat.zero_le _) h0

/-! ### while -/
/-- a while by what holds ahead of each test, and a number that falls -/
def wWhile (c : DT) (wb : DS) : DS := fun D env G => ∃ (Inv : Nat → Dv → Gh → Prop), (∃ m, Inv m env G) ∧ ∀ m env G, Inv m env G →
  c (fun C fs G' => D.ex C fs env G') env G fun b G1 => if b = true then wb { D with nx := fun e g => ∃ m', m' < m ∧ Inv m' e g, ct := fun e g => ∃ m', m' < m ∧ Inv m' e g, bk := D.nx } env G1 else D.nx env G1
theorem qs_while {c : Expr} {body : List Stmt} {ta : DT} {wl : DS} (hp : PassesOwn (model X.prog X.w) X.A X.env X.xe) (hc : QT X W c ta) (hb : QSs X W body wl) : QS X W (.While c body [] pos) (wWhile ta wl) := by
  refine ⟨PS.wk (ps_while hp hc.pt hb.pss) ?_⟩
  rintro D σ H ⟨env, G, De, er, wg, ⟨Iv, ⟨m, i0⟩, step⟩, le⟩
  refine ⟨fun m σ' H' => ∃ env' G', ER X.K H' σ' env' ∧ WG X.K G' H' ∧ Ext G H G' H' ∧ Iv m env' G', ⟨m, env, G, er, wg, Ext.refl, i0⟩, ?_⟩
  rintro m σ' H' ⟨env', G', er', w', x', i'⟩
  refine ⟨_, env', G', _, er', w', step m env' G' i', fun b G2 H2 p w2 x2 => ?_, (le.step x').xle w' er'⟩
  have t2 := x'.trans x2
  cases b with
  | true =>
    simp only [if_true] at p ⊢
    exact ⟨fun σ3 H3 => ∃ m', m' < m ∧ ∃ env3 G3, ER X.K H3 σ3 env3 ∧ WG X.K G3 H3 ∧ Ext G H G3 H3 ∧ Iv m' env3 G3, fun σ3 H3 ⟨m', hm, z⟩ => ⟨m', hm, z⟩, env', G2, _, er'.ext w' x2, w2, p,
      fun a b c d ⟨m', hm, z⟩ e4 w4 x4 => ⟨m', hm, a, b, e4, w4, t2.trans x4, z⟩, fun a b c d z e4 w4 x4 => le.nx _ _ _ _ z e4 w4 (t2.trans x4), fun a b c d ⟨m', hm, z⟩ e4 w4 x4 => ⟨m', hm, a, b, e4, w4, t2.trans x4, z⟩,
      fun a b c d z r4 w4 x4 => le.rt _ _ _ _ z r4 w4 (t2.trans x4), fun C fs a b c d xs H4 z e4 f4 r4 w4 x4 => le.ex _ _ _ _ _ _ _ _ z e4 f4 r4 w4 (t2.trans x4)⟩
  | false =>
    simp only [Bool.false_eq_true, if_false] at p ⊢
    exact le.nx _ _ _ _ p (er'.ext w' x2) w2 t2

/-! ### comprehensions -/
structure QTs (X : Cx) (W : WX) (ifs : List Expr) (w : DT) : Prop where
  pts : PTs X ifs (TTl X.K W w)
def wYes : DT := fun _ _ G Q => Q true G
theorem qts_nil : QTs X W [] wYes := ⟨⟨fun a b c d q I ⟨Y, env, G, P, er, wg, h, k, kx⟩ => pts_nil.run a b c d q I (k _ _ _ h wg Ext.refl)⟩⟩
theorem qts_one {c : Expr} {t : DT} (h : QT X W c t) : QTs X W [c] t := ⟨pts_one h.pt⟩
def lcL (stay : Gh → Prop) (g : DG) (tt : DT) (te : DE) (env : Dv) (Q : DV → Gh → Prop) : List DV → List DV → Gh → Prop
  | [], acc, G => stay G ∧ ∀ p, G p = none → Q (.ref p) (gup G p (.lst acc))
  | x :: r, acc, G => stay G ∧ g x env G fun env1 G1 => tt (fun _ _ _ => False) env1 G1 fun b G2 => if b = true then te (fun _ _ _ => False) env1 G2 fun y G3 => acc.length < sizeLine ∧ lcL stay g tt te env Q r (acc ++ [y]) G3 else lcL stay g tt te env Q r acc G2
/-- a comprehension by what holds between two turns -/
theorem lcL_inv {stay : Gh → Prop} {g : DG} {tt : DT} {te : DE} {env : Dv} {Q : DV → Gh → Prop} {items : List DV} {G : Gh} (Inv : Nat → List DV → Gh → Prop) (h0 : Inv 0 [] G) (hs : ∀ i acc G, i ≤ items.length → Inv i acc G → stay G)
    (ht : ∀ i d acc G (K : List DV → Gh → Prop), items[i]? = some d → i < items.length → Inv i acc G → (∀ a g, Inv (i + 1) a g → K a g) →
      g d env G fun env1 G1 => tt (fun _ _ _ => False) env1 G1 fun b G2 => if b = true then te (fun _ _ _ => False) env1 G2 fun y G3 => acc.length < sizeLine ∧ K (acc ++ [y]) G3 else K acc G2)
    (he : ∀ acc G, Inv items.length acc G → ∀ p, G p = none → Q (.ref p) (gup G p (.lst acc))) : lcL stay g tt te env Q items [] G := by
  have key : ∀ k i acc G, items.length - i = k → i ≤ items.length → Inv i acc G → lcL stay g tt te env Q (items.drop i) acc G := by
    intro k
    induction k with
    | zero =>
      intro i acc G hk hi h
      have e : i = items.length := by omega
      subst e
      rw [List.drop_length]
      exact ⟨hs _ _ _ hi h, he _ _ h⟩
    | succ k ih =>
      intro i acc G hk hi h
      have hl : i < items.length := by omega
      rw [List.drop_eq_getElem_cons hl]
      exact ⟨hs _ _ _ hi h, ht i _ acc G _ (List.getElem?_eq_getElem hl) hl h fun e g p => ih (i + 1) e g (by omega) hl p⟩
  exact key _ 0 [] G rfl (Nat.zero_le _) h0
structure GOk (K : PySem.W.Frag) (vs : List Nat) (t : TG) (g : DG) : Prop where
  sim : ∀ v σ H Q, TGl K g v σ H Q → t v σ H Q
  kp : Keeps vs t
  mo : MonoG t
structure GsOk (K : PySem.W.Frag) (vs : List Nat) (n : Nat) (t : TGs) (g : DGs) : Prop where
  sim : ∀ v σ H Q, TGsl K g v σ H Q → t v σ H Q
  kp : KeepsS vs t
  mo : MonoGs t
  len : ∀ ds env G P, g ds env G P → ds.length = n
theorem gok_name {K : PySem.W.Frag} {vs : List Nat} {i : Nat} (h : i ∈ vs := by decide) : GOk K vs (gName i) (wgName i) := ⟨fun v σ H Q ⟨d, env, G, P, r, er, wg, h, k⟩ => k _ _ _ _ h (er.set r i) wg Ext.refl, keeps_name h, mono_name⟩
theorem gsok_nil {K : PySem.W.Frag} {vs : List Nat} : GsOk K vs 0 gNil wgNil := ⟨fun v σ H Q ⟨d, env, G, P, r, er, wg, h, k⟩ => by
  cases d with
  | nil => cases r; exact ⟨rfl, k _ _ _ _ h er wg Ext.refl⟩
  | cons => exact h.elim, keeps_nil, mono_nil, fun ds env G P h => by cases ds with | nil => rfl | cons => exact h.elim⟩
theorem gsok_cons {K : PySem.W.Frag} {vs : List Nat} {n : Nat} {t : TG} {ts : TGs} {g : DG} {gs : DGs} (h1 : GOk K vs t g) (h2 : GsOk K vs n ts gs) (mg : ∀ d env G P, g d env G P → ∃ e g', P e g') : GsOk K vs (n + 1) (gCons t ts) (wgCons g gs) :=
  ⟨fun v σ H Q ⟨d, env, G, P, r, er, wg, h, k⟩ => by
    cases d with
    | nil => exact h.elim
    | cons d ds =>
      cases r with
      | cons r1 r2 =>
        exact ⟨_, _, rfl, h1.sim _ _ _ _ ⟨d, env, G, _, r1, er, wg, h, fun env' G' σ' H' p e' w' x' => h2.sim _ _ _ _ ⟨ds, env', G', P, r2.ext wg x', e', w', p, fun a b c q p2 e2 w2 x2 => k a b c q p2 e2 w2 (x'.trans x2)⟩⟩⟩,
    keeps_cons h1.mo h2.mo h1.kp h2.kp, mono_cons h1.mo h2.mo, fun ds env G P h => by
      cases ds with
      | nil => exact h.elim
      | cons d ds => obtain ⟨e, g', q⟩ := mg _ _ _ _ h; simp [h2.len _ _ _ _ q]⟩
theorem live_name {i : Nat} : ∀ d env G (P : Dv → Gh → Prop), wgName i d env G P → ∃ e g', P e g' := fun _ _ _ _ h => ⟨_, _, h⟩
theorem live_nil : ∀ d env G (P : Dv → Gh → Prop), wgNil d env G P → ∃ e g', P e g' := fun d _ _ _ h => by cases d with | nil => exact ⟨_, _, h⟩ | cons => exact h.elim
theorem live_cons {g : DG} {gs : DGs} (h1 : ∀ d env G (P : Dv → Gh → Prop), g d env G P → ∃ e g', P e g') (h2 : ∀ d env G (P : Dv → Gh → Prop), gs d env G P → ∃ e g', P e g') : ∀ d env G (P : Dv → Gh → Prop), wgCons g gs d env G P → ∃ e g', P e g' := fun d _ _ _ h => by
  cases d with
  | nil => exact h.elim
  | cons d ds => obtain ⟨e, g', q⟩ := h1 _ _ _ _ h; exact h2 _ _ _ _ q
theorem live_tup {gs : DGs} (h2 : ∀ d env G (P : Dv → Gh → Prop), gs d env G P → ∃ e g', P e g') : ∀ d env G (P : Dv → Gh → Prop), wgTup gs d env G P → ∃ e g', P e g' := fun d _ _ _ h => by
  cases d <;> first | exact h.elim | exact h2 _ _ _ _ h
theorem gok_tup {K : PySem.W.Frag} {vs : List Nat} {n : Nat} {ts : TGs} {gs : DGs} (h : GsOk K vs n ts gs) : GOk K vs (gTup K n ts) (wgTup gs) :=
  ⟨fun v σ H Q ⟨d, env, G, P, r, er, wg, hh, kk⟩ => by
    cases d <;> first | exact hh.elim | skip
    cases r with
    | tup sq rs => exact ⟨_, _, rfl, sq, by rw [rs.len]; exact h.len _ _ _ _ hh, h.sim _ _ _ _ ⟨_, env, G, P, rs, er, wg, hh, kk⟩⟩, keeps_tup h.kp, mono_tup h.mo⟩
def wLc (vs : List Nat) (wi : DI) (g : DG) (tt : DT) (te : DE) : DE := fun Y env G Q => wi Y env G fun items stay G1 => lcL stay g tt te (wipeD env vs) Q items [] G1
theorem lc_parts {K : PySem.W.Frag} {vs : List Nat} {wi : DI} {t : TG} {g : DG} {tt : DT} {te : DE} (go : GOk K vs t g) {σ : L2.St} {H : Hp} {Q : VK} (h : TEl K W (wLc vs wi g tt te) σ H Q) :
    tLc (TIl K W wi) t (TTl K W0 tt) (TEl K W0 te) vs σ H Q := by
  obtain ⟨Y, env, G, P, er, wg, h, k, kx⟩ := h
  refine ⟨Y, env, G, _, er, wg, h, fun items stay G1 H1 J p w1 x1 it D hD => ?_, kx⟩
  refine ⟨fun i m H' => ∃ G' acc ad, m = items.length - i ∧ i ≤ items.length ∧ H' D = some (.lst acc) ∧ VRs K H' acc ad ∧ WG K G' H' ∧ G' D = none ∧ Ext G1 H1 G' H' ∧ lcL stay g tt te (wipeD env vs) P (items.drop i) ad G',
    ⟨_, G1, [], [], rfl, Nat.zero_le _, upd_same, .nil, w1.new hD, w1.non hD, Ext.new hD, by simpa using p⟩, ?_⟩
  rintro i m H' ⟨G', acc, ad, rfl, hle, eD, ra, w', nD, x', f⟩
  cases q : items.drop i with
  | nil =>
    rw [q] at f
    have hl : items.length = i := Nat.le_antisymm (List.drop_eq_nil_iff.mp q) hle
    refine .inl ⟨it.stop i H' G' w' x' f.1 hl, k _ _ _ _ (f.2 D nD) (fun a c e => ?_) (fun a o e n => ?_) (.ref D)⟩
    · by_cases ha : a = D
      · subst ha
        rw [gup_same] at e; cases e
        exact ⟨acc, eD, ra⟩
      · rw [gup_ne ha] at e
        exact w' a c e
    · obtain ⟨e2, n2⟩ := (x1.trans x') a o e n
      obtain ⟨e3, _⟩ := x1 a o e n
      have ha : a ≠ D := by rintro rfl; rw [hD] at e3; cases e3
      exact ⟨e2, by rw [gup_ne ha]; exact n2⟩
  | cons d r =>
    rw [q] at f
    obtain ⟨hd, hr, hl⟩ := drop_cons q
    obtain ⟨jg, jy⟩ := it.go i H' G' d w' x' f.1 hd
    refine .inr ⟨jg, fun H2 => ∃ G2 acc2 ad2, H2 D = some (.lst acc2) ∧ VRs K H2 acc2 ad2 ∧ WG K G2 H2 ∧ G2 D = none ∧ Ext G1 H1 G2 H2 ∧ lcL stay g tt te (wipeD env vs) P r ad2 G2,
      fun H2 ⟨G2, acc2, ad2, a1, a2, a3, a4, a5, a6⟩ => ⟨items.length - (i + 1), by omega, G2, acc2, ad2, rfl, hl, a1, a2, a3, a4, a5, by rw [hr]; exact a6⟩, fun y H2 hy => ?_⟩
    obtain ⟨w2, x2, rv⟩ := jy y H2 hy
    obtain ⟨eD2, nD2⟩ := x2 D _ eD nD
    have ew : ER K H' σ env := er.ext wg (x1.trans x')
    refine go.mo _ _ _ _ _ (go.kp _ _ _ _ (go.sim _ _ _ _ ⟨d, wipeD env vs, G', _, rv, (ew.wipe vs).ext w' x2, w2, f.2, fun env3 G3 σ3 H3 p3 e3 w3 x3 => (?_ : TTl K W0 tt σ3 H3 _)⟩)) fun σ3 H3 ⟨q3, e3⟩ => ⟨e3.trans (wipe_wipe vs), q3⟩
    refine ⟨_, env3, G3, _, e3, w3, p3, fun b G4 H4 p4 w4 x4 => ?_, xle0⟩
    have t4 := (x2.trans x3).trans x4
    obtain ⟨eD4, nD4⟩ := t4 D _ eD nD
    cases b with
    | false =>
      simp only [Bool.false_eq_true, if_false] at p4 ⊢
      exact ⟨G4, acc, ad, eD4, ra.ext w' t4, w4, nD4, x'.trans t4, p4⟩
    | true =>
      simp only [if_true] at p4 ⊢
      refine ⟨_, env3, G4, _, e3.ext w3 x4, w4, p4, fun z G5 vz H5 p5 w5 x5 r5 => ?_, xle0⟩
      have t5 := t4.trans x5
      obtain ⟨eD5, nD5⟩ := t5 D _ eD nD
      have ra5 := ra.ext w' t5
      -- the new list is a cell for a moment
      have wp : WG K (gup G5 D (.lst ad)) H5 := fun a c e => by
        by_cases ha : a = D
        · subst ha
          rw [gup_same] at e; cases e
          exact ⟨acc, eD5, ra5⟩
        · rw [gup_ne ha] at e
          exact w5 a c e
      have r6 : VRs K H5 (acc ++ [vz]) (ad ++ [z]) := ra5.app (.one r5)
      have xp : Ext (gup G5 D (.lst ad)) H5 (gup (gup G5 D (.lst ad)) D (.lst (ad ++ [z]))) (upd H5 D (.lst (acc ++ [vz]))) := Ext.setC gup_same
      refine ⟨acc, eD5, by rw [ra.len]; exact p5.1, G5, acc ++ [vz], ad ++ [z], upd_same, r6.ext wp xp, ?_, nD5, fun a o e n => ?_, p5.2⟩
      · refine (wp.setL gup_same r6).less fun a c e => ?_
        have ha : a ≠ D := by rintro rfl; rw [nD5] at e; cases e
        rw [gup_ne ha, gup_ne ha]; exact e
      · obtain ⟨e6, n6⟩ := (x'.trans t5) a o e n
        have ha : a ≠ D := by rintro rfl; rw [hD] at e; cases e
        exact ⟨by rw [upd_ne ha]; exact e6, n6⟩
theorem q_lc {elt tg iter : Expr} {ifs : List Expr} {scope : Scope} (own : List (Str × Nat)) {wi : DI} {t : TG} {g : DG} {tt : DT} {te : DE} (hc : X.calm = true) (hN : X.N.Nodup) (hi : QI X W tg iter wi) (ok : blkC X.N X.env.scope scope own = true)
    (hg : ∀ (s : Shared) (H : Hp) (C : Addr) (cl : List (Str × Addr)) (fp : List Addr), PG (X.blk s H scope (compEnvC scope cl C X.env) fp) tg t) (go : GOk X.K (own.map (·.2)) t g)
    (ht : ∀ (s : Shared) (H : Hp) (C : Addr) (cl : List (Str × Addr)) (fp : List Addr), QTs (X.blk s H scope (compEnvC scope cl C X.env) fp) W0 ifs tt)
    (he : ∀ (s : Shared) (H : Hp) (C : Addr) (cl : List (Str × Addr)) (fp : List Addr), QE (X.blk s H scope (compEnvC scope cl C X.env) fp) W0 elt te) (hs : ∀ x, foldedSetIterable iter X.env x = pure x := by intro _; rfl) :
    QE X W (.ListComp elt [⟨tg, iter, ifs, 0⟩] scope pos) (wLc (own.map (·.2)) wi g tt te) :=
  ⟨PE.wk (pe_lc hc hN hi.pi (blkOk_by ok) hg (fun a b c d f => (ht a b c d f).pts) (fun a b c d f => (he a b c d f).pe) hs) fun σ H Q h => lc_parts go h⟩
end
end DL

namespace DL
open PySem PySem.Spec L2
open PyProof.Rows hiding St

/-! ### defs: their promises at the data level; no object is being shown meanwhile -/
abbrev DF := List DV → Gh → (DV → Gh → Prop) → DX → Prop
def liftF (K : PySem.W.Frag) (d : DF) : Sp := fun vs H Q E => ∃ ds G P Y, VRs K H vs ds ∧ WG K G H ∧ d ds G P Y ∧
  (∀ r G' v H', P r G' → WG K G' H' → Ext G H G' H' → VR K H' v r → Q v H') ∧ XLe K G H Y E
structure FG (P : Program) (w : World) (K : PySem.W.Frag) (mg : Str → Option Value) (base : Heap) (k : Nat) (f : Addr) (fd : FuncData) (ps : List Str) (d : DF) : Prop where
  len : ∀ ds G Q Y, d ds G Q Y → ds.length = ps.length
  run : ∀ (A : Around) (outer : List Env) (s : Shared) (H : Hp) (args : Args) (us : List Value) (vs : List V) (Q : VK) (E : XK), A.guards = some [] → Room k A → Env0 P w K mg base A outer s H →
    BindsTo s fd args (ps.zip us) → Vals vs us → liftF K d vs H Q E → codeAny (model P w) A (.call (.ref f) args) (CR (L2.CX P w) outer P w H s Q E) s
theorem FG.up {P : Program} {w : World} {K : PySem.W.Frag} {mg : Str → Option Value} {base : Heap} {j k : Nat} {f : Addr} {fd : FuncData} {ps : List Str} {d : DF} (F : FG P w K mg base j f fd ps d) (h : j ≤ k) : FG P w K mg base k f fd ps d :=
  ⟨F.len, fun A o s H a us vs Q E hg hr => F.run A o s H a us vs Q E hg (hr.mono h)⟩
section
variable {X : Cx} {W : WX} {k : Nat} {f : Addr} {fd : FuncData} {ps : List Str} {d : DF} {x : Str} {p pos : Pos} {e : Expr} {es : List Expr} {wr : DA}
/-- one call -/
theorem run_call {pins : List (Addr × Obj)} {σ : L2.St} {H : Hp} {s : Shared} {Q : VK} {us : List Value} {vs : List V} (F : FG X.prog X.w X.K X.mg X.base k f fd ps d) (hg : X.A.guards = some []) (hr : Room k X.A) (hb : Binds X.K fd ps [])
    (tk : Takes X W) (I : Inv X pins σ H s) (r : Vals vs us) (h : liftF X.K d vs H Q (WE W σ)) : wpAny (model X.prog X.w) X.A (call (.ref f) us) (EP X pins σ Q) X.xe s := by
  have hl : us.length = ps.length := by
    obtain ⟨ds, G, P, Y, rv, _, hd, _⟩ := h
    rw [← r.length, rv.len, F.len _ _ _ _ hd]
  have bb := hb s us I.kIn (by rw [List.append_nil]; exact hl)
  rw [List.append_nil] at bb
  refine wpAny_call (codeAny_mono (F.run X.A X.stack s H ⟨us, []⟩ us vs Q (WE W σ) hg hr I.env0 bb r h) ?_)
  intro res s' hres
  match res, hres with
  | .error er, hres => exact passAt tk σ pins H s er s' I hres
  | .ok (.ret u), hres => exact I.after hres
  | .ok .next, hres => exact hres.elim
  | .ok .brk, hres => exact hres.elim
  | .ok .cont, hres => exact hres.elim
def wCall (d : DF) (wr : DA) : DE := fun Y env G Q => wr Y env G fun ds G1 => d ds G1 Q Y
theorem q_call (F : FG X.prog X.w X.K X.mg X.base k f fd ps d) (hgd : X.A.guards = some []) (hr : Room k X.A) (hm : X.mg x = some (.ref f)) (hk : PySem.W.keepIn X.K (.ref f) = true) (hb : Binds X.K fd ps []) (tk : Takes X W)
    (ha : QA X W (e :: es) wr) (hg : Gl X x := by rfl) (hdb : (x == ("__debug__" : Str)) = false := by decide) (he : starEach (e :: es) X.env = (false, eval e X.env) :: starEach es X.env := by rfl) (hpl : (backTo pos (starEach es X.env)).any (·.1) = false := by rfl) :
    QE X W (.Call (.Name x p) (e :: es) [] pos) (wCall d wr) := by
  refine ⟨⟨?_⟩⟩
  rintro pins s σ H Q I ⟨Y, env, G, P, er, wg, h, kq, kx⟩
  refine wpAny_Call_Name_kw (ld_glob I hg hm ?_ hdb)
  refine PySem.W.callWith_K (h₀ := X.base) I.ok.mod.kin hk ?_ he hpl
  refine thn (ha.pa.run pos pins s σ H (fun vs H1 => liftF X.K d vs H1 Q (WE W σ)) I ⟨Y, env, G, _, er, wg, h, fun ds G1 vs H1 h1 w1 x1 r1 => ?_, kx⟩) ?_
  · exact ⟨ds, G1, P, Y, r1, w1, h1, fun r G' v H' q w' x' r' => kq r G' v H' q w' (x1.trans x') r', kx.step x1⟩
  · rintro us s1 ⟨vs, H1, I1, r, q⟩
    exact ⟨I1.kIn, run_call F hgd hr hb tk I1 r q⟩
theorem q_call0 (F : FG X.prog X.w X.K X.mg X.base k f fd ps d) (hgd : X.A.guards = some []) (hr : Room k X.A) (hm : X.mg x = some (.ref f)) (hk : PySem.W.keepIn X.K (.ref f) = true) (hb : Binds X.K fd ps []) (tk : Takes X W)
    (hg : Gl X x := by rfl) (hdb : (x == ("__debug__" : Str)) = false := by decide) : QE X W (.Call (.Name x p) [] [] pos) (wCall d wNil) := by
  refine ⟨⟨?_⟩⟩
  rintro pins s σ H Q I ⟨Y, env, G, P, er, wg, h, kq, kx⟩
  refine wpAny_Call_Name_kw (ld_glob I hg hm ?_ hdb)
  exact PySem.W.callWith_K0 I.kIn hk (run_call (us := []) (vs := []) F hgd hr hb tk I .nil ⟨[], G, P, Y, .nil, wg, h, kq, kx⟩)
end

/-! ### a def's body -/
section
variable {P : Program} {w : World} {K : PySem.W.Frag} {mg : Str → Option Value} {base : Heap}
/-- what a body's ends are: it comes to its end, or hands back -/
def bodyEnds (Q : DV → Gh → Prop) (Y : DX) : DEnds := { nx := fun _ G => Q .non G, rt := Q, ex := fun C fs _ G => Y C fs G }
def start0 (n : Nat) (ds : List DV) : Dv := ds.map some ++ List.replicate (n - ds.length) none
/-- the wish of a def's body about exceptions -/
abbrev WD (E : XK) : WX := fun c d _ H => E c d H
theorem fg_of {x qual : Str} {st : Stmt} {f : Addr} {fd : FuncData} {N ps : List Str} {k : Nat} {d : DF} {wb : DS} (F : Fun K x qual st f fd) (S : FnScope N ps (defScope st)) (len : ∀ ds G Q Y, d ds G Q Y → ds.length = ps.length)
    (hbody : ∀ (cdv : Value) (A : Around) (outer : List Env) (s : Shared) (H : Hp) (E : XK), (A.deeper (envOfC qual (defScope st) s.heap.objs.size f cdv)).guards = some [] → Room k (A.deeper (envOfC qual (defScope st) s.heap.objs.size f cdv)) →
      QSs (cxOf (L2.CX P w) P w K mg base N qual (defScope st) f cdv A outer s H E) (WD E) (defBody st) wb)
    (hq : ∀ ds G Q Y, d ds G Q Y → wb (bodyEnds Q Y) (start0 N.length ds) G) : FG P w K mg base (k + 1) f fd ps d := by
  obtain ⟨oc, od, kV, doc, pm, an, cdv, ct, osl, rfl, lk, hcd⟩ := F.ex
  refine ⟨len, ?_⟩
  intro A outer s H args us vs Q E hgd hr e0 hb r hsp
  obtain ⟨ds, G, Pq, Y, rv, wg, hd, kq, kx⟩ := hsp
  have hl : vs.length = ps.length := rv.len.trans (len _ _ _ _ hd)
  have inK : K.In s.heap := e0.mod.kin.keeps fun b o q => (e0.bs b o q).1
  have nolim : s.heap.NoLimit := e0.mod.nolimit.keeps fun b o q => (e0.bs b o q).1
  have named : ∀ y ∈ ps.zip us, (defScope st).names.lookup y.1 = some .local ∨ ((defScope st).names.lookup y.1 = some .cell ∧ ((cellsFrom (s.heap.objs.size + 1) (defScope st).names []).lookup y.1).isSome = true) := by
    intro y hy
    have hm : y.1 ∈ ps := (List.of_mem_zip (show (y.1, y.2) ∈ ps.zip us from hy)).1
    exact (S.par y.1 hm).imp id fun q => ⟨q, PySem.W.cellsFrom_some _ _ _ (.inl q)⟩
  refine codeAny_call_function hr.depth (inK _ _ lk) rfl S.co S.gen rfl (PySem.W.codeRec_of inK hcd) (hb _ _ _ _ ?_)
  refine wpAny_newFunctionEnv_cells S.kind named ?_
  intro env henv s1 ic
  subst henv
  refine ⟨nolim.keeps ic.toInCall.keep, codeAny_func ?_⟩
  have body := hbody cdv A outer s H E hgd (hr.deeper _)
  have I := inv_start (CX := L2.CX P w) (E := E) S hr.hd e0 hl r ic
  refine wpAny_mono (body.pss.run [] s1 (start N vs) H { nx := fun _ H' => Q .non H', rt := Q } I ?_) ?_ fun _ _ z => z
  · refine ⟨start0 N.length ds, G, bodyEnds Pq Y, ?_, wg, hq _ _ _ _ hd, ?_⟩
    · show ER K H (vs.map some ++ List.replicate (N.length - vs.length) none) _
      rw [rv.len]
      exact ER.start rv _
    · exact ⟨fun env G' σ H' q er wg' x' => kq _ _ _ _ q wg' x' .non, fun _ _ _ _ z => z.elim, fun _ _ _ _ z => z.elim, fun r' G' v H' q r wg' x' => kq _ _ _ _ q wg' x' r,
        fun C fs env G' σ dd xs H' q e fr er wg' x' => kx C fs G' dd xs H' q e fr wg' x'⟩
  · intro fl s' hs
    match fl, hs with
    | .ret u, ⟨v, σ', H', J, rv', q⟩ => exact ⟨v, H', J.os, J.bare, J.base, J.hok, rv', q⟩
    | .next, ⟨σ', H', J, q⟩ => exact ⟨V.non, H', J.os, J.bare, J.base, J.hok, rfl, q⟩
    | .brk, ⟨_, _, _, q⟩ => exact q.elim
    | .cont, ⟨_, _, _, q⟩ => exact q.elim
end

/-! ### the law's own call -/
/-- what a law promises: of a list of at most 63 ints it tells True -/
def lawD : DF := fun ds G Q _ => ∃ ns : List Int, ds = [.ro (ns.map DV.int)] ∧ ns.length ≤ 63 ∧ (G = fun _ => none) ∧ ∀ G', Q (.bl true) G'
section
variable {P : Program} {w : World} {K : PySem.W.Frag} {mg mb : Str → Option Value} {k : Nat} {fa a : Addr} {fd : FuncData} {x : Str} {s1 : Shared} {vs : List Value} {ns : List Int}
theorem law_enter (inK : K.In s1.heap) (gl : s1.heap.Ns mainGlobals mg) (bl : s1.heap.Ns builtinsNs mb) (blv : ∀ x : Str, x ≠ "__name__" → mb x = bootBuiltins x) (nolim : s1.heap.NoLimit) (nog : s1.gens = #[])
    (at_ : s1.heap.get? a = some { cls := .type "list", data := .seq vs.toArray }) (hints : PyProof.Rows.IntsAre vs ns) (few : ns.length ≤ 63) (room : Room k callerA)
    (F : ∀ base : Heap, K.In base → base.Ns mainGlobals mg → FG P w K mg base k fa fd [x] lawD) (binds : ∀ (s : Shared) (u : Value), BindsTo s fd ⟨[u], []⟩ [(x, u)]) :
    codeAny (model P w) callerA (.call (.ref fa) ⟨[.ref a], []⟩) (fun r s' => r = .ok (.ret (.bool true)) ∧ OldK s1.heap s'.heap ∧ s'.os = s1.os ∧ AllBare s'.gens) s1 := by
  have line : ns.length ≤ sizeLine := Nat.le_trans few (by decide)
  have vr := vals_ints hints
  have cnt := hints.length
  have sat : ∃ H : Hp, (∀ b u, H b = some u → b = a ∧ u = .frz { cls := .type "list", data := .seq vs.toArray } (.lst (ns.map V.int)) ∧ K.lookup a = none) ∧ RoL K H a (ns.map V.int) := by
    cases q : K.lookup a with
    | none =>
      refine ⟨fun b => if b = a then some (.frz { cls := .type "list", data := .seq vs.toArray } (.lst (ns.map V.int))) else none, fun b u e => ?_, .inl ⟨{ cls := .type "list", data := .seq vs.toArray }, if_pos rfl⟩⟩
      by_cases hb : b = a
      · simp only [hb, if_true] at e
        exact ⟨hb, (Option.some.inj e).symm, rfl⟩
      · simp [hb] at e
    | some o =>
      have same := inK a o q
      rw [at_] at same
      cases same
      refine ⟨fun _ => none, fun b u e => (nomatch e), .inr (.inr ⟨_, vs.toArray, _, q, rfl, rfl, rfl, ?_, ?_⟩)⟩
      · rw [List.size_toArray, cnt]; exact line
      · simpa using vr
  obtain ⟨H, only, ro⟩ := sat
  have hok : HOk P w H s1.heap := by
    intro b u e
    obtain ⟨rfl, rfl, _⟩ := only b u e
    exact ⟨at_, by rw [List.length_map]; exact line, vs, _, vr, at_⟩
  have notDict : ∀ {b : Addr} {o : Obj} {es : Array DictEntry} {n : Nat}, s1.heap.get? b = some o → o.data = .dict es n → H b = none := by
    intro b o es n e d
    cases q : H b with
    | none => rfl
    | some u =>
      obtain ⟨rfl, _, _⟩ := only b u q
      rw [at_] at e; cases e
      cases d
  have nsb : ∀ {b : Addr} {m : Str → Option Value}, s1.heap.Ns b m → (hidT s1.heap H).Ns b m := by
    rintro b m ⟨o, es, n, e, d, r⟩
    exact ⟨o, es, n, hidT_get e (notDict e d), d, r⟩
  have inB : K.In (hidT s1.heap H) := by
    intro b o e
    refine hidT_get (inK b o e) ?_
    cases q : H b with
    | none => rfl
    | some u =>
      obtain ⟨rfl, _, z⟩ := only b u q
      rw [z] at e; cases e
  have md : Mod K mg (hidT s1.heap H) := by
    refine ⟨inB, nsb gl, ⟨mb, nsb bl, blv⟩, ?_⟩
    obtain ⟨mc, l1, l2⟩ := nolim
    exact ⟨mc, nsb l1, l2⟩
  have env0 : Env0 P w K mg (hidT s1.heap H) callerA [] s1 H := by
    refine ⟨rfl, md, fun b o e => of_hidT e, Nat.le_of_eq (hidT_size _ _), trivial, fun b hb => ?_, hok, .of_eq nog⟩
    exact absurd (show b ∈ ([] : List Addr) from hb) (by simp)
  have wg : WG K (fun _ => none) H := fun a c e => (nomatch e)
  have sp : liftF K lawD [.ref a] H (fun v _ => v = .bl true) fun _ _ _ => False := by
    refine ⟨[.ro (ns.map DV.int)], fun _ => none, fun d _ => d = .bl true, fun _ _ _ => False, .cons (.ro ro (VRs.ints ns)) .nil, wg, ⟨ns, rfl, few, rfl, fun _ => rfl⟩, ?_, xle0⟩
    rintro r G' v H' rfl _ _ rv
    cases rv
    rfl
  refine codeAny_mono ((F _ inB (nsb gl)).run callerA [] s1 H ⟨[.ref a], []⟩ [.ref a] [.ref a] _ _ rfl room env0 (binds s1 (.ref a)) (.cons rfl .nil) sp) ?_
  intro res s' hres
  match res, hres with
  | .error er, hres =>
    obtain ⟨_, _, _, _, _, _, _, _, _, _, _, _, z⟩ := hres
    exact z.elim
  | .ok .next, hres => exact hres.elim
  | .ok .brk, hres => exact hres.elim
  | .ok .cont, hres => exact hres.elim
  | .ok (.ret u), ⟨v, H', os, bare, un, hok', rv, q⟩ =>
    have q' : v = .bl true := q
    subst q'
    cases (show u = Value.bool true from rv)
    refine ⟨rfl, OldK.of_keep fun b o e => ?_, os, bare⟩
    cases z : H b with
    | none => exact un.keep b o e z (fun y => absurd (show b ∈ ([] : List Addr) from y) (by simp)) (by simp)
    | some y =>
      obtain ⟨rfl, rfl, _⟩ := only b y z
      have z2 := un.frzs b _ _ z
      obtain ⟨e1, _⟩ := hok' b _ z2
      rw [at_] at e; cases e
      exact e1
end
/-- the goal behind the head -/
theorem law_walk {l : PySem.W.OpenLaw} {k : Nat} {q : Program} {loose : List Str} {XP : (Str → Option Value) → Heap → Prop} {YP : World → Heap → Prop} {d : DefRec} {K : Params → PySem.W.Frag} {x : Str}
    (hn : l.most = some 63) (hdf : d.params.defaults = []) (hr : Room k callerA) (hY : ∀ (w : World) (h : Heap), YP w h → (K w.params).In h)
    (F : ∀ (w : World) (mg : Str → Option Value) (fa : Addr) (h : Heap), (K w.params).In h → h.Ns mainGlobals mg → mg d.name = some (.ref fa) →
      ∃ fd : FuncData, (∀ (s : Shared) (u : Value), BindsTo s fd ⟨[u], []⟩ [(x, u)]) ∧ ∀ base : Heap, (K w.params).In base → base.Ns mainGlobals mg → FG l.prog w (K w.params) mg base k fa fd [x] lawD) :
    PySem.W.WalkO q loose XP YP l.row.toRowW d [] (fun f vs => PySem.call f vs) := by
  refine Att.attach_call hn hdf ?_
  intro w s₀ s₁ mg mb fa o pm cd doc a vs ns G Y ho hd hcd hmg hobj hints hlen hg
  have inK := hY w _ Y
  obtain ⟨fd, bd, hF⟩ := F w mg fa _ inK G.T.g hmg
  exact law_enter inK G.T.g G.T.b G.T.builtins G.T.nolimit hg hobj hints hlen hr hF bd
end DL

namespace DL
open PySem PySem.Spec L2
open PyProof.Rows hiding St

/-! ### reading data off the heap -/
mutual
inductive DR (G : Gh) : DV → PyData → Prop
  | non : DR G .non .none
  | bl (b : Bool) : DR G (.bl b) (.bool b)
  | int (i : Int) : DR G (.int i) (.int i)
  | str (x : Str) : DR G (.str x) (.str x)
  | tup {l : List DV} {ds : List PyData} : DRs G l ds → DR G (.tup l) (.tuple ds)
  | ro {l : List DV} {ds : List PyData} : DRs G l ds → DR G (.ro l) (.list ds)
  | ref {a : Addr} {l : List DV} {ds : List PyData} : G a = some (.lst l) → DRs G l ds → DR G (.ref a) (.list ds)
inductive DRs (G : Gh) : List DV → List PyData → Prop
  | nil : DRs G [] []
  | cons {d : DV} {l : List DV} {e : PyData} {ds : List PyData} : DR G d e → DRs G l ds → DRs G (d :: l) (e :: ds)
end
section
variable {K : PySem.W.Frag} {H : Hp} {G : Gh}
mutual
theorem DR.dp (w : WG K G H) : ∀ {e : PyData} {d : DV} {v : V}, DR G d e → VR K H v d → Dp K H v e
  | .none, _, _, h, r => by cases h; cases r; exact .non
  | .bool b, _, _, h, r => by cases h; cases r; exact .bl b
  | .int i, _, _, h, r => by cases h; cases r; exact .int i
  | .str x, _, _, h, r => by cases h; cases r; exact .str x
  | .tuple ds, _, _, h, r => by
    cases h with
    | tup hs => cases r with
      | tup sq rs => exact .tup sq (DRs.dp w hs rs)
  | .list ds, _, _, h, r => by
    cases h with
    | ro hs => cases r with
      | ro sq rs => exact .lst sq.sq (DRs.dp w hs rs)
    | ref e hs =>
      cases r
      obtain ⟨xs, e2, rs⟩ := w _ _ e
      exact .lst (SqL.of e2) (DRs.dp w hs rs)
  | .dict _, _, _, h, _ => by cases h
theorem DRs.dp (w : WG K G H) : ∀ {es : List PyData} {ds : List DV} {vs : List V}, DRs G ds es → VRs K H vs ds → DpAll K H vs es
  | [], _, _, h, r => by cases h; cases r; exact .nil
  | e :: es, _, _, h, r => by
    cases h with
    | cons h1 h2 => cases r with
      | cons r1 r2 => exact .cons (DR.dp w h1 r1) (DRs.dp w h2 r2)
end
end
/-- values without addresses -/
def DV.pure : DV → Bool
  | .ref _ => false
  | .ty _ => false
  | .tup l => l.attach.all fun ⟨d, _⟩ => d.pure
  | .ro l => l.attach.all fun ⟨d, _⟩ => d.pure
  | _ => true
def DV.pd : DV → PyData
  | .non => .none
  | .bl b => .bool b
  | .int i => .int i
  | .str s => .str s
  | .tup l => .tuple (l.attach.map fun ⟨d, _⟩ => d.pd)
  | .ro l => .list (l.attach.map fun ⟨d, _⟩ => d.pd)
  | .ref _ => .none
  | .ty _ => .none
@[simp] theorem pd_non : DV.non.pd = .none := by simp [DV.pd]
@[simp] theorem pd_bl {b : Bool} : (DV.bl b).pd = .bool b := by simp [DV.pd]
@[simp] theorem pd_int {i : Int} : (DV.int i).pd = .int i := by simp [DV.pd]
@[simp] theorem pd_str {i : Str} : (DV.str i).pd = .str i := by simp [DV.pd]
@[simp] theorem pd_tup {l : List DV} : (DV.tup l).pd = .tuple (l.map DV.pd) := by simp [DV.pd]
@[simp] theorem pd_ro {l : List DV} : (DV.ro l).pd = .list (l.map DV.pd) := by simp [DV.pd]
@[simp] theorem pure_non : DV.non.pure = true := by simp [DV.pure]
@[simp] theorem pure_bl {b : Bool} : (DV.bl b).pure = true := by simp [DV.pure]
@[simp] theorem pure_int {i : Int} : (DV.int i).pure = true := by simp [DV.pure]
@[simp] theorem pure_str {i : Str} : (DV.str i).pure = true := by simp [DV.pure]
@[simp] theorem pure_tup {l : List DV} : (DV.tup l).pure = l.all DV.pure := by simp [DV.pure]
@[simp] theorem pure_ro {l : List DV} : (DV.ro l).pure = l.all DV.pure := by simp [DV.pure]
theorem dr_all {G : Gh} : ∀ {l : List DV}, (∀ d ∈ l, DR G d d.pd) → DRs G l (l.map DV.pd)
  | [], _ => .nil
  | d :: l, h => .cons (h d (by simp)) (dr_all fun x hx => h x (by simp [hx]))
theorem dr_pure {G : Gh} (d : DV) (h : d.pure = true) : DR G d d.pd := by
  match d, h with
  | .non, _ => simp; exact .non
  | .bl b, _ => simp; exact .bl b
  | .int i, _ => simp; exact .int i
  | .str s, _ => simp; exact .str s
  | .tup l, h =>
    simp only [pure_tup, List.all_eq_true] at h
    rw [pd_tup]
    exact .tup (dr_all fun x hx => dr_pure x (h x hx))
  | .ro l, h =>
    simp only [pure_ro, List.all_eq_true] at h
    rw [pd_ro]
    exact .ro (dr_all fun x hx => dr_pure x (h x hx))
  | .ref _, h => simp [DV.pure] at h
  | .ty _, h => simp [DV.pure] at h
termination_by sizeOf d
decreasing_by all_goals (have := List.sizeOf_lt_of_mem hx; simp_wf; omega)
theorem drs_pure {G : Gh} {l : List DV} (h : l.all DV.pure = true) : DRs G l (l.map DV.pd) := dr_all fun d hd => dr_pure d (List.all_eq_true.mp h d hd)

/-! ### arithmetic and comparisons -/
section
variable {X : Cx}
/-- the end of an operation that makes nothing new -/
theorem op_end {K : PySem.W.Frag} {H : Hp} {G : Gh} {P : DV → Gh → Prop} {Q : VK} (wg : WG K G H) (k : ∀ d G' v H', P d G' → WG K G' H' → Ext G H G' H' → VR K H' v d → Q v H') {d : DV} {v : V} (h : P d G) (r : VR K H v d) : Q v H :=
  k d G v H h wg Ext.refl r
def dAdd : D2 := fun x y G Q => match x, y with
  | .int i, .int j => Q (.int (i + j)) G
  | .str a, .str b => a.length + b.length ≤ sizeLine ∧ Q (.str (a ++ b)) G
  | .tup a, .tup b => a.length + b.length ≤ sizeLine ∧ Q (.tup (a ++ b)) G
  | .ref a, .ref b => ∃ l m, G a = some (.lst l) ∧ G b = some (.lst m) ∧ l.length + m.length ≤ sizeLine ∧ ∀ p, G p = none → Q (.ref p) (gup G p (.lst (l ++ m)))
  | _, _ => False
theorem o_add : OpD X (binaryOp .Add) dAdd := by
  rintro pins s σ H x y v u Q I rx ry ⟨dx, dy, G, P, vx, vy, wg, h, k⟩
  match dx, dy, vx, vy, h with
  | .int i, .int j, .int _, .int _, h => exact op_add pins s σ H _ _ v u Q I rx ry ⟨i, j, rfl, rfl, op_end wg k h (.int _)⟩
  | .str a, .str b, .str _, .str _, h => exact op_add_str pins s σ H _ _ v u Q I rx ry ⟨a, b, rfl, rfl, h.1, op_end wg k h.2 (.str _)⟩
  | .tup a, .tup b, .tup sa ra, .tup sb rb, ⟨h1, h2⟩ =>
    refine op_catA pins s σ H _ _ v u Q I rx ry ⟨_, _, _, _, rfl, rfl, sa, sb, by rw [ra.len, rb.len]; exact h1, fun e => ?_, fun _ e => ?_, fun _ _ p np => ?_⟩
    · subst e
      cases ra
      exact op_end wg k h2 (.tup sb rb)
    · subst e
      cases rb
      rw [List.append_nil] at h2
      exact op_end wg k h2 (.tup sa ra)
    · exact k _ _ _ _ h2 (wg.new np) (Ext.new np) (VR.newT wg np (ra.app rb))
  | .ref a, .ref b, .ref _, .ref _, ⟨l, m, ga, gb, hl, h⟩ =>
    obtain ⟨xs, ha, ra⟩ := wg _ _ ga
    obtain ⟨ys, hb, rb⟩ := wg _ _ gb
    refine op_cat pins s σ H _ _ v u Q I rx ry ⟨a, b, xs, ys, rfl, rfl, ha, hb, by rw [ra.len, rb.len]; exact hl, fun p np => ?_⟩
    exact k _ _ _ _ (h p (wg.non np)) (wg.newL np (ra.app rb)) (Ext.newC np) (.ref p)
def dSub : D2 := fun x y G Q => match x, y with
  | .int i, .int j => Q (.int (i - j)) G
  | _, _ => False
theorem o_sub : OpD X (binaryOp .Sub) dSub := by
  rintro pins s σ H x y v u Q I rx ry ⟨dx, dy, G, P, vx, vy, wg, h, k⟩
  match dx, dy, vx, vy, h with
  | .int i, .int j, .int _, .int _, h => exact op_sub pins s σ H _ _ v u Q I rx ry ⟨i, j, rfl, rfl, op_end wg k h (.int _)⟩
/-- products that the machine takes -/
def MulOk (i j : Int) : Prop := i.natAbs.log2 + j.natAbs.log2 < 1000000
theorem MulOk.of {i j : Int} {a b : Nat} (ha : i.natAbs < 2 ^ a) (hb : j.natAbs < 2 ^ b) (h0 : 0 < a) (h1 : 0 < b) (h : a + b ≤ 1000000) : MulOk i j := wide_mul ha hb h0 h1 h
def dMul : D2 := fun x y G Q => match x, y with
  | .int i, .int j => MulOk i j ∧ Q (.int (i * j)) G
  | .ref a, .int n => ∃ l, G a = some (.lst l) ∧ -(2 ^ 63) ≤ n ∧ n < 2 ^ 63 ∧ l.length * n.toNat ≤ sizeLine ∧ ∀ p, G p = none → Q (.ref p) (gup G p (.lst (List.replicate n.toNat l).flatten))
  | _, _ => False
theorem VRs.reps {K : PySem.W.Frag} {H : Hp} {xs : List V} {l : List DV} (r : VRs K H xs l) : ∀ n : Nat, VRs K H (List.replicate n xs).flatten (List.replicate n l).flatten
  | 0 => .nil
  | n + 1 => by
    rw [List.replicate_succ, List.replicate_succ, List.flatten_cons, List.flatten_cons]
    exact r.app (r.reps n)
theorem o_mul : OpD X (binaryOp .Mult) dMul := by
  rintro pins s σ H x y v u Q I rx ry ⟨dx, dy, G, P, vx, vy, wg, h, k⟩
  match dx, dy, vx, vy, h with
  | .int i, .int j, .int _, .int _, h => exact op_mulW pins s σ H _ _ v u Q I rx ry ⟨i, j, rfl, rfl, h.1, op_end wg k h.2 (.int _)⟩
  | .ref a, .int n, .ref _, .int _, ⟨l, ga, n1, n2, hl, h⟩ =>
    obtain ⟨xs, ha, ra⟩ := wg _ _ ga
    refine op_rep pins s σ H _ _ v u Q I rx ry ⟨a, n, xs, rfl, rfl, ha, n1, n2, by rw [ra.len]; exact hl, fun p np => ?_⟩
    exact k _ _ _ _ (h p (wg.non np)) (wg.newL np (ra.reps _)) (Ext.newC np) (.ref p)
def dFdiv : D2 := fun x y G Q => match x, y with
  | .int i, .int j => (0 < j ∧ j.natAbs.log2 < 9000) ∧ Q (.int (i / j)) G
  | _, _ => False
theorem o_fdiv : OpD X (binaryOp .FloorDiv) dFdiv := by
  rintro pins s σ H x y v u Q I rx ry ⟨dx, dy, G, P, vx, vy, wg, h, k⟩
  match dx, dy, vx, vy, h with
  | .int i, .int j, .int _, .int _, h => exact op_fdivW pins s σ H _ _ v u Q I rx ry ⟨i, j, rfl, rfl, h.1, op_end wg k h.2 (.int _)⟩
def dMod : D2 := fun x y G Q => match x, y with
  | .int i, .int j => 0 < j ∧ Q (.int (i % j)) G
  | _, _ => False
theorem o_mod : OpD X (binaryOp .Mod) dMod := by
  rintro pins s σ H x y v u Q I rx ry ⟨dx, dy, G, P, vx, vy, wg, h, k⟩
  match dx, dy, vx, vy, h with
  | .int i, .int j, .int _, .int _, h => exact op_mod pins s σ H _ _ v u Q I rx ry ⟨i, j, rfl, rfl, h.1, op_end wg k h.2 (.int _)⟩
def dPow : D2 := fun x y G Q => match x, y with
  | .int i, .int j => (0 ≤ j ∧ j ≤ 1000000 ∧ i.natAbs < 2 ^ 64) ∧ Q (.int (i ^ j.toNat)) G
  | _, _ => False
theorem o_pow : OpD X (binaryOp .Pow) dPow := by
  rintro pins s σ H x y v u Q I rx ry ⟨dx, dy, G, P, vx, vy, wg, h, k⟩
  match dx, dy, vx, vy, h with
  | .int i, .int j, .int _, .int _, h => exact op_pow pins s σ H _ _ v u Q I rx ry ⟨i, j, rfl, rfl, h.1, op_end wg k h.2 (.int _)⟩
/-- comparisons of ints -/
def dCmp (p : Int → Int → Bool) : D2 := fun x y G Q => match x, y with
  | .int i, .int j => Q (.bl (p i j)) G
  | _, _ => False
theorem o_cmp {f : Value → Value → Sem Value} {p : Int → Int → Bool} (o : OpR X f (rI0 fun i j => .bl (p i j))) : OpD X f (dCmp p) := by
  rintro pins s σ H x y v u Q I rx ry ⟨dx, dy, G, P, vx, vy, wg, h, k⟩
  match dx, dy, vx, vy, h with
  | .int i, .int j, .int _, .int _, h => exact o pins s σ H _ _ v u Q I rx ry ⟨i, j, rfl, rfl, op_end wg k h (.bl _)⟩
def dLt : D2 := dCmp fun i j => decide (i < j)
def dLe : D2 := dCmp fun i j => decide (i ≤ j)
def dGt : D2 := dCmp fun i j => decide (j < i)
def dGe : D2 := dCmp fun i j => decide (j ≤ i)
theorem o_lt : OpD X (compareOp .Lt) dLt := o_cmp op_lt
theorem o_le : OpD X (compareOp .LtE) dLe := o_cmp op_le
theorem o_gt : OpD X (compareOp .Gt) dGt := o_cmp op_gt
theorem o_ge : OpD X (compareOp .GtE) dGe := o_cmp op_ge
theorem dec_int {i j : Int} : decide (V.int i = V.int j) = decide (i = j) := by simp
theorem dec_str {i j : Str} : decide (V.str i = V.str j) = decide (i = j) := by simp
theorem dec_bl {i j : Bool} : decide (V.bl i = V.bl j) = decide (i = j) := by simp
/-- equality: numbers, texts, truths, None of one kind at once; else by what is read -/
def dEq (neg : Bool) : D2 := fun x y G Q => match x, y with
  | .int i, .int j => Q (.bl (neg ^^ decide (i = j))) G
  | .str a, .str b => Q (.bl (neg ^^ decide (a = b))) G
  | .bl a, .bl b => Q (.bl (neg ^^ decide (a = b))) G
  | x, y => ∃ d e, DR G x d ∧ DR G y e ∧ SeqAt.shaped d = true ∧ SeqAt.shaped e = true ∧ Q (.bl (neg ^^ PyData.eqv d e)) G
theorem o_eq (hu : X.A.units + 64 < cLine) : OpD X (compareOp .Eq) (dEq false) := by
  rintro pins s σ H x y v u Q I rx ry ⟨dx, dy, G, P, vx, vy, wg, h, k⟩
  have gen : (∃ d e, DR G dx d ∧ DR G dy e ∧ SeqAt.shaped d = true ∧ SeqAt.shaped e = true ∧ P (.bl (false ^^ PyData.eqv d e)) G) → wpAny (model X.prog X.w) X.A (compareOp .Eq v u) (EP X pins σ Q) X.xe s := by
    rintro ⟨d, e, hd, he, sd, se, q⟩
    exact op_eqD hu pins s σ H x y v u Q I rx ry ⟨d, e, hd.dp wg vx, he.dp wg vy, sd, se, op_end wg k q (by rw [Bool.false_xor]; exact .bl _)⟩
  unfold dEq at h
  split at h
  · cases vx; cases vy
    exact op_eq pins s σ H _ _ v u Q I rx ry ⟨rfl, op_end wg k h (by rw [Bool.false_xor, dec_int]; exact .bl _)⟩
  · cases vx; cases vy
    exact op_eq pins s σ H _ _ v u Q I rx ry ⟨rfl, op_end wg k h (by rw [Bool.false_xor, dec_str]; exact .bl _)⟩
  · cases vx; cases vy
    exact op_eq pins s σ H _ _ v u Q I rx ry ⟨rfl, op_end wg k h (by rw [Bool.false_xor, dec_bl]; exact .bl _)⟩
  · exact gen h
theorem o_ne (hu : X.A.units + 64 < cLine) : OpD X (compareOp .NotEq) (dEq true) := by
  rintro pins s σ H x y v u Q I rx ry ⟨dx, dy, G, P, vx, vy, wg, h, k⟩
  have gen : (∃ d e, DR G dx d ∧ DR G dy e ∧ SeqAt.shaped d = true ∧ SeqAt.shaped e = true ∧ P (.bl (true ^^ PyData.eqv d e)) G) → wpAny (model X.prog X.w) X.A (compareOp .NotEq v u) (EP X pins σ Q) X.xe s := by
    rintro ⟨d, e, hd, he, sd, se, q⟩
    exact op_neD hu pins s σ H x y v u Q I rx ry ⟨d, e, hd.dp wg vx, he.dp wg vy, sd, se, op_end wg k q (by rw [Bool.true_xor]; exact .bl _)⟩
  unfold dEq at h
  split at h
  · cases vx; cases vy
    exact op_ne pins s σ H _ _ v u Q I rx ry ⟨rfl, op_end wg k h (by rw [Bool.true_xor, dec_int]; exact .bl _)⟩
  · cases vx; cases vy
    exact op_ne pins s σ H _ _ v u Q I rx ry ⟨rfl, op_end wg k h (by rw [Bool.true_xor, dec_str]; exact .bl _)⟩
  · cases vx; cases vy
    exact op_ne pins s σ H _ _ v u Q I rx ry ⟨rfl, op_end wg k h (by rw [Bool.true_xor, dec_bl]; exact .bl _)⟩
  · exact gen h
def DV.isNon : DV → Bool
  | .non => true
  | _ => false
def dIsN (neg : Bool) : D2 := fun x y G Q => match y with
  | .non => Q (.bl (neg ^^ x.isNon)) G
  | _ => False
theorem VR.isN {K : PySem.W.Frag} {H : Hp} {v : V} {d : DV} (r : VR K H v d) : decide (v = .non) = d.isNon := by
  cases r <;> simp [DV.isNon]
theorem o_is : OpD X (compareOp .Is) (dIsN false) := by
  rintro pins s σ H x y v u Q I rx ry ⟨dx, dy, G, P, vx, vy, wg, h, k⟩
  cases dy <;> first | exact h.elim | skip
  cases vy
  exact op_isN pins s σ H _ _ v u Q I rx ry ⟨rfl, op_end wg k h (by rw [vx.isN, Bool.false_xor]; exact .bl _)⟩
theorem o_isnot : OpD X (compareOp .IsNot) (dIsN true) := by
  rintro pins s σ H x y v u Q I rx ry ⟨dx, dy, G, P, vx, vy, wg, h, k⟩
  cases dy <;> first | exact h.elim | skip
  cases vy
  exact op_notN pins s σ H _ _ v u Q I rx ry ⟨rfl, op_end wg k h (by rw [vx.isN, Bool.true_xor]; exact .bl _)⟩
/-- membership: among flat items -/
def DV.flat : DV → Bool
  | .non | .bl _ | .int _ | .str _ => true
  | _ => false
def DV.same : DV → DV → Bool
  | .non, .non => true
  | .bl a, .bl b => a == b
  | .bl a, .int b => (if a then 1 else 0) == b
  | .int a, .bl b => a == (if b then 1 else 0)
  | .int a, .int b => a == b
  | .str a, .str b => a == b
  | _, _ => false
theorem VR.flatV {K : PySem.W.Frag} {H : Hp} {v : V} {d : DV} (r : VR K H v d) (f : d.flat = true) : L2.flatV v = true := by
  cases r <;> first | rfl | exact absurd f Bool.false_ne_true
theorem VR.same {K : PySem.W.Frag} {H : Hp} {v u : V} {d e : DV} (r : VR K H v d) (q : VR K H u e) (f : d.flat = true) (g : e.flat = true) : L2.eqV v u = d.same e := by
  cases r <;> cases q <;> first | rfl | exact absurd f Bool.false_ne_true | exact absurd g Bool.false_ne_true
theorem VRs.flatV {K : PySem.W.Frag} {H : Hp} : ∀ {vs : List V} {ds : List DV}, VRs K H vs ds → ds.all DV.flat = true → vs.all L2.flatV = true
  | _, _, .nil, _ => rfl
  | _, _, .cons r t, f => by
    rw [List.all_cons, Bool.and_eq_true] at f
    rw [List.all_cons, r.flatV f.1, VRs.flatV t f.2]; rfl
theorem VRs.inV {K : PySem.W.Frag} {H : Hp} {v : V} {d : DV} (r : VR K H v d) (f : d.flat = true) : ∀ {vs : List V} {ds : List DV}, VRs K H vs ds → ds.all DV.flat = true → L2.inV v vs = ds.any fun e => e.same d
  | _, _, .nil, _ => rfl
  | _, _, .cons q t, g => by
    rw [List.all_cons, Bool.and_eq_true] at g
    have ih := VRs.inV r f t g.2
    unfold L2.inV at ih ⊢
    rw [List.any_cons, List.any_cons, ih, q.same r g.1 f]
def dIn (neg : Bool) : D2 := fun x y G Q => match y with
  | .tup l => x.flat = true ∧ l.all DV.flat = true ∧ Q (.bl (neg ^^ l.any fun e => e.same x)) G
  | .ref a => ∃ l, G a = some (.lst l) ∧ x.flat = true ∧ l.all DV.flat = true ∧ Q (.bl (neg ^^ l.any fun e => e.same x)) G
  | .str z => ∃ c, x = .str ⟨#[c]⟩ ∧ Q (.bl (neg ^^ decide (c ∈ z.cps.toList))) G
  | _ => False
theorem o_in : OpD X (compareOp .In) (dIn false) := by
  rintro pins s σ H x y v u Q I rx ry ⟨dx, dy, G, P, vx, vy, wg, h, k⟩
  match dy, vy, h with
  | .tup l, .tup sq rs, ⟨f, g, h⟩ => exact op_in_seq pins s σ H _ _ v u Q I rx ry ⟨_, _, rfl, .inr sq, vx.flatV f, rs.flatV g, op_end wg k h (by rw [if_neg Bool.false_ne_true, VRs.inV vx f rs g, Bool.false_xor]; exact .bl _)⟩
  | .ref a, .ref _, ⟨l, e, f, g, h⟩ =>
    obtain ⟨xs, e2, rs⟩ := wg _ _ e
    exact op_in_seq pins s σ H _ _ v u Q I rx ry ⟨_, _, rfl, .inl (SqL.of e2), vx.flatV f, rs.flatV g, op_end wg k h (by rw [if_neg Bool.false_ne_true, VRs.inV vx f rs g, Bool.false_xor]; exact .bl _)⟩
  | .str z, .str _, ⟨c, e, hq⟩ =>
    subst e
    cases vx
    exact op_in_sign pins s σ H _ _ v u Q I rx ry ⟨c, z, rfl, rfl, op_end wg k hq (by rw [Bool.false_xor]; exact .bl _)⟩
theorem o_notin : OpD X (compareOp .NotIn) (dIn true) := by
  rintro pins s σ H x y v u Q I rx ry ⟨dx, dy, G, P, vx, vy, wg, h, k⟩
  match dy, vy, h with
  | .tup l, .tup sq rs, ⟨f, g, h⟩ => exact op_notIn_seq pins s σ H _ _ v u Q I rx ry ⟨_, _, rfl, .inr sq, vx.flatV f, rs.flatV g, op_end wg k h (by rw [if_pos rfl, VRs.inV vx f rs g, Bool.true_xor]; exact .bl _)⟩
  | .ref a, .ref _, ⟨l, e, f, g, h⟩ =>
    obtain ⟨xs, e2, rs⟩ := wg _ _ e
    exact op_notIn_seq pins s σ H _ _ v u Q I rx ry ⟨_, _, rfl, .inl (SqL.of e2), vx.flatV f, rs.flatV g, op_end wg k h (by rw [if_pos rfl, VRs.inV vx f rs g, Bool.true_xor]; exact .bl _)⟩
  | .str z, .str _, ⟨c, e, hq⟩ =>
    subst e
    cases vx
    exact op_notIn_sign pins s σ H _ _ v u Q I rx ry ⟨c, z, rfl, rfl, op_end wg k hq (by rw [Bool.true_xor]; exact .bl _)⟩
/-- -a -/
def wNeg (wa : DE) : DE := fun Y env G Q => wa Y env G fun x G1 => match x with | .int i => Q (.int (-i)) G1 | _ => False
theorem q_neg {W : WX} {a : Expr} {wa : DE} {pos : Pos} (ha : QE X W a wa) : QE X W (.UnaryOp .USub a pos) (wNeg wa) :=
  ⟨PE.wk (pe_un un_neg ha.pe) fun σ H Q ⟨Y, env, G, P, er, wg, h, k, kx⟩ => ⟨Y, env, G, _, er, wg, h, fun d G1 v H1 h1 w1 x1 r => by
    cases d <;> first | exact h1.elim | skip
    cases r
    exact ⟨_, rfl, k _ _ _ _ h1 w1 x1 (.int _)⟩, kx⟩⟩
end
end DL

namespace DL
open PySem PySem.Spec L2
open PyProof.Rows hiding St

/-! ### places, slices -/
theorem VRs.atI {K : PySem.W.Frag} {H : Hp} {vs : List V} {ds : List DV} {i : Int} {d : DV} (r : VRs K H vs ds) (h : L2.atI ds i = some d) : ∃ v, L2.atI vs i = some v ∧ VR K H v d := by
  unfold L2.atI at h ⊢
  rw [r.len]
  cases q : ixN ds.length i with
  | none => rw [q] at h; cases h
  | some j =>
    rw [q] at h
    obtain ⟨v, e, rv⟩ := r.get (i := j) h
    exact ⟨v, e, rv⟩
def IxD (X : Cx) (r : D2) : Prop := IxR X (lift2 X.K r)
section
variable {X : Cx} {W : WX} {a b e o : Expr} {es : List Expr} {wa wb : DE} {wr : DA} {pos p2 : Pos}
theorem q_ix {r : D2} (hr : IxD X r) (ha : QE X W a wa) (hb : QE X W b wb) (hs : PlainIx b := by exact fun _ _ => rfl) : QE X W (.Subscript a b pos) (wOp r wa wb) :=
  ⟨PE.wk (pe_ix hr ha.pe hb.pe hs) fun _ _ _ h => two_parts h⟩
def dIx : D2 := fun x y G Q => match x, y with
  | .tup l, .int i => ∃ d, atI l i = some d ∧ Q d G
  | .ro l, .int i => ∃ d, atI l i = some d ∧ Q d G
  | .ref a, .int i => ∃ l d, G a = some (.lst l) ∧ atI l i = some d ∧ Q d G
  | .str z, .int i => z.length ≤ sizeLine ∧ ∃ c, atI z.cps.toList i = some c ∧ Q (.str ⟨#[c]⟩) G
  | _, _ => False
theorem o_ix : IxD X dIx := by
  rintro value slice pins s σ H x y v u Q I rx ry ⟨dx, dy, G, P, vx, vy, wg, h, k⟩ hs
  match dx, dy, vx, vy, h with
  | .tup l, .int i, .tup sq rs, .int _, ⟨d, e, h⟩ =>
    obtain ⟨w, e2, r⟩ := rs.atI e
    exact ix_tup value slice pins s σ H _ _ v u Q I rx ry ⟨_, _, i, w, rfl, rfl, sq, e2, op_end wg k h r⟩ hs
  | .ro l, .int i, .ro sq rs, .int _, ⟨d, e, h⟩ =>
    obtain ⟨w, e2, r⟩ := rs.atI e
    exact ix_list value slice pins s σ H _ _ v u Q I rx ry ⟨_, _, i, w, rfl, rfl, sq.sq, e2, op_end wg k h r⟩ hs
  | .ref a, .int i, .ref _, .int _, ⟨l, d, ga, e, h⟩ =>
    obtain ⟨xs, ha, rs⟩ := wg _ _ ga
    obtain ⟨w, e2, r⟩ := rs.atI e
    exact ix_list value slice pins s σ H _ _ v u Q I rx ry ⟨_, _, i, w, rfl, rfl, SqL.of ha, e2, op_end wg k h r⟩ hs
  | .str z, .int i, .str _, .int _, ⟨hz, c, e, h⟩ => exact ix_str value slice pins s σ H _ _ v u Q I rx ry ⟨z, i, c, rfl, rfl, hz, e, op_end wg k h (.str _)⟩ hs
/-- the items lo .. hi -/
def cutL {α : Type} (xs : List α) (lo hi : Option Int) : List α := (xs.drop (HT.sIx xs.length 0 lo)).take (HT.sIx xs.length xs.length hi - HT.sIx xs.length 0 lo)
theorem VRs.cut {K : PySem.W.Frag} {H : Hp} {vs : List V} {ds : List DV} (r : VRs K H vs ds) (lo hi : Option Int) : VRs K H (cutV vs lo hi) (cutL ds lo hi) := by
  unfold cutV cutL
  rw [r.len]
  exact (r.drop _).take _
theorem cutL_whole {α : Type} {xs : List α} {lo hi : Option Int} (h : HT.sIx xs.length 0 lo = 0 ∧ HT.sIx xs.length xs.length hi = xs.length) : cutL xs lo hi = xs := by
  unfold cutL
  rw [h.1, h.2, List.drop_zero, Nat.sub_zero, List.take_length]
abbrev DO := DX → Dv → Gh → (Option Int → Gh → Prop) → Prop
def TOl (K : PySem.W.Frag) (W : WX) (w : DO) : TO := fun σ H Q => ∃ (Y : DX) (env : Dv) (G : Gh) (P : Option Int → Gh → Prop), ER K H σ env ∧ WG K G H ∧ w Y env G P ∧
  (∀ i G' H', P i G' → WG K G' H' → Ext G H G' H' → Q i H') ∧ XLe K G H Y fun c d => W c d σ
structure QO (X : Cx) (W : WX) (e : Option Expr) (w : DO) : Prop where
  po : PO X e (TOl X.K W w)
theorem PO.wk {e : Option Expr} {t t' : TO} (h : PO X e t) (i : ∀ σ H Q, t' σ H Q → t σ H Q) : PO X e t' := ⟨fun a b c d q I z => h.run a b c d q I (i _ _ _ z)⟩
def wNoPart : DO := fun _ _ G Q => Q none G
def wPart (w : DE) : DO := fun Y env G Q => w Y env G fun d G1 => match d with | .int i => Q (some i) G1 | _ => False
theorem qo_none : QO X W none wNoPart := ⟨PO.wk po_none fun σ H Q ⟨Y, env, G, P, er, wg, h, k, kx⟩ => k _ _ _ h wg Ext.refl⟩
theorem qo_some (h : QE X W e wa) : QO X W (some e) (wPart wa) := ⟨PO.wk (po_some h.pe) fun σ H Q ⟨Y, env, G, P, er, wg, h, k, kx⟩ => ⟨Y, env, G, _, er, wg, h, fun d G1 v H1 h1 w1 x1 r => by
  cases d <;> first | exact h1.elim | skip
  cases r
  exact ⟨_, rfl, k _ _ _ h1 w1 x1⟩, kx⟩⟩
abbrev DSl := DV → Option Int → Option Int → Gh → (DV → Gh → Prop) → Prop
def liftS (K : PySem.W.Frag) (r : DSl) : V → Option Int → Option Int → Hp → VK → Prop := fun x lo hi H Q => ∃ dx G P, VR K H x dx ∧ WG K G H ∧ r dx lo hi G P ∧ ∀ d G' v H', P d G' → WG K G' H' → Ext G H G' H' → VR K H' v d → Q v H'
def SlD (X : Cx) (r : DSl) : Prop := SlR X (liftS X.K r)
def wSl (r : DSl) (we : DE) (wl wh : DO) : DE := fun Y env G Q => we Y env G fun x G1 => wl Y env G1 fun l G2 => wh Y env G2 fun u G3 => r x l u G3 Q
theorem q_slice {r : DSl} {lo hi : Option Expr} {wl wh : DO} (hr : SlD X r) (he : QE X W e wa) (hl : QO X W lo wl) (hu : QO X W hi wh) : QE X W (.Subscript e (.Slice lo hi none p2) pos) (wSl r wa wl wh) :=
  ⟨PE.wk (pe_slice hr he.pe hl.po hu.po) fun σ H Q ⟨Y, env, G, P, er, wg, h, k, kx⟩ => ⟨Y, env, G, _, er, wg, h, fun x G1 v H1 h1 w1 x1 r1 => ⟨Y, env, G1, _, er.ext wg x1, w1, h1, fun l G2 H2 h2 w2 x2 =>
    ⟨Y, env, G2, _, (er.ext wg x1).ext w1 x2, w2, h2, fun u G3 H3 h3 w3 x3 => ⟨x, G3, P, r1.ext w1 (x2.trans x3), w3, h3, fun d G' v' H' p w' x' r' => k d G' v' H' p w' (((x1.trans x2).trans x3).trans x') r'⟩, kx.step (x1.trans x2)⟩, kx.step x1⟩, kx⟩⟩
def dSl : DSl := fun x lo hi G Q => match x with
  | .tup l => Q (.tup (cutL l lo hi)) G
  | .ro l => ∀ p, G p = none → Q (.ref p) (gup G p (.lst (cutL l lo hi)))
  | .ref a => ∃ l, G a = some (.lst l) ∧ ∀ p, G p = none → Q (.ref p) (gup G p (.lst (cutL l lo hi)))
  | .str z => z.length ≤ sizeLine ∧ Q (.str (cutS z lo hi)) G
  | _ => False
theorem o_sl : SlD X dSl := by
  rintro pins s σ H x v vl vu lo hi sl Q I rx hs pl pu ⟨dx, G, P, vx, wg, h, k⟩
  match dx, vx, h with
  | .tup l, .tup sq rs, h =>
    refine sl_tupA pins s σ H _ v vl vu lo hi sl Q I rx hs pl pu ⟨_, _, rfl, sq, fun hw => ?_, fun _ p np => ?_⟩
    · rw [rs.len] at hw
      have h' : P (.tup l) G := by rw [← cutL_whole hw]; exact h
      exact op_end wg k h' (.tup sq rs)
    · exact k _ _ _ _ h (wg.new np) (Ext.new np) (VR.newT wg np (rs.cut lo hi))
  | .ro l, .ro sq rs, h => exact sl_list pins s σ H _ v vl vu lo hi sl Q I rx hs pl pu ⟨_, _, rfl, sq.sq, fun p np => k _ _ _ _ (h p (wg.non np)) (wg.newL np (rs.cut lo hi)) (Ext.newC np) (.ref p)⟩
  | .ref a, .ref _, ⟨l, ga, h⟩ =>
    obtain ⟨xs, ha, rs⟩ := wg _ _ ga
    exact sl_list pins s σ H _ v vl vu lo hi sl Q I rx hs pl pu ⟨_, _, rfl, SqL.of ha, fun p np => k _ _ _ _ (h p (wg.non np)) (wg.newL np (rs.cut lo hi)) (Ext.newC np) (.ref p)⟩
  | .str z, .str _, ⟨hz, h⟩ => exact sl_str pins s σ H _ v vl vu lo hi sl Q I rx hs pl pu ⟨z, rfl, hz, op_end wg k h (.str _)⟩

/-! ### stores into lists -/
def dSet : D3 := fun o i v G Q => match o, i with
  | .ref a, .int k => ∃ l j, G a = some (.lst l) ∧ ixN l.length k = some j ∧ Q (gup G a (.lst (l.set j v)))
  | _, _ => False
theorem o_set : SetD X dSet := by
  rintro pins s σ H o i v ov iv u Q I ro ri rv ⟨dv, dx, dy, G, P, vo, vi, vv, wg, h, k⟩
  match dv, dx, vo, vi, h with
  | .ref a, .int n, .ref _, .int _, ⟨l, j, ga, hj, h⟩ =>
    obtain ⟨xs, ha, rs⟩ := wg _ _ ga
    refine set_list pins s σ H _ _ v ov iv u Q I ro ri rv ⟨a, xs, n, j, rfl, rfl, ha, by rw [rs.len]; exact hj, ?_⟩
    exact k _ _ h (wg.setL ga (rs.set vv j)) (Ext.setC ga)

/-! ### methods of lists, tuples, texts -/
abbrev DM := DV → List DV → Gh → (DV → Gh → Prop) → Prop
def liftM (K : PySem.W.Frag) (r : DM) : V → List V → Hp → VK → Prop := fun x xs H Q => ∃ dx ds G P, VR K H x dx ∧ VRs K H xs ds ∧ WG K G H ∧ r dx ds G P ∧ ∀ d G' v H', P d G' → WG K G' H' → Ext G H G' H' → VR K H' v d → Q v H'
def MtD (X : Cx) (id : String) (r : DM) : Prop := MtR X id (liftM X.K r)
/-- a list by its address, a text -/
def tyD (T : String) (d : DV) (G : Gh) : Prop := match d with
  | .ref a => T = "list" ∧ ∃ l, G a = some (.lst l)
  | .ro _ => T = "list"
  | .str _ => T = "str"
  | _ => False
theorem tyD.ok {K : PySem.W.Frag} {H : Hp} {G : Gh} {T : String} {d : DV} {v : V} (h : tyD T d G) (wg : WG K G H) (r : VR K H v d) : tyV K T v H := by
  cases r <;> first | exact h.elim | skip
  · exact h
  · obtain ⟨rfl, l, e⟩ := h
    obtain ⟨xs, e2, _⟩ := wg _ _ e
    exact .inl ⟨rfl, _, SqL.of e2⟩
  · rename_i rl _
    exact .inl ⟨h, _, rl.sq⟩
def wBM (T : String) (r : DM) (wo : DE) (wr : DA) : DE := fun Y env G Q => wo Y env G fun x G1 => tyD T x G1 ∧ wr Y env G1 fun xs G2 => r x xs G2 Q
theorem q_bm {name : Str} {apos cpos : Pos} {T id : String} {r : DM} (pa : PlainAttrs T) (slot : Slot T name id) (hty : typeOf (.builtin id) = pure (.type "method_descriptor")) (hm : MtD X id r) (ho : QE X W o wa) (ha : QA X W (e :: es) wr)
    (hbase : attributeBase o name X.env (eval o X.env) = eval o X.env := by rfl)
    (hfew : ((backTo cpos (starEach (e :: es) X.env)).all (fun x => !x.1) && (backToKw cpos (keywordEach [] X.env)).all (fun x => x.1.isSome) && decide ((e :: es).length + ([] : List Keyword).length + (if ([] : List Keyword).isEmpty then 0 else 1) < 30)) = true := by rfl)
    (hline : (apos.endLine == cpos.line) = true := by rfl) (hs : starEach (e :: es) X.env = (false, eval e X.env) :: starEach es X.env := by rfl) (hplain : (backTo cpos (starEach es X.env)).any (·.1) = false := by rfl) :
    QE X W (.Call (.Attribute o name apos) (e :: es) [] cpos) (wBM T r wa wr) :=
  ⟨PE.wk (pe_bm pa slot hty hm ho.pe ha.pa hbase hfew hline hs hplain) fun σ H Q ⟨Y, env, G, P, er, wg, h, k, kx⟩ => ⟨Y, env, G, _, er, wg, h, fun x G1 v H1 ⟨t1, h1⟩ w1 x1 r1 =>
    ⟨t1.ok w1 r1, Y, env, G1, _, er.ext wg x1, w1, h1, fun ds G2 vs H2 h2 w2 x2 r2 => ⟨x, ds, G2, P, r1.ext w1 x2, r2, w2, h2, fun d G' v' H' p w' x' r' => k d G' v' H' p w' ((x1.trans x2).trans x') r'⟩, kx.step x1⟩, kx⟩⟩
def wBM0 (T : String) (r : DM) (wo : DE) : DE := fun Y env G Q => wo Y env G fun x G1 => tyD T x G1 ∧ r x [] G1 Q
theorem q_bm0 {name : Str} {apos cpos : Pos} {T id : String} {r : DM} (pa : PlainAttrs T) (slot : Slot T name id) (hty : typeOf (.builtin id) = pure (.type "method_descriptor")) (hm : MtD X id r) (ho : QE X W o wa)
    (hbase : attributeBase o name X.env (eval o X.env) = eval o X.env := by rfl) (hline : (apos.endLine == cpos.line) = true := by rfl) : QE X W (.Call (.Attribute o name apos) [] [] cpos) (wBM0 T r wa) :=
  ⟨PE.wk (pe_bm0 pa slot hty hm ho.pe hbase hline) fun σ H Q ⟨Y, env, G, P, er, wg, h, k, kx⟩ => ⟨Y, env, G, _, er, wg, h, fun x G1 v H1 ⟨t1, h1⟩ w1 x1 r1 =>
    ⟨t1.ok w1 r1, x, [], G1, P, r1, .nil, w1, h1, fun d G' v' H' p w' x' r' => k d G' v' H' p w' (x1.trans x') r'⟩, kx⟩⟩
def dAppend : DM := fun x ds G Q => match x, ds with
  | .ref a, [d] => ∃ l, G a = some (.lst l) ∧ l.length < sizeLine ∧ Q .non (gup G a (.lst (l ++ [d])))
  | _, _ => False
theorem m_append : MtD X "list.append" dAppend := by
  rintro pins s σ H x xs v us Q I rx rs ⟨dx, ds, G, P, vx, vs, wg, h, k⟩
  match dx, ds, vx, vs, h with
  | .ref a, [d], .ref _, .cons r .nil, ⟨l, ga, hl, h⟩ =>
    obtain ⟨ys, ha, ra⟩ := wg _ _ ga
    exact mt_append pins s σ H _ _ v us Q I rx rs ⟨a, ys, _, rfl, rfl, ha, by rw [ra.len]; exact hl, k _ _ _ _ h (wg.setL ga (ra.app (.one r))) (Ext.setC ga) .non⟩
def dExtend : DM := fun x ds G Q => match x, ds with
  | .ref a, [.ref b] => ∃ l m, G a = some (.lst l) ∧ G b = some (.lst m) ∧ l.length + m.length ≤ sizeLine ∧ Q .non (gup G a (.lst (l ++ m)))
  | _, _ => False
theorem m_extend : MtD X "list.extend" dExtend := by
  rintro pins s σ H x xs v us Q I rx rs ⟨dx, ds, G, P, vx, vs, wg, h, k⟩
  match dx, ds, vx, vs, h with
  | .ref a, [.ref b], .ref _, .cons (.ref _) .nil, ⟨l, m, ga, gb, hl, h⟩ =>
    obtain ⟨ys, ha, ra⟩ := wg _ _ ga
    obtain ⟨zs, hb, rb⟩ := wg _ _ gb
    exact mt_extend pins s σ H _ _ v us Q I rx rs ⟨a, b, ys, zs, rfl, rfl, ha, hb, by rw [ra.len, rb.len]; exact hl, k _ _ _ _ h (wg.setL ga (ra.app rb)) (Ext.setC ga) .non⟩
def dReverse : DM := fun x ds G Q => match x, ds with
  | .ref a, [] => ∃ l, G a = some (.lst l) ∧ Q .non (gup G a (.lst l.reverse))
  | _, _ => False
theorem m_reverse : MtD X "list.reverse" dReverse := by
  rintro pins s σ H x xs v us Q I rx rs ⟨dx, ds, G, P, vx, vs, wg, h, k⟩
  match dx, ds, vx, vs, h with
  | .ref a, [], .ref _, .nil, ⟨l, ga, h⟩ =>
    obtain ⟨ys, ha, ra⟩ := wg _ _ ga
    exact mt_reverse pins s σ H _ _ v us Q I rx rs ⟨a, ys, rfl, rfl, ha, k _ _ _ _ h (wg.setL ga ra.rev) (Ext.setC ga) .non⟩
def dPop : DM := fun x ds G Q => match x, ds with
  | .ref a, [] => ∃ l d, G a = some (.lst l) ∧ l[l.length - 1]? = some d ∧ Q d (gup G a (.lst l.dropLast))
  | .ref a, [.int i] => ∃ l n d, G a = some (.lst l) ∧ -(2 ^ 63) ≤ i ∧ i < 2 ^ 63 ∧ seqIndex? i l.length = some n ∧ l[n]? = some d ∧ Q d (gup G a (.lst (l.eraseIdx n)))
  | _, _ => False
theorem m_pop : MtD X "list.pop" dPop := by
  rintro pins s σ H x xs v us Q I rx rs ⟨dx, ds, G, P, vx, vs, wg, h, k⟩
  match dx, ds, vx, vs, h with
  | .ref a, [], .ref _, .nil, ⟨l, d, ga, hd, h⟩ =>
    obtain ⟨ys, ha, ra⟩ := wg _ _ ga
    rw [← ra.len] at hd
    obtain ⟨w, e, r⟩ := ra.get hd
    exact mt_pop pins s σ H _ _ v us Q I rx rs ⟨a, ys, w, rfl, rfl, ha, e, k _ _ _ _ h (wg.setL ga ra.dropLast) (Ext.setC ga) (r.ext wg (Ext.setC (c' := .lst []) ga))⟩
  | .ref a, [.int i], .ref _, .cons (.int _) .nil, ⟨l, n, d, ga, i1, i2, hn, hd, h⟩ =>
    obtain ⟨ys, ha, ra⟩ := wg _ _ ga
    obtain ⟨w, e, r⟩ := ra.get hd
    exact mt_popAt pins s σ H _ _ v us Q I rx rs ⟨a, ys, i, n, w, rfl, rfl, ha, i1, i2, by rw [ra.len]; exact hn, e, k _ _ _ _ h (wg.setL ga (ra.eraseIdx n)) (Ext.setC ga) (r.ext wg (Ext.setC (c' := .lst []) ga))⟩

/-! ### built-in functions -/
def lenD (d : DV) (G : Gh) (Q : Nat → Prop) : Prop := match d with
  | .tup l => Q l.length
  | .ro l => Q l.length
  | .str z => z.length ≤ sizeLine ∧ Q z.length
  | .ref a => ∃ l, G a = some (.lst l) ∧ Q l.length
  | _ => False
def dLen : DC := fun ds G Q => match ds with
  | [d] => lenD d G fun n => Q (.int n) G
  | _ => False
theorem c_len : CallD X (.builtin "len") dLen := by
  rintro pins s σ H xs us Q I rs ⟨ds, G, P, vs, wg, h, k⟩
  cases vs with
  | nil => exact h.elim
  | cons r t =>
    cases t with
    | cons => exact h.elim
    | nil =>
      cases r <;> first | exact h.elim | skip
      · exact call_len pins s σ H _ us Q I rs ⟨_, _, rfl, ⟨h.1, rfl⟩, op_end wg k h.2 (.int _)⟩
      · obtain ⟨l, ga, h⟩ := h
        obtain ⟨ys, ha, r⟩ := wg _ _ ga
        exact call_len pins s σ H _ us Q I rs ⟨_, l.length, rfl, .inl ⟨_, SqL.of ha, r.len.symm⟩, op_end wg k h (.int _)⟩
      · rename_i sq r
        exact call_len pins s σ H _ us Q I rs ⟨_, _, rfl, .inr ⟨_, sq, r.len.symm⟩, op_end wg k h (.int _)⟩
      · rename_i sq r
        exact call_len pins s σ H _ us Q I rs ⟨_, _, rfl, .inl ⟨_, sq.sq, r.len.symm⟩, op_end wg k h (.int _)⟩
/-- a list's items -/
def itemsD (d : DV) (G : Gh) (Q : List DV → Prop) : Prop := match d with
  | .ro l => Q l
  | .ref a => ∃ l, G a = some (.lst l) ∧ Q l
  | _ => False
theorem itemsD.sq {K : PySem.W.Frag} {H : Hp} {G : Gh} {d : DV} {v : V} {Q : List DV → Prop} (wg : WG K G H) (r : VR K H v d) (h : itemsD d G Q) : ∃ a xs l, v = .ref a ∧ SqL K H a xs ∧ VRs K H xs l ∧ Q l := by
  cases r <;> first | exact h.elim | skip
  · obtain ⟨l, e, q⟩ := h
    obtain ⟨xs, e2, rr⟩ := wg _ _ e
    exact ⟨_, xs, l, rfl, SqL.of e2, rr, q⟩
  · rename_i rl rr
    exact ⟨_, _, _, rfl, rl.sq, rr, h⟩
/-! sum, max, min of a tuple -/
namespace TupRaw
variable {prog : Program} {w : World} {A : Around} {E : Value → Shared → Prop} {s : Shared} {l : Addr} {its : List Value} {ns : List Int} {Q : Value → Shared → Prop}
theorem iterT {xs : Array Value} {Q : Value → Shared → Prop} (hl : s.heap.IsTuple l xs)
    (h : ∀ s₂ : Shared, s₂ = { s with heap := s.heap.push { cls := .type "tuple_iterator", data := .fields #[.ref l, .int 0 0] } } →
      (s₂.heap.IsTupleIter s.heap.objs.size l 0 ∧ s₂.heap.IsTuple l xs) → (∀ b ∈ [s.heap.objs.size, l], b < s₂.heap.objs.size) → l ≠ s.heap.objs.size → Q (.ref s.heap.objs.size) s₂) :
    wpAny (model prog w) A (pyIter (.ref l)) Q E s := by
  have hlt : l < s.heap.objs.size := by obtain ⟨_, e, _⟩ := hl; exact Heap.lt_size e
  refine wpAny_pyIter_tuple hl (h _ rfl ⟨⟨_, Heap.get?_push_size _ rfl, rfl, rfl⟩, ?_⟩ (fun b hb => ?_) (Nat.ne_of_lt hlt))
  · obtain ⟨o, ho, r⟩ := hl
    exact ⟨o, Heap.get?_push_of_some _ ho, r⟩
  show b < (s.heap.push _).objs.size
  rw [Heap.size_push]
  rcases List.mem_cons.mp hb with rfl | hb
  · exact Nat.lt_succ_self _
  · rcases List.mem_cons.mp hb with rfl | hb
    · exact Nat.lt_succ_of_lt hlt
    · cases hb
theorem oldT {h' : Heap} (hk : ∀ b o, b ∉ [s.heap.objs.size] → (s.heap.push { cls := .type "tuple_iterator", data := .fields #[.ref l, .int 0 0] }).get? b = some o → h'.get? b = some o) :
    ∀ b o, s.heap.get? b = some o → h'.get? b = some o := fun b o e => by
  refine hk b o (fun hm => ?_) (Heap.get?_push_of_some _ e)
  rcases List.mem_cons.mp hm with e1 | hm
  · exact absurd (e1 ▸ Heap.lt_size e) (Nat.lt_irrefl _)
  · cases hm
theorem sumT {xs : Array (Int × Tok)} (hh : A.handled = none) (hl : s.heap.IsTuple l (intItems xs))
    (h : ∀ h' tk t', (∀ b o, s.heap.get? b = some o → h'.get? b = some o) → Q (.int (preSum (numAt xs) xs.size) t') { s with heap := h', toks := tk }) :
    wpAny (model prog w) A (call (.builtin "sum") [.ref l]) Q E s := by
  refine call_sum_walkG (iterT hl fun s₂ e st hfp hlI => ?_)
  subst e
  refine ⟨_, _, _, _, _, _, numAt xs, rfl, Walks.tuple (A := A.in1) hh _ l hlI (intItems xs), st, hfp, (fun _ _ => intItems_at), fun h' tk t' hk => ?_⟩
  have := h h' tk t' (oldT hk)
  simpa [intItems] using this
theorem maxT {xs : Array (Int × Tok)} (hh : A.handled = none) (hl : s.heap.IsTuple l (intItems xs)) (hne : 0 < xs.size)
    (h : ∀ v h' tk, (intItems xs)[argBest (fun i j => decide (numAt xs i > numAt xs j)) (xs.size - 1)]? = some v → (∀ b o, s.heap.get? b = some o → h'.get? b = some o) → Q v { s with heap := h', toks := tk }) :
    wpAny (model prog w) A (call (.builtin "max") [.ref l]) Q E s := by
  refine call_max_walk (iterT hl fun s₂ e st hfp hlI => ?_)
  subst e
  refine ⟨_, _, _, _, _, _, _, rfl, Walks.tuple (A := A.in1) hh _ l hlI (intItems xs), st, hfp, by simpa [intItems] using hne, CmpOf.ints_gt (numAt xs) (fun _ _ => intItems_at), fun v h' tk hP hk => ?_⟩
  exact h v h' tk (by simpa [intItems] using hP) (oldT hk)
theorem minT {xs : Array (Int × Tok)} (hh : A.handled = none) (hl : s.heap.IsTuple l (intItems xs)) (hne : 0 < xs.size)
    (h : ∀ v h' tk, (intItems xs)[argBest (fun i j => decide (numAt xs i < numAt xs j)) (xs.size - 1)]? = some v → (∀ b o, s.heap.get? b = some o → h'.get? b = some o) → Q v { s with heap := h', toks := tk }) :
    wpAny (model prog w) A (call (.builtin "min") [.ref l]) Q E s := by
  refine call_min_walk (iterT hl fun s₂ e st hfp hlI => ?_)
  subst e
  refine ⟨_, _, _, _, _, _, _, rfl, Walks.tuple (A := A.in1) hh _ l hlI (intItems xs), st, hfp, by simpa [intItems] using hne, CmpOf.ints_lt (numAt xs) (fun _ _ => intItems_at), fun v h' tk hP hk => ?_⟩
  exact h v h' tk (by simpa [intItems] using hP) (oldT hk)
theorem sum_rawT (hh : A.handled = none) (hl : s.heap.IsTuple l its.toArray) (hi : IntsAre its ns)
    (h : ∀ h' tk t', (∀ b o, s.heap.get? b = some o → h'.get? b = some o) → Q (.int ns.sum t') { s with heap := h', toks := tk }) : wpAny (model prog w) A (call (.builtin "sum") [.ref l]) Q E s := by
  obtain ⟨xs, e⟩ := hi.allInts.items
  have hn : numsOf (intItems xs).toList = ns := by rw [← e]; exact hi.numsOf
  rw [nums_intItems] at hn
  rw [e] at hl
  refine sumT hh hl fun h' tk t' hk => ?_
  have := h h' tk t' hk
  rw [preSum_eq, List.take_of_length_le (by simp), hn]; exact this
theorem max_rawT (hh : A.handled = none) (hl : s.heap.IsTuple l its.toArray) (hi : IntsAre its ns) (hne : 0 < ns.length)
    (h : ∀ h' tk M t', (∀ b o, s.heap.get? b = some o → h'.get? b = some o) → M ∈ ns → (∀ a, a ∈ ns → a ≤ M) → Q (.int M t') { s with heap := h', toks := tk }) : wpAny (model prog w) A (call (.builtin "max") [.ref l]) Q E s := by
  obtain ⟨xs, e⟩ := hi.allInts.items
  have hn : numsOf (intItems xs).toList = ns := by rw [← e]; exact hi.numsOf
  rw [nums_intItems] at hn
  subst hn
  rw [e] at hl
  have hsz : 0 < xs.size := by simpa using hne
  refine maxT hh hl hsz fun v h' tk hv hk => ?_
  obtain ⟨t, rfl⟩ := intItems_at hv
  obtain ⟨h1, h2⟩ := argBest_gt (numAt xs) (xs.size - 1)
  refine h h' tk _ t hk ?_ fun a ha => ?_
  · rw [numAt_eq]; exact PySem.getD_mem (by rw [List.length_map, Array.length_toList]; omega)
  · obtain ⟨j, hj, rfl⟩ := mem_getD ha
    rw [List.length_map, Array.length_toList] at hj
    rw [← numAt_eq]; exact h2 j (by omega)
theorem min_rawT (hh : A.handled = none) (hl : s.heap.IsTuple l its.toArray) (hi : IntsAre its ns) (hne : 0 < ns.length)
    (h : ∀ h' tk M t', (∀ b o, s.heap.get? b = some o → h'.get? b = some o) → M ∈ ns → (∀ a, a ∈ ns → M ≤ a) → Q (.int M t') { s with heap := h', toks := tk }) : wpAny (model prog w) A (call (.builtin "min") [.ref l]) Q E s := by
  obtain ⟨xs, e⟩ := hi.allInts.items
  have hn : numsOf (intItems xs).toList = ns := by rw [← e]; exact hi.numsOf
  rw [nums_intItems] at hn
  subst hn
  rw [e] at hl
  have hsz : 0 < xs.size := by simpa using hne
  refine minT hh hl hsz fun v h' tk hv hk => ?_
  obtain ⟨t, rfl⟩ := intItems_at hv
  obtain ⟨h1, h2⟩ := argBest_lt (numAt xs) (xs.size - 1)
  refine h h' tk _ t hk ?_ fun a ha => ?_
  · rw [numAt_eq]; exact PySem.getD_mem (by rw [List.length_map, Array.length_toList]; omega)
  · obtain ⟨j, hj, rfl⟩ := mem_getD ha
    rw [List.length_map, Array.length_toList] at hj
    rw [← numAt_eq]; exact h2 j (by omega)
theorem cr_sumT {X : Cx} (hc : X.calm = true) : CallR X (.builtin "sum") (fun vs H Q => ∃ (a : Addr) (ns : List Int), vs = [V.ref a] ∧ SqT X.K H a (ns.map V.int) ∧ Q (.int ns.sum) H) := by
  intro pins s σ H vs us Q I r h
  obtain ⟨a, ns, rfl, hs, q⟩ := h
  obtain ⟨its, rv, hl, _⟩ := I.tuple hs
  rw [Vals.ref1 r]
  exact sum_rawT (I.ok.hd hc) hl rv.ints fun h' tk t' hk => ⟨.int _, H, I.kept hk, ⟨_, rfl⟩, q⟩
theorem cr_maxT {X : Cx} (hc : X.calm = true) : CallR X (.builtin "max") (fun vs H Q => ∃ (a : Addr) (ns : List Int), vs = [V.ref a] ∧ SqT X.K H a (ns.map V.int) ∧ 0 < ns.length ∧ ∀ m, m ∈ ns → (∀ y, y ∈ ns → y ≤ m) → Q (.int m) H) := by
  intro pins s σ H vs us Q I r h
  obtain ⟨a, ns, rfl, hs, hne, q⟩ := h
  obtain ⟨its, rv, hl, _⟩ := I.tuple hs
  rw [Vals.ref1 r]
  exact max_rawT (I.ok.hd hc) hl rv.ints hne fun h' tk m t' hk h1 h2 => ⟨.int _, H, I.kept hk, ⟨_, rfl⟩, q m h1 h2⟩
theorem cr_minT {X : Cx} (hc : X.calm = true) : CallR X (.builtin "min") (fun vs H Q => ∃ (a : Addr) (ns : List Int), vs = [V.ref a] ∧ SqT X.K H a (ns.map V.int) ∧ 0 < ns.length ∧ ∀ m, m ∈ ns → (∀ y, y ∈ ns → m ≤ y) → Q (.int m) H) := by
  intro pins s σ H vs us Q I r h
  obtain ⟨a, ns, rfl, hs, hne, q⟩ := h
  obtain ⟨its, rv, hl, _⟩ := I.tuple hs
  rw [Vals.ref1 r]
  exact min_rawT (I.ok.hd hc) hl rv.ints hne fun h' tk m t' hk h1 h2 => ⟨.int _, H, I.kept hk, ⟨_, rfl⟩, q m h1 h2⟩
end TupRaw
def itemsT (d : DV) (G : Gh) (Q : List DV → Prop) : Prop := match d with
  | .ro l => Q l
  | .tup l => Q l
  | .ref a => ∃ l, G a = some (.lst l) ∧ Q l
  | _ => False
theorem itemsT.sq {K : PySem.W.Frag} {H : Hp} {G : Gh} {d : DV} {v : V} {Q : List DV → Prop} (wg : WG K G H) (r : VR K H v d) (h : itemsT d G Q) : ∃ a xs l, v = .ref a ∧ (SqL K H a xs ∨ SqT K H a xs) ∧ VRs K H xs l ∧ Q l := by
  cases r <;> first | exact h.elim | skip
  · obtain ⟨l, e, q⟩ := h
    obtain ⟨xs, e2, rr⟩ := wg _ _ e
    exact ⟨_, xs, l, rfl, .inl (SqL.of e2), rr, q⟩
  · rename_i sq rr
    exact ⟨_, _, _, rfl, .inr sq, rr, h⟩
  · rename_i rl rr
    exact ⟨_, _, _, rfl, .inl rl.sq, rr, h⟩
def dSum : DC := fun ds G Q => match ds with
  | [d] => itemsT d G fun l => ∃ ns : List Int, l = ns.map .int ∧ Q (.int ns.sum) G
  | _ => False
theorem c_sum (hc : X.calm = true) : CallD X (.builtin "sum") dSum := by
  rintro pins s σ H xs us Q I rs ⟨ds, G, P, vs, wg, h, k⟩
  match ds, vs, h with
  | [d], .cons r .nil, h =>
    obtain ⟨a, ys, l, rfl, sq, rr, ns, rfl, h⟩ := itemsT.sq wg r h
    rw [rr.ofInts] at sq
    rcases sq with sq | sq
    · exact cr_sum hc pins s σ H _ us Q I rs ⟨a, ns, rfl, sq, op_end wg k h (.int _)⟩
    · exact TupRaw.cr_sumT hc pins s σ H _ us Q I rs ⟨a, ns, rfl, sq, op_end wg k h (.int _)⟩
def dAll : DC := fun ds G Q => match ds with
  | [d] => itemsD d G fun l => ∃ bs : List Bool, l = bs.map .bl ∧ Q (.bl (bs.all id)) G
  | _ => False
theorem c_all (hc : X.calm = true) : CallD X (.builtin "all") dAll := by
  rintro pins s σ H xs us Q I rs ⟨ds, G, P, vs, wg, h, k⟩
  match ds, vs, h with
  | [d], .cons r .nil, h =>
    obtain ⟨a, ys, l, rfl, sq, rr, ns, rfl, h⟩ := itemsD.sq wg r h
    rw [rr.ofBls] at sq
    exact cr_all hc pins s σ H _ us Q I rs ⟨a, ns, rfl, sq, op_end wg k h (.bl _)⟩
def dAny : DC := fun ds G Q => match ds with
  | [d] => itemsD d G fun l => ∃ bs : List Bool, l = bs.map .bl ∧ Q (.bl (bs.any id)) G
  | _ => False
theorem c_any (hc : X.calm = true) : CallD X (.builtin "any") dAny := by
  rintro pins s σ H xs us Q I rs ⟨ds, G, P, vs, wg, h, k⟩
  match ds, vs, h with
  | [d], .cons r .nil, h =>
    obtain ⟨a, ys, l, rfl, sq, rr, ns, rfl, h⟩ := itemsD.sq wg r h
    rw [rr.ofBls] at sq
    exact cr_any hc pins s σ H _ us Q I rs ⟨a, ns, rfl, sq, op_end wg k h (.bl _)⟩
/-- max, min: of two ints, or of a list of ints -/
def dMax : DC := fun ds G Q => match ds with
  | [.int i, .int j] => Q (.int (if j > i then j else i)) G
  | [d] => itemsT d G fun l => ∃ ns : List Int, l = ns.map .int ∧ 0 < ns.length ∧ ∀ m, m ∈ ns → (∀ y, y ∈ ns → y ≤ m) → Q (.int m) G
  | _ => False
theorem c_max (hc : X.calm = true) : CallD X (.builtin "max") dMax := by
  rintro pins s σ H xs us Q I rs ⟨ds, G, P, vs, wg, h, k⟩
  cases vs with
  | nil => exact h.elim
  | cons r t =>
    cases t with
    | cons r2 t2 =>
      cases t2 with
      | cons => cases r <;> first | exact h.elim | (cases r2 <;> exact h.elim)
      | nil =>
        cases r <;> first | exact h.elim | skip
        cases r2 <;> first | exact h.elim | skip
        exact call_max2 hc pins s σ H _ us Q I rs ⟨_, _, rfl, op_end wg k h (.int _)⟩
    | nil =>
      cases r <;> first | exact h.elim | skip
      · obtain ⟨l, ga, ns, rfl, hn, h⟩ := h
        obtain ⟨ys, ha, rr⟩ := wg _ _ ga
        rw [rr.ofInts] at ha
        exact cr_max hc pins s σ H _ us Q I rs ⟨_, ns, rfl, SqL.of ha, hn, fun m h1 h2 => op_end wg k (h m h1 h2) (.int _)⟩
      · rename_i sq rr
        obtain ⟨ns, rfl, hn, h⟩ := h
        rw [rr.ofInts] at sq
        exact TupRaw.cr_maxT hc pins s σ H _ us Q I rs ⟨_, ns, rfl, sq, hn, fun m h1 h2 => op_end wg k (h m h1 h2) (.int _)⟩
      · rename_i sq rr
        obtain ⟨ns, rfl, hn, h⟩ := h
        rw [rr.ofInts] at sq
        exact cr_max hc pins s σ H _ us Q I rs ⟨_, ns, rfl, sq.sq, hn, fun m h1 h2 => op_end wg k (h m h1 h2) (.int _)⟩
def dMin : DC := fun ds G Q => match ds with
  | [.int i, .int j] => Q (.int (if j < i then j else i)) G
  | [d] => itemsT d G fun l => ∃ ns : List Int, l = ns.map .int ∧ 0 < ns.length ∧ ∀ m, m ∈ ns → (∀ y, y ∈ ns → m ≤ y) → Q (.int m) G
  | _ => False
theorem c_min (hc : X.calm = true) : CallD X (.builtin "min") dMin := by
  rintro pins s σ H xs us Q I rs ⟨ds, G, P, vs, wg, h, k⟩
  cases vs with
  | nil => exact h.elim
  | cons r t =>
    cases t with
    | cons r2 t2 =>
      cases t2 with
      | cons => cases r <;> first | exact h.elim | (cases r2 <;> exact h.elim)
      | nil =>
        cases r <;> first | exact h.elim | skip
        cases r2 <;> first | exact h.elim | skip
        exact call_min2 hc pins s σ H _ us Q I rs ⟨_, _, rfl, op_end wg k h (.int _)⟩
    | nil =>
      cases r <;> first | exact h.elim | skip
      · obtain ⟨l, ga, ns, rfl, hn, h⟩ := h
        obtain ⟨ys, ha, rr⟩ := wg _ _ ga
        rw [rr.ofInts] at ha
        exact cr_min hc pins s σ H _ us Q I rs ⟨_, ns, rfl, SqL.of ha, hn, fun m h1 h2 => op_end wg k (h m h1 h2) (.int _)⟩
      · rename_i sq rr
        obtain ⟨ns, rfl, hn, h⟩ := h
        rw [rr.ofInts] at sq
        exact TupRaw.cr_minT hc pins s σ H _ us Q I rs ⟨_, ns, rfl, sq, hn, fun m h1 h2 => op_end wg k (h m h1 h2) (.int _)⟩
      · rename_i sq rr
        obtain ⟨ns, rfl, hn, h⟩ := h
        rw [rr.ofInts] at sq
        exact cr_min hc pins s σ H _ us Q I rs ⟨_, ns, rfl, sq.sq, hn, fun m h1 h2 => op_end wg k (h m h1 h2) (.int _)⟩
def dAbs : DC := fun ds G Q => match ds with
  | [.int i] => Q (.int (if i < 0 then -i else i)) G
  | _ => False
theorem c_abs : CallD X (.builtin "abs") dAbs := by
  rintro pins s σ H xs us Q I rs ⟨ds, G, P, vs, wg, h, k⟩
  match ds, vs, h with
  | [.int i], .cons (.int _) .nil, h => exact call_abs pins s σ H _ us Q I rs ⟨i, rfl, op_end wg k h (.int _)⟩
def dInt : DC := fun ds G Q => match ds with
  | [.int i] => Q (.int i) G
  | [.bl b] => Q (.int (if b then 1 else 0)) G
  | _ => False
theorem c_int : CallD X (.type "int") dInt := by
  rintro pins s σ H xs us Q I rs ⟨ds, G, P, vs, wg, h, k⟩
  match ds, vs, h with
  | [.int i], .cons (.int _) .nil, h => exact call_int1 pins s σ H _ us Q I rs (.inl ⟨i, rfl, op_end wg k h (.int _)⟩)
  | [.bl i], .cons (.bl _) .nil, h => exact call_int1 pins s σ H _ us Q I rs (.inr ⟨i, rfl, op_end wg k h (.int _)⟩)
/-- a text's signs -/
def signsV (z : Str) : List V := z.cps.toList.map fun c => .str ⟨#[c]⟩
def signsD (z : Str) : List DV := z.cps.toList.map fun c => .str ⟨#[c]⟩
theorem signs_vr {K : PySem.W.Frag} {H : Hp} (z : Str) : VRs K H (signsV z) (signsD z) := by
  unfold signsV signsD
  induction z.cps.toList with
  | nil => exact .nil
  | cons a l ih => exact .cons (.str _) ih
theorem signs_vals {z : Str} {acc : Array Value} (h : ItemsOf (SignAt z) acc z.cps.size) : Vals (signsV z) acc.toList := by
  refine vals_of_at ?_ fun j x u hx hu => ?_
  · rw [signsV, List.length_map, Array.length_toList, Array.length_toList, h.1]
  · rw [Array.getElem?_toList] at hu
    obtain ⟨c, t, hc, rfl⟩ := h.2 j u hu
    rw [signsV, List.getElem?_map, Array.getElem?_toList, hc] at hx
    cases hx
    exact ⟨t, rfl⟩
theorem cr_tupStr {X : Cx} (hc : X.calm = true) : CallR X (.type "tuple") (fun xs H Q => ∃ z : Str, xs = [.str z] ∧ z.cps.size ≤ sizeLine ∧ ∀ p, H p = none → Q (.ref p) (upd H p (.tup (signsV z)))) := by
  intro pins s σ H vs us Q I r h
  obtain ⟨z, rfl, hz, q⟩ := h
  obtain ⟨u, rfl, t, rfl⟩ := vals1 r
  refine call_tuple_str (I.ok.hd hc) z t (fun h' tk acc hk hi => ?_) hz
  have I2 : Inv X pins σ H { s with heap := h', toks := tk } := I.kept hk
  refine ⟨.ref h'.objs.size, upd H h'.objs.size (.tup (signsV z)), I2.laid (t' := tk) (fun c o e => Heap.get?_push_of_some _ e) (Nat.le_refl _) (show ObjOk X.prog X.w _ _ _ (.tup (signsV z)) from ⟨?_, acc.toList, signs_vals hi, ?_⟩), rfl, q _ (I2.hok.fresh (Nat.le_refl _))⟩
  · rw [signsV, List.length_map, Array.length_toList]; exact hz
  · rw [Array.toArray_toList]; exact PyProof.Rows.IsTup.new _ _
theorem cr_lstStr {X : Cx} (hc : X.calm = true) : CallR X (.type "list") (fun xs H Q => ∃ z : Str, xs = [.str z] ∧ z.cps.size ≤ sizeLine ∧ ∀ p, H p = none → Q (.ref p) (upd H p (.lst (signsV z)))) := by
  intro pins s σ H vs us Q I r h
  obtain ⟨z, rfl, hz, q⟩ := h
  obtain ⟨u, rfl, t, rfl⟩ := vals1 r
  refine call_list_str (I.ok.hd hc) z t (fun h' tk acc c' hk e' hi => ?_) hz
  refine ⟨.ref s.heap.objs.size, upd H s.heap.objs.size (.lst (signsV z)), I.laid hk (Nat.le_refl _) (show ObjOk X.prog X.w _ _ _ (.lst (signsV z)) from ⟨?_, acc.toList, c', signs_vals hi, ?_⟩), rfl, q _ (I.hok.fresh (Nat.le_refl _))⟩
  · rw [signsV, List.length_map, Array.length_toList]; exact hz
  · rw [Array.toArray_toList]; exact e'
def dTuple : DC := fun ds G Q => match ds with
  | [.tup l] => Q (.tup l) G
  | [.str z] => z.cps.size ≤ sizeLine ∧ Q (.tup (signsD z)) G
  | [d] => itemsD d G fun l => Q (.tup l) G
  | _ => False
theorem c_tuple (hc : X.calm = true) : CallD X (.type "tuple") dTuple := by
  rintro pins s σ H xs us Q I rs ⟨ds, G, P, vs, wg, h, k⟩
  cases vs with
  | nil => exact h.elim
  | cons r t =>
    cases t with
    | cons => cases r <;> exact h.elim
    | nil =>
      cases r <;> first | exact h.elim | skip
      · obtain ⟨hz, h⟩ := h
        exact cr_tupStr hc pins s σ H _ us Q I rs ⟨_, rfl, hz, fun p np => k _ _ _ _ h (wg.new np) (Ext.new np) (VR.newT wg np (signs_vr _))⟩
      · obtain ⟨l, ga, h⟩ := h
        obtain ⟨ys, ha, r⟩ := wg _ _ ga
        exact call_tuple_of pins s σ H _ us Q I rs ⟨_, _, rfl, .inl ⟨SqL.of ha, fun p np => k _ _ _ _ h (wg.new np) (Ext.new np) (VR.newT wg np r)⟩⟩
      · rename_i sq r
        exact call_tuple_of pins s σ H _ us Q I rs ⟨_, _, rfl, .inr ⟨sq, op_end wg k h (.tup sq r)⟩⟩
      · rename_i sq r
        exact call_tuple_of pins s σ H _ us Q I rs ⟨_, _, rfl, .inl ⟨sq.sq, fun p np => k _ _ _ _ h (wg.new np) (Ext.new np) (VR.newT wg np r)⟩⟩
def dList : DC := fun ds G Q => match ds with
  | [.tup l] => ∀ p, G p = none → Q (.ref p) (gup G p (.lst l))
  | [.str z] => z.cps.size ≤ sizeLine ∧ ∀ p, G p = none → Q (.ref p) (gup G p (.lst (signsD z)))
  | [d] => itemsD d G fun l => ∀ p, G p = none → Q (.ref p) (gup G p (.lst l))
  | _ => False
theorem c_list (hc : X.calm = true) : CallD X (.type "list") dList := by
  rintro pins s σ H xs us Q I rs ⟨ds, G, P, vs, wg, h, k⟩
  cases vs with
  | nil => exact h.elim
  | cons r t =>
    cases t with
    | cons => cases r <;> exact h.elim
    | nil =>
      cases r <;> first | exact h.elim | skip
      · obtain ⟨hz, h⟩ := h
        exact cr_lstStr hc pins s σ H _ us Q I rs ⟨_, rfl, hz, fun p np => k _ _ _ _ (h p (wg.non np)) (wg.newL np (signs_vr _)) (Ext.newC np) (.ref p)⟩
      · obtain ⟨l, ga, h⟩ := h
        obtain ⟨ys, ha, r⟩ := wg _ _ ga
        exact call_list_of pins s σ H _ us Q I rs ⟨_, _, rfl, .inl (SqL.of ha), fun p np => k _ _ _ _ (h p (wg.non np)) (wg.newL np r) (Ext.newC np) (.ref p)⟩
      · rename_i sq r
        exact call_list_of pins s σ H _ us Q I rs ⟨_, _, rfl, .inr sq, fun p np => k _ _ _ _ (h p (wg.non np)) (wg.newL np r) (Ext.newC np) (.ref p)⟩
      · rename_i sq r
        exact call_list_of pins s σ H _ us Q I rs ⟨_, _, rfl, .inl sq.sq, fun p np => k _ _ _ _ (h p (wg.non np)) (wg.newL np r) (Ext.newC np) (.ref p)⟩
def dStr : DC := fun ds G Q => match ds with
  | [.int i] => i.natAbs.log2 < 1920 ∧ Q (.str (toString i)) G
  | [.str z] => Q (.str z) G
  | _ => False
theorem c_str : CallD X (.type "str") dStr := by
  rintro pins s σ H xs us Q I rs ⟨ds, G, P, vs, wg, h, k⟩
  match ds, vs, h with
  | [.int i], .cons (.int _) .nil, h => exact call_str_int pins s σ H _ us Q I rs ⟨i, rfl, h.1, op_end wg k h.2 (.str _)⟩
  | [.str i], .cons (.str _) .nil, h => exact SkE.call_str_str pins s σ H _ us Q I rs ⟨i, rfl, op_end wg k h (.str _)⟩
/-- isinstance of a built-in class -/
def kindD (d : DV) (G : Gh) (Q : String → Prop) : Prop := match d with
  | .non => Q "NoneType"
  | .bl _ => Q "bool"
  | .int _ => Q "int"
  | .str _ => Q "str"
  | .tup _ => Q "tuple"
  | .ro _ => Q "list"
  | .ref a => match G a with
    | some (.lst _) => Q "list"
    | some (.dic _) => Q "dict"
    | _ => False
  | .ty _ => False
def isaB (n c : String) : Bool := n == c || (n == "bool" && c == "int")
def dIsi : DC := fun ds G Q => match ds with
  | [d, .ty c] => c ∈ ["int", "bool", "str", "tuple", "list", "dict"] ∧ kindD d G fun n => Q (.bl (isaB n c)) G
  | _ => False
theorem kit_all : ∀ n ∈ ["NoneType", "bool", "int", "str", "tuple", "list", "dict"], ∀ c ∈ ["int", "bool", "str", "tuple", "list", "dict"], ∀ K : PySem.W.Frag, PySem.W.kitOne K (.type n) (.type c) = some (isaB n c) := by
  intro n hn c hc K
  simp only [List.mem_cons, List.not_mem_nil, or_false] at hn hc
  rcases hn with rfl | rfl | rfl | rfl | rfl | rfl | rfl <;> rcases hc with rfl | rfl | rfl | rfl | rfl | rfl <;> rfl
end
end DL

namespace DL
open PySem PySem.Spec L2
open PyProof.Rows hiding St
section
variable {X : Cx} {W : WX} {tg e : Expr} {es : List Expr} {wa wb : DE} {wr : DA} {pos p p2 : Pos}

/-! ### isinstance(x, T), T built in -/
theorem kindD.ty {K : PySem.W.Frag} {H : Hp} {G : Gh} {d : DV} {v : V} {Q : String → Prop} (wg : WG K G H) (r : VR K H v d) (h : kindD d G Q) : ∃ n, n ∈ ["NoneType", "bool", "int", "str", "tuple", "list", "dict"] ∧ TyX K H v (.type n) ∧ Q n := by
  cases r <;> first | exact h.elim | skip
  · exact ⟨"NoneType", by simp, .base (.non), h⟩
  · exact ⟨"bool", by simp, .base (.bl _), h⟩
  · exact ⟨"int", by simp, .base (.int _), h⟩
  · exact ⟨"str", by simp, .base (.str _), h⟩
  · rename_i a
    have h' : (match G a with | some (.lst _) => Q "list" | some (.dic _) => Q "dict" | _ => False) := h
    cases q : G a with
    | none => rw [q] at h'; exact h'.elim
    | some c =>
      rw [q] at h'
      have z := wg _ _ q
      cases c with
      | lst l => obtain ⟨xs, ha, _⟩ := z; exact ⟨"list", by simp, .base (.lst ha), h'⟩
      | dic l => obtain ⟨xs, ha, _⟩ := z; exact ⟨"dict", by simp, .base (.dK ha), h'⟩
      | ins C fs => exact h'.elim
  · rename_i sq r
    refine ⟨"tuple", by simp, ?_, h⟩
    rcases sq with (ha | ⟨o, ha⟩) | ⟨o, its, n, hk, hc, _⟩
    · exact .base (.tup ha)
    · exact .fTuple ha
    · exact .kTuple hk hc
  · rename_i rl r
    refine ⟨"list", by simp, ?_, h⟩
    rcases rl with ⟨o, ha⟩ | ((ha | ⟨o, ha⟩) | ⟨o, its, n, hk, hc, _⟩)
    · exact .base (.frz ha)
    · cases ha
    · cases ha
    · exact .kList hk hc
theorem c_isi : CallD X (.builtin "isinstance") dIsi := by
  rintro pins s σ H xs us Q I rs ⟨ds, G, P, vs, wg, h, k⟩
  match ds, vs, h with
  | [d, .ty c], .cons r (.cons (.ty _) .nil), ⟨hc, h⟩ =>
    obtain ⟨n, hn, ty, q⟩ := kindD.ty wg r h
    exact call_isi pins s σ H _ us Q I rs ⟨_, .ty c, .type n, .type c, _, rfl, .ty c, ty, kit_all n hn c hc _, op_end wg k q (.bl _)⟩
/-- a built-in class by its name -/
theorem q_bty {x : Str} {n : String} {u : Value} (hm : X.mg x = none) (hv : bootBuiltins x = some u := by decide +kernel) (r : RelV (.ty n) u := by rfl) (hg : Gl X x := by rfl) (hn : x ≠ "__name__" := by decide) (hd : (x == ("__debug__" : Str)) = false := by decide) : QE X W (.Name x pos) (wC (.ty n)) :=
  q_const (pe_bltn hg hm hv r hn hd) fun _ => .ty _

/-! ### repr of data -/
/-- what repr takes: leaves of fair size, not too much of it -/
structure Fair (d : PyData) : Prop where
  short : d.leavesShort 600 = true
  light : d.bulk ≤ 27000
  show_ : d.showable = true
  lay : d.canLay0 = true
  flat : d.depth ≤ 60
theorem Fair.size {d : PyData} (f : Fair d) : d.shown.length ≤ sizeLine := by
  have h := PyData.shown_le_bulk 600 (by decide) d f.short
  have h2 := f.light
  rw [sizeLine_eq]
  have : (600 + 2) * d.bulk ≤ 602 * 27000 := Nat.mul_le_mul (by decide) h2
  omega
def dRepr : DC := fun ds G Q => match ds with
  | [d] => ∃ e, DR G d e ∧ Fair e ∧ Q (.str e.shown) G
  | _ => False
theorem c_repr (hg : X.A.guards = some []) (hu : X.A.units + 64 < cLine) : CallD X (.builtin "repr") dRepr := by
  rintro pins s σ H xs us Q I rs ⟨ds, G, P, vs, wg, h, k⟩
  match ds, vs, h with
  | [d], .cons (v := v) r .nil, ⟨e, dr, f, q⟩ =>
    have dp := dr.dp wg r
    cases rs with
    | cons ru rt =>
      cases rt
      have done : ∀ (t : Tok) (s' : Shared), L2.Inv X pins σ H s' → EP X pins σ Q (.str e.shown t) s' := fun t s' I' => ⟨.str e.shown, H, I', ⟨t, rfl⟩, op_end wg k q (.str _)⟩
      obtain ⟨as, rd⟩ := Dp.reads I e v _ dp ru
      match e, rd, f, done with
      | .none, .none, f, done => exact PySem.P.repr_of_none (done _ _ (I.tok _))
      | .bool b, .bool _, f, done => exact PySem.P.repr_of_bool (done _ _ (I.tok _))
      | .int i, .int _ t, f, done => exact PySem.P.repr_of_int (by have := f.show_; simpa [PyData.showable] using this) (done _ _ (I.tok _))
      | .str z, .str _ t, f, done => exact PySem.P.repr_of_str (done _ _ (I.tok _)) (hsz := f.size)
      | .list ds, rd@(.list _ _ _ _), f, done =>
        exact repr_of_reads' rd f.show_ (PyData.noDict_hsm (PyData.hasDict_of_canLay _ f.lay)) hg (by have := f.flat; omega) (fun _ _ e => e) (fun h' u tk hk => done u _ (I.kept (t' := tk) hk)) f.size
      | .tuple ds, rd@(.tuple _ _ _ _), f, done =>
        exact repr_of_reads' rd f.show_ (PyData.noDict_hsm (PyData.hasDict_of_canLay _ f.lay)) hg (by have := f.flat; omega) (fun _ _ e => e) (fun h' u tk hk => done u _ (I.kept (t' := tk) hk)) f.size
      | .dict ds, rd, f, done => cases dp

/-! ### what is walked -/
/-- lists, tuples, texts -/
def wiSeq (we : DE) : DI := fun Y env G R => we Y env G fun d G1 => match d with
  | .tup l => R l (fun _ => True) G1
  | .ro l => R l (fun _ => True) G1
  | .ref a => ∃ l, G1 a = some (.lst l) ∧ R l (fun G => G a = some (.lst l)) G1
  | .str z => R (z.cps.toList.map fun c => .str ⟨#[c]⟩) (fun _ => True) G1
  | _ => False
theorem itd_list {K : PySem.W.Frag} {a : Addr} {l : List DV} {G : Gh} {H : Hp} : ItD K (Itl K a) l (fun G => G a = some (.lst l)) G H where
  go := fun i H G d wg _ ga e => by
    obtain ⟨xs, ha, rs⟩ := wg _ _ ga
    obtain ⟨v, ev, rv⟩ := rs.get e
    refine ⟨⟨xs, v, SqL.of ha, ev⟩, ?_⟩
    rintro x H' ⟨rfl, hx⟩
    have := hx xs (SqL.of ha)
    rw [ev] at this; cases this
    exact ⟨wg, Ext.refl, rv⟩
  stop := fun i H G wg _ ga hl => by
    obtain ⟨xs, ha, rs⟩ := wg _ _ ga
    exact ⟨xs, SqL.of ha, by rw [rs.len]; exact Nat.le_of_eq hl⟩
theorem itd_ro {K : PySem.W.Frag} {a : Addr} {xs : List V} {l : List DV} {G : Gh} {H : Hp} (wg0 : WG K G H) (rl : RoL K H a xs) (rs : VRs K H xs l) : ItD K (Itl K a) l (fun _ => True) G H where
  go := fun i H1 G1 d wg x _ e => by
    obtain ⟨v, ev, rv⟩ := rs.get e
    have sq := (rl.ext wg0 x).sq
    refine ⟨⟨xs, v, sq, ev⟩, ?_⟩
    rintro y H' ⟨rfl, hx⟩
    have := hx xs sq
    rw [ev] at this; cases this
    exact ⟨wg, Ext.refl, rv.ext wg0 x⟩
  stop := fun i H1 G1 wg x _ hl => ⟨xs, (rl.ext wg0 x).sq, by rw [rs.len]; exact Nat.le_of_eq hl⟩
theorem itd_tup {K : PySem.W.Frag} {a : Addr} {xs : List V} {l : List DV} {G : Gh} {H : Hp} (wg0 : WG K G H) (rl : SqT K H a xs) (rs : VRs K H xs l) : ItD K (Itt K a) l (fun _ => True) G H where
  go := fun i H1 G1 d wg x _ e => by
    obtain ⟨v, ev, rv⟩ := rs.get e
    have sq := sqT_ext rl wg0 x
    refine ⟨⟨xs, v, sq, ev⟩, ?_⟩
    rintro y H' ⟨rfl, hx⟩
    have := hx xs sq
    rw [ev] at this; cases this
    exact ⟨wg, Ext.refl, rv.ext wg0 x⟩
  stop := fun i H1 G1 wg x _ hl => ⟨xs, sqT_ext rl wg0 x, by rw [rs.len]; exact Nat.le_of_eq hl⟩
theorem itd_str {K : PySem.W.Frag} {z : Str} {G : Gh} {H : Hp} : ItD K (Its z) (z.cps.toList.map fun c => .str ⟨#[c]⟩) (fun _ => True) G H where
  go := fun i H1 G1 d wg x _ e => by
    rw [List.getElem?_map] at e
    cases q : z.cps.toList[i]? with
    | none => rw [q] at e; cases e
    | some c =>
      rw [q] at e; cases e
      have hi : i < z.cps.size := by
        obtain ⟨h, _⟩ := List.getElem?_eq_some_iff.mp q
        simpa using h
      refine ⟨hi, ?_⟩
      rintro y H' ⟨rfl, c', hc, rfl⟩
      have : c' = c := by
        have q' : z.cps[i]? = some c := by simpa using q
        rw [q'] at hc; exact (Option.some.inj hc).symm
      subst this
      exact ⟨wg, Ext.refl, .str _⟩
  stop := fun i H1 G1 wg x _ hl => by
    show z.cps.size ≤ i
    exact Nat.le_of_eq (by simpa using hl)
theorem qi_seq (h : QE X W e wa) : QI X W tg e (wiSeq wa) := by
  refine ⟨⟨?_⟩⟩
  rintro pins s σ H R I ⟨Y, env, G, P, er, wg, hw, k, kx⟩
  refine thn (h.pe.run pins s σ H (fun v H1 => ∃ d G1, VR X.K H1 v d ∧ WG X.K G1 H1 ∧ Ext G H G1 H1 ∧ (match d with
    | .tup l => P l (fun _ => True) G1
    | .ro l => P l (fun _ => True) G1
    | .ref a => ∃ l, G1 a = some (.lst l) ∧ P l (fun G => G a = some (.lst l)) G1
    | .str z => P (z.cps.toList.map fun c => .str ⟨#[c]⟩) (fun _ => True) G1
    | _ => False)) I ⟨Y, env, G, _, er, wg, hw, fun d G1 v H1 h1 w1 x1 r1 => ⟨d, G1, r1, w1, x1, h1⟩, kx⟩) ?_
  rintro u s1 ⟨v, H1, I1, ru, d, G1, r1, w1, x1, h1⟩
  have seqL : ∀ {a : Addr} {xs : List V}, v = .ref a → SqL X.K H1 a xs → R (Itl X.K a) H1 → wpAny (model X.prog X.w) X.A (pyIter u) (PIE X pins σ tg R) X.xe s1 := by
    rintro a xs rfl sq q
    cases (show u = Value.ref a from ru)
    obtain ⟨its, rv, pl, hz⟩ := I1.list sq
    refine wpAny_pyIter_list pl.isList ⟨s1.heap.objs.size, [s1.heap.objs.size], _, _, H1, rfl, ?_, turn_list a _, ?_, ?_, q⟩
    · exact I1.kept (t' := s1.toks) fun b o z => Heap.get?_push_of_some _ z
    · exact ⟨_, Heap.get?_push_size _ rfl, rfl, rfl⟩
    · intro b hb
      obtain rfl : b = s1.heap.objs.size := by simpa using hb
      exact I1.fpOk (Nat.le_refl _) (I1.hok.fresh (Nat.le_refl _))
  have seqT : ∀ {a : Addr} {xs : List V}, v = .ref a → SqT X.K H1 a xs → R (Itt X.K a) H1 → wpAny (model X.prog X.w) X.A (pyIter u) (PIE X pins σ tg R) X.xe s1 := by
    rintro a xs rfl sq q
    cases (show u = Value.ref a from ru)
    obtain ⟨its, rv, pl, hz⟩ := I1.tuple sq
    refine wpAny_pyIter_tuple (show s1.heap.IsTuple a its.toArray from pl) ⟨s1.heap.objs.size, [s1.heap.objs.size], _, _, H1, rfl, ?_, turn_tuple a _, ?_, ?_, q⟩
    · exact I1.kept (t' := s1.toks) fun b o z => Heap.get?_push_of_some _ z
    · exact ⟨_, Heap.get?_push_size _ rfl, rfl, rfl⟩
    · intro b hb
      obtain rfl : b = s1.heap.objs.size := by simpa using hb
      exact I1.fpOk (Nat.le_refl _) (I1.hok.fresh (Nat.le_refl _))
  cases r1 <;> first | exact h1.elim | skip
  · rename_i z
    obtain ⟨t, rfl⟩ := (show ∃ t, u = Value.str z t from ru)
    cases ha : z.cps.all (· < 128)
    · exact wpAny_pyIter_wide ha (pi_one (tk := s1.toks) I1 _ (turn_str _ z t "str_iterator" (.inr rfl)) ⟨_, Heap.get?_push_size _ rfl, rfl, rfl⟩ (k _ _ _ _ _ h1 w1 x1 itd_str))
    · exact wpAny_pyIter_ascii ha (pi_one (tk := s1.toks) I1 _ (turn_str _ z t "str_ascii_iterator" (.inl rfl)) ⟨_, Heap.get?_push_size _ rfl, rfl, rfl⟩ (k _ _ _ _ _ h1 w1 x1 itd_str))
  · obtain ⟨l, ga, h1⟩ := h1
    obtain ⟨xs, ha, rs⟩ := w1 _ _ ga
    exact seqL rfl (SqL.of ha) (k _ _ _ _ _ h1 w1 x1 itd_list)
  · rename_i sq rs
    exact seqT rfl sq (k _ _ _ _ _ h1 w1 x1 (itd_tup w1 sq rs))
  · rename_i rl rs
    exact seqL rfl rl.sq (k _ _ _ _ _ h1 w1 x1 (itd_ro w1 rl rs))
/-- range(n), range(a, b) -/
def intsFrom (lo : Int) : Nat → List DV
  | 0 => []
  | n + 1 => .int lo :: intsFrom (lo + 1) n
theorem intsFrom_len (lo : Int) : ∀ n, (intsFrom lo n).length = n
  | 0 => rfl
  | n + 1 => by simp [intsFrom, intsFrom_len (lo + 1) n]
theorem intsFrom_get : ∀ (n : Nat) (lo : Int) (i : Nat), (intsFrom lo n)[i]? = if i < n then some (.int (lo + i)) else none
  | 0, lo, i => by simp [intsFrom]
  | n + 1, lo, 0 => by simp [intsFrom]
  | n + 1, lo, i + 1 => by
    rw [intsFrom, List.getElem?_cons_succ, intsFrom_get n (lo + 1) i]
    by_cases h : i < n
    · have e : lo + 1 + (i : Int) = lo + ((i + 1 : Nat) : Int) := by omega
      simp [h, e]
    · simp [h]
theorem itd_range {K : PySem.W.Frag} {lo : Int} {n : Nat} {G : Gh} {H : Hp} : ItD K (Itr lo n) (intsFrom lo n) (fun _ => True) G H where
  go := fun i H1 G1 d wg x _ e => by
    rw [intsFrom_get] at e
    split at e
    · rename_i hi
      cases e
      refine ⟨hi, ?_⟩
      rintro y H' ⟨rfl, rfl⟩
      exact ⟨wg, Ext.refl, .int _⟩
    · cases e
  stop := fun i H1 G1 wg x _ hl => by
    rw [intsFrom_len] at hl
    exact Nat.le_of_eq hl
def wiRange1 (wr : DA) : DI := fun Y env G R => wr Y env G fun ds G1 => match ds with
  | [.int j] => (-(2 ^ 62) ≤ j ∧ j < 2 ^ 62) ∧ R (intsFrom 0 j.toNat) (fun _ => True) G1
  | _ => False
def wiRange2 (wr : DA) : DI := fun Y env G R => wr Y env G fun ds G1 => match ds with
  | [.int i, .int j] => (-(2 ^ 62) ≤ i ∧ i < 2 ^ 62 ∧ -(2 ^ 62) ≤ j ∧ j < 2 ^ 62) ∧ R (intsFrom i (j - i).toNat) (fun _ => True) G1
  | _ => False
theorem qi_range1 (hm : X.mg "range" = none) (ha : QA X W [e] wr) (hg : Gl X "range" := by rfl) (hs : starEach [e] X.env = [(false, eval e X.env)] := by rfl) : QI X W tg (.Call (.Name "range" p) [e] [] pos) (wiRange1 wr) :=
  ⟨PI.wk (pi_range1 hg hm ha.pa hs) fun σ H R ⟨Y, env, G, P, er, wg, h, k, kx⟩ => ⟨Y, env, G, _, er, wg, h, fun ds G1 vs H1 h1 w1 x1 r1 => by
    cases r1 with
    | nil => exact h1.elim
    | cons r t =>
      cases t with
      | cons => cases r <;> exact h1.elim
      | nil =>
        cases r <;> first | exact h1.elim | skip
        obtain ⟨⟨j1, j2⟩, h1⟩ := h1
        exact ⟨_, rfl, j1, j2, k _ _ _ _ _ h1 w1 x1 itd_range⟩, kx⟩⟩
theorem qi_range2 {e2 : Expr} (hm : X.mg "range" = none) (ha : QA X W [e, e2] wr) (hg : Gl X "range" := by rfl) (hs : starEach [e, e2] X.env = [(false, eval e X.env), (false, eval e2 X.env)] := by rfl) (hs2 : starEach [e2] X.env = [(false, eval e2 X.env)] := by rfl) :
    QI X W tg (.Call (.Name "range" p) [e, e2] [] pos) (wiRange2 wr) :=
  ⟨PI.wk (pi_range2 hg hm ha.pa hs hs2) fun σ H R ⟨Y, env, G, P, er, wg, h, k, kx⟩ => ⟨Y, env, G, _, er, wg, h, fun ds G1 vs H1 h1 w1 x1 r1 => by
    cases r1 with
    | nil => exact h1.elim
    | cons r t =>
      cases t with
      | nil => cases r <;> exact h1.elim
      | cons r2 t =>
        cases t with
        | cons => cases r <;> first | exact h1.elim | (cases r2 <;> exact h1.elim)
        | nil =>
          cases r <;> first | exact h1.elim | skip
          cases r2 <;> first | exact h1.elim | skip
          obtain ⟨j1, h1⟩ := h1
          exact ⟨_, _, rfl, j1, k _ _ _ _ _ h1 w1 x1 itd_range⟩, kx⟩⟩
end
end DL

namespace DL
open PySem PySem.Spec L2
open PyProof.Rows hiding St

/-! ### lists and tuples alike, as sources of a walk -/
def SqB (K : PySem.W.Frag) (H : Hp) (t : Bool) (a : Addr) (xs : List V) : Prop := if t = true then SqT K H a xs else SqL K H a xs
def ItB (h : Heap) (t : Bool) (it a : Addr) (i : Nat) : Prop := if t = true then h.IsTupleIter it a i else h.IsListIter it a i
def SrcB (h : Heap) (t : Bool) (a : Addr) (its : Array Value) : Prop := if t = true then h.IsTuple a its else h.IsList a its
def itObj (t : Bool) (a : Addr) : Obj := { cls := .type (if t = true then "tuple_iterator" else "list_iterator"), data := .fields #[.ref a, .int 0 0] }
theorem drawsB {prog : Program} {w : World} {A : Around} (hh : A.handled = none) (t : Bool) (it a : Addr) (hne : a ≠ it) (its : Array Value) :
    Draws prog w A it [it, a] its.size (fun i v => its[i]? = some v) (fun i h => ItB h t it a i ∧ SrcB h t a its) := by
  cases t with
  | true => exact Draws.tuple hh it a hne its
  | false => exact Draws.list hh it a hne its
theorem beginsB (t : Bool) (a : Addr) (its : Array Value) : Begins (.ref a) (itObj t a) fun h => SrcB h t a its := by
  cases t with
  | true => exact begins_tuple a its
  | false => exact begins_list a its
theorem ItB.start {h : Heap} {t : Bool} {it a : Addr} (e : h.get? it = some (itObj t a)) : ItB h t it a 0 := by
  cases t with
  | true => exact ⟨_, e, rfl, rfl⟩
  | false => exact ⟨_, e, rfl, rfl⟩
theorem ItB.obj {h : Heap} {t : Bool} {it a : Addr} {i : Nat} (x : ItB h t it a i) : ∃ o, h.get? it = some o ∧ ∀ v, o.data ≠ .cell v := by
  cases t with
  | true => obtain ⟨o, e, _, d⟩ := (show h.IsTupleIter it a i from x); exact ⟨o, e, fun v q => by rw [d] at q; cases q⟩
  | false => obtain ⟨o, e, _, d⟩ := (show h.IsListIter it a i from x); exact ⟨o, e, fun v q => by rw [d] at q; cases q⟩
theorem ItB.at {h h' : Heap} {t : Bool} {it a : Addr} {i : Nat} (x : ItB h t it a i) (k : ∀ o, h.get? it = some o → h'.get? it = some o) : ItB h' t it a i := by
  cases t with
  | true => exact Heap.IsTupleIter.at (show h.IsTupleIter it a i from x) k
  | false => exact Heap.IsListIter.at (show h.IsListIter it a i from x) k
section
variable {X : Cx} {pins : List (Addr × Obj)} {σ : L2.St} {H : Hp} {s : Shared}
theorem srcB (I : L2.Inv X pins σ H s) {t : Bool} {a : Addr} {xs : List V} (h : SqB X.K H t a xs) : ∃ its : List Value, Vals xs its ∧ SrcB s.heap t a its.toArray ∧ xs.length ≤ sizeLine ∧ a < s.heap.objs.size := by
  cases t with
  | true =>
    obtain ⟨its, r, p, z⟩ := I.tuple (show SqT X.K H a xs from h)
    obtain ⟨o, e, _⟩ := id p
    exact ⟨its, r, p, z, Heap.lt_size e⟩
  | false =>
    obtain ⟨its, r, p, z⟩ := I.list (show SqL X.K H a xs from h)
    exact ⟨its, r, p.isList, z, p.lt⟩
theorem SqB.inj (I : L2.Inv X pins σ H s) {t : Bool} {a : Addr} {xs ys : List V} (h : SqB X.K H t a xs) (h' : SqB X.K H t a ys) : xs = ys := by
  cases t with
  | true => exact I.tuple_inj h h'
  | false => exact I.list_inj h h'
/-- one turn of an iterator of new tuples -/
theorem wt_item {E : Value → Shared → Prop} {it : Addr} {fp wr : List Addr} {n : Nat} {Pt : Nat → Array Value → Prop} {St : Nat → Heap → Prop} {Mid : Nat → Addr → Heap → Prop} {i : Nat} {elts : List Expr} {k : Nat} {pos : Pos}
    (W : WalksT X.prog X.w X.A it fp wr n Pt St Mid) (I : L2.Inv X pins σ H s) (hw : ∀ b ∈ wr, FpOk X pins H b) (hi : i < n) (st : St i s.heap) {xs : List V} (hv : ∀ vals, Pt i vals → Vals xs vals.toList) (hz : xs.length ≤ sizeLine) :
    wpAny (model X.prog X.w) X.A (pyNext (.ref it)) (fun r s1 => ∃ u, r = some u ∧
      wpAny (model X.prog X.w) X.A (letOwnedTupleGo (.Tuple elts k pos) (.ref it) u) (fun _ s2 => ∃ T, L2.Inv X pins σ (upd H T (.tup xs)) s2 ∧ u = .ref T ∧ s.heap.objs.size ≤ T ∧ St (i + 1) s2.heap) E s1) E s := by
  refine W.item i s _ E hi st fun T vals h' tk hP hT tup mid hk => ⟨_, rfl, ?_⟩
  refine W.go elts k pos i T _ _ _ mid fun h'' st2 hk2 => ⟨T, ?_, rfl, hT, st2⟩
  have tup2 : h''.IsTuple T vals := tup.at fun o e => hk2 T o (W.apart i T h' mid) e
  refine I.turnedNew (t' := tk) (ch := wr) (fun b o hb e => hk2 b o hb (hk b o hb e)) hw hT ?_
  exact ⟨hz, vals.toList, hv vals hP, tup2⟩
theorem wt_done {E : Value → Shared → Prop} {it : Addr} {fp wr : List Addr} {n : Nat} {Pt : Nat → Array Value → Prop} {St : Nat → Heap → Prop} {Mid : Nat → Addr → Heap → Prop}
    (W : WalksT X.prog X.w X.A it fp wr n Pt St Mid) (I : L2.Inv X pins σ H s) (hw : ∀ b ∈ wr, FpOk X pins H b) (st : St n s.heap) :
    wpAny (model X.prog X.w) X.A (pyNext (.ref it)) (fun r s1 => r = none ∧ L2.Inv X pins σ H s1) E s :=
  W.done s _ E st fun h' tk hk => ⟨rfl, I.turnedL (t' := tk) (ch := wr) hk hw⟩
end

/-! ### zip of two -/
def Itz2 (K : PySem.W.Frag) (t1 t2 : Bool) (a b : Addr) : It :=
  ⟨fun i H => ∃ (xs ys : List V) (x y : V), SqB K H t1 a xs ∧ SqB K H t2 b ys ∧ xs[i]? = some x ∧ ys[i]? = some y,
    fun i H v H' => ∃ T x y, v = .ref T ∧ H T = none ∧ H' = upd H T (.tup [x, y]) ∧ (∀ xs, SqB K H t1 a xs → xs[i]? = some x) ∧ ∀ ys, SqB K H t2 b ys → ys[i]? = some y,
    fun i H => ∃ xs ys : List V, SqB K H t1 a xs ∧ SqB K H t2 b ys ∧ min xs.length ys.length = i⟩
theorem min_l {a b i : Nat} (h : min a b = i) : i ≤ a ∧ i ≤ b := ⟨h ▸ Nat.min_le_left _ _, h ▸ Nat.min_le_right _ _⟩
theorem turn_z2 {P : Program} {w : World} {K : PySem.W.Frag} {elts : List Expr} {kk : Nat} {tpos : Pos} {t1 t2 : Bool} {a b : Addr} {N : Nat} (la : a < N) (lb : b < N) :
    Turn P w K (.Tuple elts kk tpos) (Itz2 K t1 t2 a b) [N + 4, N + 2, N + 3, N, N + 1] (N + 4)
      (fun i h => IsZip h (N + 4) (N + 2) (N + 3) .none ∧ IsTupOf2 h (N + 2) (.ref N) (.ref (N + 1)) ∧ (∃ x y, IsTupOf2 h (N + 3) x y) ∧ ItB h t1 N a i ∧ ItB h t2 (N + 1) b i) where
  mem := by simp
  obj := fun i h st c hc => by
    obtain ⟨hz, hTI, ⟨x, y, hTO⟩, h1, h2⟩ := st
    have e' : c = N + 4 ∨ c = N + 2 ∨ c = N + 3 ∨ c = N ∨ c = N + 1 := by simpa using hc
    rcases e' with q | q | q | q | q
    · rw [q]; exact ⟨_, hz, fun v q => nomatch q⟩
    · rw [q]; exact ⟨_, hTI, fun v q => nomatch q⟩
    · rw [q]; exact ⟨_, hTO, fun v q => nomatch q⟩
    · rw [q]; exact h1.obj
    · rw [q]; exact h2.obj
  keep := fun i h h' st k => by
    obtain ⟨hz, hTI, ⟨x, y, hTO⟩, h1, h2⟩ := st
    exact ⟨k _ (by simp) _ hz, k _ (by simp) _ hTI, ⟨x, y, k _ (by simp) _ hTO⟩, h1.at fun o q => k N (by simp) o q, h2.at fun o q => k (N + 1) (by simp) o q⟩
  item := by
    intro X hP hw hK hc i pins s σ H E I hf st hg
    subst hP hw hK
    obtain ⟨hz, hTI, hTO, h1, h2⟩ := st
    obtain ⟨xs, ys, x, y, hqx, hqy, hx, hy⟩ := hg
    obtain ⟨its, rv, p, _, _⟩ := srcB I hqx
    obtain ⟨its2, rv2, p2, _, _⟩ := srcB I hqy
    obtain ⟨u, hu, ru⟩ := rv.get hx
    obtain ⟨u2, hu2, ru2⟩ := rv2.get hy
    have S : ZipSep2 (N + 4) (N + 2) (N + 3) N (N + 1) [N, a] [N + 1, b] := zip_sep2 (N := N) (fp1 := [a]) (fp2 := [b]) (by simpa using la) (by simpa using lb)
    have D1 := drawsB (prog := X.prog) (w := X.w) (A := X.A.in1) (I.ok.hd hc) t1 N a (Nat.ne_of_lt la) its.toArray
    have D2 := drawsB (prog := X.prog) (w := X.w) (A := X.A.in1) (I.ok.hd hc) t2 (N + 1) b (Nat.ne_of_lt (Nat.lt_succ_of_lt lb)) its2.toArray
    have l1 : i < its.toArray.size := (List.getElem?_eq_some_iff.mp hu).1
    have l2 : i < its2.toArray.size := (List.getElem?_eq_some_iff.mp hu2).1
    refine thn (wt_item (elts := elts) (k := kk) (pos := tpos) (xs := [x, y]) (WalksT.zipD2 S D1 D2) I (fun c hcm => hf c ?_) (Nat.lt_min.mpr ⟨l1, l2⟩) ⟨hz, hTI, hTO, ⟨h1, p⟩, ⟨h2, p2⟩⟩ (fun vals hv => ?_) (by show 2 ≤ sizeLine; decide)) ?_
    · have e' : c = N + 4 ∨ c = N + 3 ∨ c = N ∨ c = N + 1 := by simpa using hcm
      rcases e' with q | q | q | q <;> rw [q] <;> simp
    · obtain ⟨x1, x2, e1, e2, rfl⟩ := hv
      have q1 : x1 = u := by
        have z : its[i]? = some x1 := by simpa using e1
        rw [hu] at z; exact (Option.some.inj z).symm
      have q2 : x2 = u2 := by
        have z : its2[i]? = some x2 := by simpa using e2
        rw [hu2] at z; exact (Option.some.inj z).symm
      subst q1 q2
      exact .cons ru (.cons ru2 .nil)
    · rintro r s1 ⟨v, hr, hgo⟩
      refine ⟨v, hr, thn hgo ?_⟩
      rintro _ s2 ⟨T, I2, rfl, hT, st2⟩
      have nT : H T = none := I.hok.fresh hT
      refine ⟨.ref T, _, I2, rfl, ⟨T, x, y, rfl, nT, rfl, fun l hl => by rw [SqB.inj I hl hqx]; exact hx, fun l hl => by rw [SqB.inj I hl hqy]; exact hy⟩, ?_, fun c hcm => ?_⟩
      · obtain ⟨z1, z2, z3, z4, z5⟩ := st2
        exact ⟨z1, z2, z3, z4.1, z5.1⟩
      · have hlt : c < s.heap.objs.size := by
          have e' : c = N + 4 ∨ c = N + 2 ∨ c = N + 3 ∨ c = N ∨ c = N + 1 := by simpa using hcm
          obtain ⟨_, _, hTO⟩ := hTO
          rcases e' with q | q | q | q | q
          · rw [q]; exact Heap.lt_size hz
          · rw [q]; exact Heap.lt_size hTI
          · rw [q]; exact Heap.lt_size hTO
          · rw [q]; obtain ⟨_, e1, _⟩ := h1.obj; exact Heap.lt_size e1
          · rw [q]; obtain ⟨_, e2, _⟩ := h2.obj; exact Heap.lt_size e2
        rw [upd_ne (Nat.ne_of_lt (Nat.lt_of_lt_of_le hlt hT))]
        exact (hf c hcm).1
  done := by
    intro X hP hw hK hc i pins s σ H E I hf st hg
    subst hP hw hK
    obtain ⟨hz, hTI, hTO, h1, h2⟩ := st
    obtain ⟨xs, ys, hqx, hqy, hend⟩ := hg
    obtain ⟨its, rv, p, _, _⟩ := srcB I hqx
    obtain ⟨its2, rv2, p2, _, _⟩ := srcB I hqy
    have S : ZipSep2 (N + 4) (N + 2) (N + 3) N (N + 1) [N, a] [N + 1, b] := zip_sep2 (N := N) (fp1 := [a]) (fp2 := [b]) (by simpa using la) (by simpa using lb)
    have D1 := drawsB (prog := X.prog) (w := X.w) (A := X.A.in1) (I.ok.hd hc) t1 N a (Nat.ne_of_lt la) its.toArray
    have D2 := drawsB (prog := X.prog) (w := X.w) (A := X.A.in1) (I.ok.hd hc) t2 (N + 1) b (Nat.ne_of_lt (Nat.lt_succ_of_lt lb)) its2.toArray
    have e : i = min its.toArray.size its2.toArray.size := by rw [← hend, List.size_toArray, List.size_toArray, rv.length, rv2.length]
    subst e
    refine wt_done (WalksT.zipD2 S D1 D2) I (fun c hcm => hf c ?_) ⟨hz, hTI, hTO, ⟨h1, p⟩, ⟨h2, p2⟩⟩
    have e' : c = N + 4 ∨ c = N + 3 ∨ c = N ∨ c = N + 1 := by simpa using hcm
    rcases e' with q | q | q | q <;> rw [q] <;> simp
  self := fun A i s Q E st h => wpAny_pyIter_zip st.1 h

/-- a source: a tuple, a list -/
def srcD (d : DV) (G : Gh) (Q : List DV → (Gh → Prop) → Prop) : Prop := match d with
  | .tup l => Q l fun _ => True
  | .ro l => Q l fun _ => True
  | .ref a => ∃ l, G a = some (.lst l) ∧ Q l fun G => G a = some (.lst l)
  | _ => False
/-- .. stands there -/
structure SrcOk (K : PySem.W.Frag) (t : Bool) (a : Addr) (l : List DV) (stay : Gh → Prop) (G0 : Gh) (H0 : Hp) : Prop where
  all : ∀ G H, WG K G H → Ext G0 H0 G H → stay G → ∃ xs, SqB K H t a xs ∧ VRs K H xs l
theorem srcD.ok {K : PySem.W.Frag} {H : Hp} {G : Gh} {d : DV} {v : V} {Q : List DV → (Gh → Prop) → Prop} (wg : WG K G H) (r : VR K H v d) (h : srcD d G Q) : ∃ t a l stay, v = .ref a ∧ Q l stay ∧ stay G ∧ SrcOk K t a l stay G H := by
  cases r <;> first | exact h.elim | skip
  · rename_i a
    obtain ⟨l, ga, q⟩ := h
    exact ⟨false, a, l, _, rfl, q, ga, ⟨fun G' H' w' x' e' => by
      obtain ⟨xs, ha, rs⟩ := w' _ _ e'
      exact ⟨xs, SqL.of ha, rs⟩⟩⟩
  · rename_i a xs l sq rs
    exact ⟨true, a, l, _, rfl, h, trivial, ⟨fun G' H' w' x' e' => ⟨xs, sqT_ext sq wg x', rs.ext wg x'⟩⟩⟩
  · rename_i a xs l sq rs
    exact ⟨false, a, l, _, rfl, h, trivial, ⟨fun G' H' w' x' e' => ⟨xs, (sq.ext wg x').sq, rs.ext wg x'⟩⟩⟩
def zip2L : List DV → List DV → List DV
  | a :: r, b :: s => .tup [a, b] :: zip2L r s
  | _, _ => []
theorem zip2L_len : ∀ l m : List DV, (zip2L l m).length = min l.length m.length
  | [], m => by simp [zip2L]
  | a :: r, [] => by simp [zip2L]
  | a :: r, b :: s => by simp [zip2L, zip2L_len r s]
theorem zip2L_get : ∀ (l m : List DV) (i : Nat) (d : DV), (zip2L l m)[i]? = some d → ∃ x y, d = .tup [x, y] ∧ l[i]? = some x ∧ m[i]? = some y
  | [], m, i, d, h => by simp [zip2L] at h
  | a :: r, [], i, d, h => by simp [zip2L] at h
  | a :: r, b :: s, 0, d, h => by simp [zip2L] at h; exact ⟨a, b, h.symm, rfl, rfl⟩
  | a :: r, b :: s, i + 1, d, h => by
    obtain ⟨x, y, e, e1, e2⟩ := zip2L_get r s i d (by simpa [zip2L] using h)
    exact ⟨x, y, e, by simpa using e1, by simpa using e2⟩
theorem itd_z2 {K : PySem.W.Frag} {t1 t2 : Bool} {a b : Addr} {l m : List DV} {s1 s2 : Gh → Prop} {G : Gh} {H : Hp} (o1 : SrcOk K t1 a l s1 G H) (o2 : SrcOk K t2 b m s2 G H) : ItD K (Itz2 K t1 t2 a b) (zip2L l m) (fun G => s1 G ∧ s2 G) G H where
  go := fun i H1 G1 d wg x st e => by
    obtain ⟨dx, dy, rfl, ex, ey⟩ := zip2L_get l m i d e
    obtain ⟨xs, qx, rx⟩ := o1.all _ _ wg x st.1
    obtain ⟨ys, qy, ry⟩ := o2.all _ _ wg x st.2
    obtain ⟨v, ev, rv⟩ := rx.get ex
    obtain ⟨u, eu, ru⟩ := ry.get ey
    refine ⟨⟨xs, ys, v, u, qx, qy, ev, eu⟩, ?_⟩
    rintro z H' ⟨T, x', y', rfl, nT, rfl, f1, f2⟩
    have q1 := f1 xs qx
    rw [ev] at q1; cases q1
    have q2 := f2 ys qy
    rw [eu] at q2; cases q2
    exact ⟨wg.new nT, Ext.new nT, VR.newT wg nT (.cons rv (.cons ru .nil))⟩
  stop := fun i H1 G1 wg x st hl => by
    obtain ⟨xs, qx, rx⟩ := o1.all _ _ wg x st.1
    obtain ⟨ys, qy, ry⟩ := o2.all _ _ wg x st.2
    exact ⟨xs, ys, qx, qy, by rw [rx.len, ry.len, ← zip2L_len]; exact hl⟩
def wiZip2 (wr : DA) : DI := fun Y env G R => wr Y env G fun ds G1 => match ds with
  | [x, y] => srcD x G1 fun l s1 => srcD y G1 fun m s2 => R (zip2L l m) (fun G => s1 G ∧ s2 G) G1
  | _ => False
section
variable {X : Cx} {W : WX} {e e2 : Expr} {wr : DA} {pos p tpos : Pos} {elts : List Expr} {kk : Nat}
theorem qi_zip2 (hm : X.mg "zip" = none) (ha : QA X W [e, e2] wr) (hg : Gl X "zip" := by rfl) (hs : starEach [e, e2] X.env = (false, eval e X.env) :: starEach [e2] X.env := by rfl) (hpl : (backTo pos (starEach [e2] X.env)).any (·.1) = false := by rfl) :
    QI X W (.Tuple elts kk tpos) (.Call (.Name "zip" p) [e, e2] [] pos) (wiZip2 wr) := by
  refine ⟨⟨?_⟩⟩
  rintro pins s σ H R I ⟨Y, env, G, P, er, wg, hw, k, kx⟩
  refine Call_ (ld_blt I hg hm PyProof.Rows.boot_zip (PyProof.Rows.callWith_type1 (thn (ha.pa.run pos pins s σ H (fun vs H1 => ∃ ds G1, VRs X.K H1 vs ds ∧ WG X.K G1 H1 ∧ Ext G H G1 H1 ∧ (match ds with
    | [x, y] => srcD x G1 fun l s1 => srcD y G1 fun m s2 => P (zip2L l m) (fun G => s1 G ∧ s2 G) G1
    | _ => False)) I ⟨Y, env, G, _, er, wg, hw, fun ds G1 vs H1 h1 w1 x1 r1 => ⟨ds, G1, r1, w1, x1, h1⟩, kx⟩) fun us s1 ⟨vs, H1, I1, r1, ds, G1, rs, w1, x1, h1⟩ => ?_) hs hpl))
  match ds, rs, h1 with
  | [dx, dy], .cons rx (.cons ry .nil), h1 =>
    obtain ⟨t1, a, l, st1, rfl, h2, sg1, ok1⟩ := srcD.ok w1 rx h1
    obtain ⟨t2, b, m, st2, rfl, h3, sg2, ok2⟩ := srcD.ok w1 ry h2
    cases r1 with
    | cons ra rr =>
      cases rr with
      | cons rb rr =>
        cases rr
        cases ra
        cases rb
        obtain ⟨xs, qx, _⟩ := ok1.all _ _ w1 Ext.refl sg1
        obtain ⟨ys, qy, _⟩ := ok2.all _ _ w1 Ext.refl sg2
        obtain ⟨its, _, p1, _, la⟩ := srcB I1 qx
        obtain ⟨its2, _, p2, _, lb⟩ := srcB I1 qy
        refine zip_begins2 (beginsB t1 a its.toArray) (beginsB t2 b its2.toArray) p1 p2 fun h' hz hTI hTO h1 h2 hsz hk => wpAny_pyIter_zip hz ?_
        have I2 : L2.Inv X pins σ H1 { s1 with heap := h' } := I1.kept (t' := s1.toks) hk
        refine ⟨s1.heap.objs.size + 4, _, _, _, H1, rfl, I2, turn_z2 (t1 := t1) (t2 := t2) la lb, ⟨hz, hTI, ⟨_, _, hTO⟩, ItB.start h1, ItB.start h2⟩, fun c hcm => ?_, k _ _ _ _ _ h3 w1 x1 (itd_z2 ok1 ok2)⟩
        have e' : c = s1.heap.objs.size + 4 ∨ c = s1.heap.objs.size + 2 ∨ c = s1.heap.objs.size + 3 ∨ c = s1.heap.objs.size ∨ c = s1.heap.objs.size + 1 := by simpa using hcm
        have hle : s1.heap.objs.size ≤ c := by
          rcases e' with z | z | z | z | z <;> (rw [z]; first | exact Nat.le_refl _ | exact Nat.le_add_right _ _)
        exact I1.fpOk hle (I1.hok.fresh hle)
end
end DL

namespace DL
open PySem PySem.Spec L2
open PyProof.Rows hiding St

/-! ### what the printed derivations use -/
section
variable {X : Cx} {W : WX} {e : Expr} {es : List Expr} {wr : DA} {pos p spos : Pos}
/-- y = [..] on one line, y a plain local -/
theorem qs_setLc (i : Nat) {y : Str} {py : Pos} {elt tg iter : Expr} {ifs : List Expr} {scope : Scope} (own : List (Str × Nat)) {wi : DI} {t : TG} {g : DG} {tt : DT} {te : DE} (hc : X.calm = true) (hN : X.N.Nodup) (hi : QI X W tg iter wi) (ok : blkC X.N X.env.scope scope own = true)
    (hg : ∀ (s : Shared) (H : Hp) (C : Addr) (cl : List (Str × Addr)) (fp : List Addr), PG (X.blk s H scope (compEnvC scope cl C X.env) fp) tg t) (go : GOk X.K (own.map (·.2)) t g)
    (ht : ∀ (s : Shared) (H : Hp) (C : Addr) (cl : List (Str × Addr)) (fp : List Addr), QTs (X.blk s H scope (compEnvC scope cl C X.env) fp) W0 ifs tt)
    (he : ∀ (s : Shared) (H : Hp) (C : Addr) (cl : List (Str × Addr)) (fp : List Addr), QE (X.blk s H scope (compEnvC scope cl C X.env) fp) W0 elt te) (hs : ∀ x, foldedSetIterable iter X.env x = pure x := by intro _; rfl)
    (hy : X.N[i]? = some y := by rfl) (hyl : X.env.scope.names.lookup y = some .local := by rfl) (hk : X.env.scope.kind = .function := by rfl) (hl : (py.line == pos.line) = true := by rfl)
    (ha : (scope.names.any fun (n, k) => n == y && (k == .local || k == .cell)) = false := by rfl) :
    QS X W (.Assign [.Name y py] (.ListComp elt [⟨tg, iter, ifs, 0⟩] scope pos) spos) (wSet i (wLc (own.map (·.2)) wi g tt te)) :=
  ⟨PS.wk (ps_setLc (i := i) hc hN hy hyl (sw_true hk hyl hl ha) hi.pi (blkOk_by ok) hg (fun a b c d f => (ht a b c d f).pts) (fun a b c d f => (he a b c d f).pe) hs) fun D σ H ⟨env, G, De, er, wg, h, le⟩ =>
    lc_parts go ⟨_, env, G, _, er, wg, h, fun d G' v H' p w' x' r => le.nx _ _ _ _ p ((er.ext wg x').set r i) w' x', le.xle wg er⟩⟩
/-- a def that may be called by its name -/
structure Has (P : Program) (w : World) (K : PySem.W.Frag) (mg : Str → Option Value) (base : Heap) (k : Nat) (x : Str) (ps : List Str) (d : DF) : Prop where
  ex : ∃ (f : Addr) (fd : FuncData), FG P w K mg base k f fd ps d ∧ mg x = some (.ref f) ∧ PySem.W.keepIn K (.ref f) = true ∧ Binds K fd ps []
theorem q_callH {x : Str} {ps : List Str} {d : DF} {j k : Nat} (F : Has X.prog X.w X.K X.mg X.base k x ps d) (hgd : X.A.guards = some []) (hr : Room j X.A) (tk : Takes X W) (ha : QA X W (e :: es) wr) (hjk : k ≤ j := by decide)
    (hg : Gl X x := by rfl) (hdb : (x == ("__debug__" : Str)) = false := by decide) (he : starEach (e :: es) X.env = (false, eval e X.env) :: starEach es X.env := by rfl) (hpl : (backTo pos (starEach es X.env)).any (·.1) = false := by rfl) :
    QE X W (.Call (.Name x p) (e :: es) [] pos) (wCall d wr) := by
  obtain ⟨f, fd, F, m, kp, b⟩ := F.ex
  exact q_call F hgd (hr.mono hjk) m kp b tk ha hg hdb he hpl
theorem q_callH0 {x : Str} {ps : List Str} {d : DF} {j k : Nat} (F : Has X.prog X.w X.K X.mg X.base k x ps d) (hgd : X.A.guards = some []) (hr : Room j X.A) (tk : Takes X W) (hjk : k ≤ j := by decide)
    (hg : Gl X x := by rfl) (hdb : (x == ("__debug__" : Str)) = false := by decide) : QE X W (.Call (.Name x p) [] [] pos) (wCall d wNil) := by
  obtain ⟨f, fd, F, m, kp, b⟩ := F.ex
  exact q_call0 F hgd (hr.mono hjk) m kp b tk hg hdb
/-- a def at its place in the module -/
structure DefAt (K : PySem.W.Frag) (mg : Str → Option Value) (x : Str) (st : Stmt) (ps : List Str) : Prop where
  ex : ∃ (f : Addr) (fd : FuncData), L2.Fun K x x st f fd ∧ Binds K fd ps [] ∧ mg x = some (.ref f)
theorem DefAt.has {P : Program} {w : World} {K : PySem.W.Frag} {mg : Str → Option Value} {base : Heap} {k : Nat} {x : Str} {st : Stmt} {ps : List Str} {d : DF} (D : DefAt K mg x st ps) (h : ∀ f fd, L2.Fun K x x st f fd → FG P w K mg base k f fd ps d) : Has P w K mg base k x ps d := by
  obtain ⟨f, fd, F, b, m⟩ := D.ex
  exact ⟨f, fd, h f fd F, m, F.kp, b⟩
theorem qg_sub' {o i : Expr} {wo wi : DE} {r : D3} (ho : QE X W o wo) (hi : QE X W i wi) (hs : SetD X r) (ha : ∀ v, assign (.Subscript o i pos) X.env v = (do
      let ov ← holding [v] (eval o X.env)
      let iv ← holding [v, ov] (eval i X.env)
      standAt pos
      holding [v, ov, iv] (setItem ov iv v)
      release [v, ov, iv] []) := by intro _; rfl) : QG X (.Subscript o i pos) (gSub (TEl X.K W wo) (TEl X.K W wi) (lift3 X.K r)) (wgSub wo wi r) :=
  qg_sub ho hi hs (pg_sub ho.pe hi.pe hs ha)
/-- how many a target takes -/
def LenG (n : Nat) (gs : DGs) : Prop := ∀ ds env G P, gs ds env G P → ds.length = n
def LiveG (g : DG) : Prop := ∀ d env G (P : Dv → Gh → Prop), g d env G P → ∃ e g', P e g'
theorem lenG_nil : LenG 0 wgNil := fun ds env G P h => by cases ds with | nil => rfl | cons => exact h.elim
theorem lenG_cons {n : Nat} {g : DG} {gs : DGs} (l : LiveG g) (h2 : LenG n gs) : LenG (n + 1) (wgCons g gs) := fun ds env G P h => by
  cases ds with
  | nil => exact h.elim
  | cons d ds => obtain ⟨e, g', q⟩ := l _ _ _ _ h; simp [h2 _ _ _ _ q]
theorem liveG_name {i : Nat} : LiveG (wgName i) := fun _ _ _ _ h => ⟨_, _, h⟩
theorem qg_tupN {tgs : List Expr} {k : Nat} {ts : TGs} {gs : DGs} {n : Nat} (hc : X.calm = true) (h : QGs X tgs ts gs) (hl : LenG n gs) (hn : (assignEach tgs X.env).length = n := by rfl) (hst : (assignEach tgs X.env).findIdx? (·.1) = none := by rfl) :
    QG X (.Tuple tgs k pos) (gTup X.K n ts) (wgTup gs) := qg_tup hc h hl (pg_tup hc h.pg hn hst)
end
theorem room_u {k : Nat} {A : Around} (hr : Room k A) : A.units + 64 < cLine := hr.units
/-- built-in names stand for themselves -/
def BI (mg : Str → Option Value) (l : List String) : Prop := ∀ x ∈ l, mg (Str.ofString x) = none
theorem BI.at {mg : Str → Option Value} {l : List String} (h : BI mg l) (x : String) (hx : l.contains x = true := by decide) : mg (Str.ofString x) = none := h x (by simpa using hx)
end DL

namespace DL
open PySem PySem.Spec L2
open PyProof.Rows hiding St

/-! ### the readings, step by step -/
section
variable {Y : DX} {D : DEnds} {env env' : Dv} {G : Gh} {Q : DV → Gh → Prop} {T : Bool → Gh → Prop} {R : List DV → Gh → Prop} {wa wb wc : DE} {ta tb : DT} {wr : DA} {t u w : DS} {i : Nat} {d x y : DV}
def stSet (D : DEnds) (env : Dv) (i : Nat) (d : DV) (G : Gh) : Prop := D.nx (env.set i (some d)) G
theorem s_st (h : env.set i (some d) = env') (q : D.nx env' G) : stSet D env i d G := by subst h; exact q
theorem s_next (q : D.nx env G) : wNext D env G := q
theorem s_seq (q : t { D with nx := u D } env G) : wSeq t u D env G := q
theorem s_seqS (q : wSet i wa { D with nx := u D } env G) : wSeq (wSet i wa) u D env G := q
theorem s_seqA {g : DG} (q : wAsg wa g { D with nx := u D } env G) : wSeq (wAsg wa g) u D env G := q
theorem s_seqE (q : wExpr wa { D with nx := u D } env G) : wSeq (wExpr wa) u D env G := q
theorem s_join (J : Dv → Gh → Prop) (h1 : ∀ K : Dv → Gh → Prop, (∀ e g, J e g → K e g) → t { D with nx := K } env G) (h2 : ∀ e g, J e g → u D e g) : wSeq t u D env G := h1 (u D) h2
theorem s_set (q : wa (fun C fs G' => D.ex C fs env G') env G fun d G1 => stSet D env i d G1) : wSet i wa D env G := q
theorem s_ret (q : wa (fun C fs G' => D.ex C fs env G') env G D.rt) : wRet wa D env G := q
theorem s_retN (q : D.rt .non G) : wRetN D env G := q
theorem s_expr (q : wa (fun C fs G' => D.ex C fs env G') env G fun _ G1 => D.nx env G1) : wExpr wa D env G := q
theorem s_if (q : ta (fun C fs G' => D.ex C fs env G') env G fun b G1 => if b = true then t D env G1 else u D env G1) : wIfS ta t u D env G := q
theorem s_break (q : D.bk env G) : wBreak D env G := q
theorem s_cont (q : D.ct env G) : wCont D env G := q
theorem s_for {wi : DI} {g : DG} (q : wi (fun C fs G' => D.ex C fs env G') env G fun items stay G1 => forL stay g w D items env G1) : wFor wi g w D env G := q
theorem s_asg {g : DG} (q : wa (fun C fs G' => D.ex C fs env G') env G fun d G1 => g d env G1 D.nx) : wAsg wa g D env G := q
variable {K : Dv → Gh → Prop}
def gSet (env : Dv) (i : Nat) (d : DV) (G : Gh) (K : Dv → Gh → Prop) : Prop := K (env.set i (some d)) G
theorem s_gs (h : env.set i (some d) = env') (q : K env' G) : gSet env i d G K := by subst h; exact q
theorem s_gName (q : gSet env i d G K) : wgName i d env G K := q
theorem s_gNil (q : K env G) : wgNil [] env G K := q
theorem s_gCons {g : DG} {gs : DGs} {l : List DV} (q : g d env G fun env1 G1 => gs l env1 G1 K) : wgCons g gs (d :: l) env G K := q
theorem s_gTup {gs : DGs} {l : List DV} (q : gs l env G K) : wgTup gs (.tup l) env G K := q
theorem s_gSub {r : D3} (q : wa (fun _ _ _ => False) env G fun o G1 => wb (fun _ _ _ => False) env G1 fun i G2 => r o i d G2 fun G3 => K env G3) : wgSub wa wb r d env G K := q
theorem s_var (h : env[i]? = some (some d)) (q : Q d G) : wVar i Y env G Q := by unfold wVar; rw [h]; exact q
theorem s_c (q : Q d G) : wC d Y env G Q := q
theorem s_op {r : D2} (q : wa Y env G fun x G1 => wb Y env G1 fun y G2 => r x y G2 Q) : wOp r wa wb Y env G Q := q
def tBl (d : DV) (G : Gh) (T : Bool → Gh → Prop) : Prop := match d with | .bl b => T b G | _ => False
theorem s_bl {b : Bool} (q : T b G) : tBl (.bl b) G T := q
theorem s_tst (q : wa Y env G fun d G' => tBl d G' T) : wTst wa Y env G T := q
def chn (r' : D2) (wc : DE) (Y : DX) (env : Dv) (y z : DV) (G3 : Gh) (Q : DV → Gh → Prop) : Prop := match z with
  | .bl true => wc Y env G3 fun u G4 => r' y u G4 Q
  | .bl false => Q (.bl false) G3
  | _ => False
theorem s_chn {r' : D2} {b : Bool} (q : if b = true then wc Y env G (fun u G4 => r' y u G4 Q) else Q (.bl false) G) : chn r' wc Y env y (.bl b) G Q := by
  cases b <;> exact q
theorem s_chain {r r' : D2} (q : wa Y env G fun x G1 => wb Y env G1 fun y G2 => r x y G2 fun z G3 => chn r' wc Y env y z G3 Q) : wChain r r' wa wb wc Y env G Q := q
theorem s_andT (q : ta Y env G fun c G1 => if c = true then tb Y env G1 T else T false G1) : wAndT ta tb Y env G T := q
theorem s_orT (q : ta Y env G fun c G1 => if c = true then T true G1 else tb Y env G1 T) : wOrT ta tb Y env G T := q
theorem s_notT (q : ta Y env G fun c G1 => T (!c) G1) : wNotT ta Y env G T := q
def andK (wb : DE) (Y : DX) (env : Dv) (Q : DV → Gh → Prop) (x : DV) (G1 : Gh) : Prop := match x with | .bl true => wb Y env G1 Q | .bl false => Q (.bl false) G1 | _ => False
def orK (wb : DE) (Y : DX) (env : Dv) (Q : DV → Gh → Prop) (x : DV) (G1 : Gh) : Prop := match x with | .bl false => wb Y env G1 Q | .bl true => Q (.bl true) G1 | _ => False
def notK (Q : DV → Gh → Prop) (x : DV) (G1 : Gh) : Prop := match x with | .bl b => Q (.bl (!b)) G1 | _ => False
theorem s_and (q : wa Y env G (andK wb Y env Q)) : wAnd wa wb Y env G Q := q
theorem s_or (q : wa Y env G (orK wb Y env Q)) : wOr wa wb Y env G Q := q
theorem s_not (q : wa Y env G (notK Q)) : wNot wa Y env G Q := q
theorem s_andK {b : Bool} (q : if b = true then wb Y env G Q else Q (.bl false) G) : andK wb Y env Q (.bl b) G := by cases b <;> exact q
theorem s_orK {b : Bool} (q : if b = true then Q (.bl true) G else wb Y env G Q) : orK wb Y env Q (.bl b) G := by cases b <;> exact q
theorem s_notK {b : Bool} (q : Q (.bl (!b)) G) : notK Q (.bl b) G := q
theorem s_ifE (q : ta Y env G fun c G1 => if c = true then wa Y env G1 Q else wb Y env G1 Q) : wIf ta wa wb Y env G Q := q
theorem s_nil (q : R [] G) : wNil Y env G R := q
theorem s_cons (q : wa Y env G fun d G1 => wr Y env G1 fun ds G2 => R (d :: ds) G2) : wCons wa wr Y env G R := q
def mkTup (l : List DV) (G : Gh) (Q : DV → Gh → Prop) : Prop := l.length ≤ sizeLine ∧ Q (.tup l) G
def mkLst (l : List DV) (G : Gh) (Q : DV → Gh → Prop) : Prop := l.length ≤ sizeLine ∧ ∀ p, G p = none → Q (.ref p) (gup G p (.lst l))
theorem s_tup (q : wr Y env G fun l G1 => mkTup l G1 Q) : wTup wr Y env G Q := q
theorem s_lst (q : wr Y env G fun l G1 => mkLst l G1 Q) : wLst wr Y env G Q := q
theorem s_mkT {l : List DV} (h : l.length ≤ sizeLine) (q : Q (.tup l) G) : mkTup l G Q := ⟨h, q⟩
theorem s_mkL {l : List DV} (h : l.length ≤ sizeLine) (q : ∀ p, G p = none → Q (.ref p) (gup G p (.lst l))) : mkLst l G Q := ⟨h, q⟩
theorem s_cb {r : DC} (q : wr Y env G fun ds G1 => r ds G1 Q) : wCB r wr Y env G Q := q
theorem s_call {d : DF} (q : wr Y env G fun ds G1 => d ds G1 Q Y) : wCall d wr Y env G Q := q
def negK (Q : DV → Gh → Prop) (x : DV) (G1 : Gh) : Prop := match x with | .int i => Q (.int (-i)) G1 | _ => False
theorem s_neg (q : wa Y env G (negK Q)) : wNeg wa Y env G Q := q
theorem s_negK {j : Int} (q : Q (.int (-j)) G) : negK Q (.int j) G := q
variable {wl wh : DO} {O : Option Int → Gh → Prop}
theorem s_sl {r : DSl} (q : wa Y env G fun x G1 => wl Y env G1 fun l G2 => wh Y env G2 fun u G3 => r x l u G3 Q) : wSl r wa wl wh Y env G Q := q
theorem s_noPart (q : O none G) : wNoPart Y env G O := q
def partK (O : Option Int → Gh → Prop) (d : DV) (G1 : Gh) : Prop := match d with | .int i => O (some i) G1 | _ => False
theorem s_part (q : wa Y env G (partK O)) : wPart wa Y env G O := q
theorem s_partK {j : Int} (q : O (some j) G) : partK O (.int j) G := q
theorem s_bm {S : String} {r : DM} (q : wa Y env G fun x G1 => tyD S x G1 ∧ wr Y env G1 fun xs G2 => r x xs G2 Q) : wBM S r wa wr Y env G Q := q
theorem s_bm0 {S : String} {r : DM} (q : wa Y env G fun x G1 => tyD S x G1 ∧ r x [] G1 Q) : wBM0 S r wa Y env G Q := q
theorem s_tyL {a : Addr} {l : List DV} {p : Prop} (h : G a = some (.lst l)) (q : p) : tyD "list" (.ref a) G ∧ p := ⟨⟨rfl, l, h⟩, q⟩
theorem s_tyS {z : Str} {p : Prop} (q : p) : tyD "str" (.str z) G ∧ p := ⟨rfl, q⟩
theorem s_lc {vs : List Nat} {wi : DI} {g : DG} (q : wi Y env G fun items stay G1 => lcL stay g ta wa (wipeD env vs) Q items [] G1) : wLc vs wi g ta wa Y env G Q := q
theorem s_yes (q : T true G) : wYes Y env G T := q

/-! operations -/
variable {a b : Int} {p q' : Str} {l m : List DV}
theorem s_add (q : Q (.int (a + b)) G) : dAdd (.int a) (.int b) G Q := q
theorem s_addS (h : p.length + q'.length ≤ sizeLine) (q : Q (.str (p ++ q')) G) : dAdd (.str p) (.str q') G Q := ⟨h, q⟩
theorem s_addT (h : l.length + m.length ≤ sizeLine) (q : Q (.tup (l ++ m)) G) : dAdd (.tup l) (.tup m) G Q := ⟨h, q⟩
theorem s_addL {e f : Addr} (he : G e = some (.lst l)) (hf : G f = some (.lst m)) (h : l.length + m.length ≤ sizeLine) (q : ∀ p, G p = none → Q (.ref p) (gup G p (.lst (l ++ m)))) : dAdd (.ref e) (.ref f) G Q := ⟨l, m, he, hf, h, q⟩
theorem s_sub (q : Q (.int (a - b)) G) : dSub (.int a) (.int b) G Q := q
theorem s_mul (h : MulOk a b) (q : Q (.int (a * b)) G) : dMul (.int a) (.int b) G Q := ⟨h, q⟩
theorem s_fdiv (h : 0 < b) (h2 : b.natAbs.log2 < 9000) (q : Q (.int (a / b)) G) : dFdiv (.int a) (.int b) G Q := ⟨⟨h, h2⟩, q⟩
theorem s_mod (h : 0 < b) (q : Q (.int (a % b)) G) : dMod (.int a) (.int b) G Q := ⟨h, q⟩
theorem s_pow (h : 0 ≤ b ∧ b ≤ 1000000 ∧ a.natAbs < 2 ^ 64) (q : Q (.int (a ^ b.toNat)) G) : dPow (.int a) (.int b) G Q := ⟨h, q⟩
theorem s_lt (q : Q (.bl (decide (a < b))) G) : dLt (.int a) (.int b) G Q := q
theorem s_le (q : Q (.bl (decide (a ≤ b))) G) : dLe (.int a) (.int b) G Q := q
theorem s_gt (q : Q (.bl (decide (b < a))) G) : dGt (.int a) (.int b) G Q := q
theorem s_ge (q : Q (.bl (decide (b ≤ a))) G) : dGe (.int a) (.int b) G Q := q
theorem s_eqI (q : Q (.bl (decide (a = b))) G) : dEq false (.int a) (.int b) G Q := by show Q (.bl (false ^^ _)) G; rw [Bool.false_xor]; exact q
theorem s_eqS (q : Q (.bl (decide (p = q'))) G) : dEq false (.str p) (.str q') G Q := by show Q (.bl (false ^^ _)) G; rw [Bool.false_xor]; exact q
theorem s_eqB {a b : Bool} (q : Q (.bl (decide (a = b))) G) : dEq false (.bl a) (.bl b) G Q := by show Q (.bl (false ^^ _)) G; rw [Bool.false_xor]; exact q
theorem s_neI (q : Q (.bl (!decide (a = b))) G) : dEq true (.int a) (.int b) G Q := by show Q (.bl (true ^^ _)) G; rw [Bool.true_xor]; exact q
theorem s_neS (q : Q (.bl (!decide (p = q'))) G) : dEq true (.str p) (.str q') G Q := by show Q (.bl (true ^^ _)) G; rw [Bool.true_xor]; exact q
theorem s_neB {a b : Bool} (q : Q (.bl (!decide (a = b))) G) : dEq true (.bl a) (.bl b) G Q := by show Q (.bl (true ^^ _)) G; rw [Bool.true_xor]; exact q
theorem s_is (q : Q (.bl d.isNon) G) : dIsN false d .non G Q := by show Q (.bl (false ^^ _)) G; rw [Bool.false_xor]; exact q
theorem s_isnt (q : Q (.bl (!d.isNon)) G) : dIsN true d .non G Q := by show Q (.bl (true ^^ _)) G; rw [Bool.true_xor]; exact q
theorem s_inT (h : d.flat = true) (h2 : l.all DV.flat = true) (q : Q (.bl (l.any fun e => e.same d)) G) : dIn false d (.tup l) G Q := ⟨h, h2, by rw [Bool.false_xor]; exact q⟩
theorem s_ninT (h : d.flat = true) (h2 : l.all DV.flat = true) (q : Q (.bl (!l.any fun e => e.same d)) G) : dIn true d (.tup l) G Q := ⟨h, h2, by rw [Bool.true_xor]; exact q⟩
theorem s_inL {e : Addr} (he : G e = some (.lst l)) (h : d.flat = true) (h2 : l.all DV.flat = true) (q : Q (.bl (l.any fun e => e.same d)) G) : dIn false d (.ref e) G Q := ⟨l, he, h, h2, by rw [Bool.false_xor]; exact q⟩
theorem s_ninL {e : Addr} (he : G e = some (.lst l)) (h : d.flat = true) (h2 : l.all DV.flat = true) (q : Q (.bl (!l.any fun e => e.same d)) G) : dIn true d (.ref e) G Q := ⟨l, he, h, h2, by rw [Bool.true_xor]; exact q⟩
theorem s_ixT (h : atI l a = some d) (q : Q d G) : dIx (.tup l) (.int a) G Q := ⟨d, h, q⟩
theorem s_ixR (h : atI l a = some d) (q : Q d G) : dIx (.ro l) (.int a) G Q := ⟨d, h, q⟩
theorem s_ixL {e : Addr} (he : G e = some (.lst l)) (h : atI l a = some d) (q : Q d G) : dIx (.ref e) (.int a) G Q := ⟨l, d, he, h, q⟩
theorem s_setL {e : Addr} {n : Int} {j : Nat} {U : Gh → Prop} (he : G e = some (.lst l)) (h : ixN l.length n = some j) (q : U (gup G e (.lst (l.set j d)))) : dSet (.ref e) (.int n) d G U := ⟨l, j, he, h, q⟩
theorem s_slT {lo hi : Option Int} (q : Q (.tup (cutL l lo hi)) G) : dSl (.tup l) lo hi G Q := q
theorem s_slR {lo hi : Option Int} (q : ∀ p, G p = none → Q (.ref p) (gup G p (.lst (cutL l lo hi)))) : dSl (.ro l) lo hi G Q := q
theorem s_slL {e : Addr} {lo hi : Option Int} (he : G e = some (.lst l)) (q : ∀ p, G p = none → Q (.ref p) (gup G p (.lst (cutL l lo hi)))) : dSl (.ref e) lo hi G Q := ⟨l, he, q⟩
theorem s_append {e : Addr} (he : G e = some (.lst l)) (h : l.length < sizeLine) (q : Q .non (gup G e (.lst (l ++ [d])))) : dAppend (.ref e) [d] G Q := ⟨l, he, h, q⟩
theorem s_extend {e f : Addr} (he : G e = some (.lst l)) (hf : G f = some (.lst m)) (h : l.length + m.length ≤ sizeLine) (q : Q .non (gup G e (.lst (l ++ m)))) : dExtend (.ref e) [.ref f] G Q := ⟨l, m, he, hf, h, q⟩
theorem s_reverse {e : Addr} (he : G e = some (.lst l)) (q : Q .non (gup G e (.lst l.reverse))) : dReverse (.ref e) [] G Q := ⟨l, he, q⟩
theorem s_lenT (q : Q (.int l.length) G) : dLen [.tup l] G Q := q
theorem s_lenR (q : Q (.int l.length) G) : dLen [.ro l] G Q := q
theorem s_lenL {e : Addr} (he : G e = some (.lst l)) (q : Q (.int l.length) G) : dLen [.ref e] G Q := ⟨l, he, q⟩
theorem s_lenS (h : p.length ≤ sizeLine) (q : Q (.int p.length) G) : dLen [.str p] G Q := ⟨h, q⟩
theorem s_sumL {e : Addr} {ns : List Int} (he : G e = some (.lst (ns.map .int))) (q : Q (.int ns.sum) G) : dSum [.ref e] G Q := ⟨_, he, ns, rfl, q⟩
theorem s_max2 (q : Q (.int (if b > a then b else a)) G) : dMax [.int a, .int b] G Q := q
theorem s_min2 (q : Q (.int (if b < a then b else a)) G) : dMin [.int a, .int b] G Q := q
theorem s_abs (q : Q (.int (if a < 0 then -a else a)) G) : dAbs [.int a] G Q := q
theorem s_intI (q : Q (.int a) G) : dInt [.int a] G Q := q
theorem s_intB {b : Bool} (q : Q (.int (if b then 1 else 0)) G) : dInt [.bl b] G Q := q
theorem s_tupleT (q : Q (.tup l) G) : dTuple [.tup l] G Q := q
theorem s_tupleR (q : Q (.tup l) G) : dTuple [.ro l] G Q := q
theorem s_tupleL {e : Addr} (he : G e = some (.lst l)) (q : Q (.tup l) G) : dTuple [.ref e] G Q := ⟨l, he, q⟩
theorem s_listT (q : ∀ p, G p = none → Q (.ref p) (gup G p (.lst l))) : dList [.tup l] G Q := q
theorem s_listR (q : ∀ p, G p = none → Q (.ref p) (gup G p (.lst l))) : dList [.ro l] G Q := q
theorem s_listL {e : Addr} (he : G e = some (.lst l)) (q : ∀ p, G p = none → Q (.ref p) (gup G p (.lst l))) : dList [.ref e] G Q := ⟨l, he, q⟩
theorem s_strI (h : a.natAbs.log2 < 1920) (q : Q (.str (toString a)) G) : dStr [.int a] G Q := ⟨h, q⟩
theorem s_strS (q : Q (.str p) G) : dStr [.str p] G Q := q
/-- the class of a value that is no reference -/
def DV.kind : DV → String
  | .non => "NoneType" | .bl _ => "bool" | .int _ => "int" | .str _ => "str" | .tup _ => "tuple" | .ro _ => "list" | .ref _ => "" | .ty _ => ""
def DV.known : DV → Bool
  | .ref _ => false | .ty _ => false | _ => true
theorem s_isi {c : String} (h : d.known = true) (hc : c ∈ ["int", "bool", "str", "tuple", "list", "dict"]) (q : Q (.bl (isaB d.kind c)) G) : dIsi [d, .ty c] G Q := by
  refine ⟨hc, ?_⟩
  cases d <;> first | exact absurd h Bool.false_ne_true | exact q
theorem s_isiI {c : String} (hc : c ∈ ["int", "bool", "str", "tuple", "list", "dict"]) (q : Q (.bl (isaB "int" c)) G) : dIsi [.int a, .ty c] G Q := ⟨hc, q⟩
theorem s_isiB {b : Bool} {c : String} (hc : c ∈ ["int", "bool", "str", "tuple", "list", "dict"]) (q : Q (.bl (isaB "bool" c)) G) : dIsi [.bl b, .ty c] G Q := ⟨hc, q⟩
theorem s_isiS {c : String} (hc : c ∈ ["int", "bool", "str", "tuple", "list", "dict"]) (q : Q (.bl (isaB "str" c)) G) : dIsi [.str p, .ty c] G Q := ⟨hc, q⟩
theorem s_isiT {c : String} (hc : c ∈ ["int", "bool", "str", "tuple", "list", "dict"]) (q : Q (.bl (isaB "tuple" c)) G) : dIsi [.tup l, .ty c] G Q := ⟨hc, q⟩
theorem s_isiR {c : String} (hc : c ∈ ["int", "bool", "str", "tuple", "list", "dict"]) (q : Q (.bl (isaB "list" c)) G) : dIsi [.ro l, .ty c] G Q := ⟨hc, q⟩
theorem s_isiN {c : String} (hc : c ∈ ["int", "bool", "str", "tuple", "list", "dict"]) (q : Q (.bl (isaB "NoneType" c)) G) : dIsi [.non, .ty c] G Q := ⟨hc, q⟩
theorem s_isiL {e : Addr} {c : String} (he : G e = some (.lst l)) (hc : c ∈ ["int", "bool", "str", "tuple", "list", "dict"]) (q : Q (.bl (isaB "list" c)) G) : dIsi [.ref e, .ty c] G Q := by
  refine ⟨hc, ?_⟩
  show (match G e with | some (.lst _) => Q (.bl (isaB "list" c)) G | some (.dic _) => _ | _ => False)
  rw [he]; exact q
theorem s_repr {e : PyData} (h : DR G d e) (f : Fair e) (q : Q (.str e.shown) G) : dRepr [d] G Q := ⟨e, h, f, q⟩

/-! what is walked -/
variable {I : List DV → (Gh → Prop) → Gh → Prop}
def seqK (I : List DV → (Gh → Prop) → Gh → Prop) (d : DV) (G1 : Gh) : Prop := match d with
  | .tup l => I l (fun _ => True) G1
  | .ro l => I l (fun _ => True) G1
  | .ref a => ∃ l, G1 a = some (.lst l) ∧ I l (fun G => G a = some (.lst l)) G1
  | .str z => I (z.cps.toList.map fun c => .str ⟨#[c]⟩) (fun _ => True) G1
  | _ => False
theorem s_wiSeq (q : wa Y env G (seqK I)) : wiSeq wa Y env G I := q
theorem s_seqT (q : I l (fun _ => True) G) : seqK I (.tup l) G := q
theorem s_seqR (q : I l (fun _ => True) G) : seqK I (.ro l) G := q
theorem s_seqStr {z : Str} (q : I (z.cps.toList.map fun c => .str ⟨#[c]⟩) (fun _ => True) G) : seqK I (.str z) G := q
theorem s_seqL {e : Addr} (he : G e = some (.lst l)) (q : I l (fun G => G e = some (.lst l)) G) : seqK I (.ref e) G := ⟨l, he, q⟩
def rng1K (R : List DV → (Gh → Prop) → Gh → Prop) (ds : List DV) (G1 : Gh) : Prop := match ds with
  | [.int j] => (-(2 ^ 62) ≤ j ∧ j < 2 ^ 62) ∧ R (intsFrom 0 j.toNat) (fun _ => True) G1
  | _ => False
theorem s_wiRange1 (q : wr Y env G (rng1K I)) : wiRange1 wr Y env G I := q
theorem s_rng1 (h : -(2 ^ 62) ≤ a ∧ a < 2 ^ 62) (q : I (intsFrom 0 a.toNat) (fun _ => True) G) : rng1K I [.int a] G := ⟨h, q⟩
def rng2K (R : List DV → (Gh → Prop) → Gh → Prop) (ds : List DV) (G1 : Gh) : Prop := match ds with
  | [.int i, .int j] => (-(2 ^ 62) ≤ i ∧ i < 2 ^ 62 ∧ -(2 ^ 62) ≤ j ∧ j < 2 ^ 62) ∧ R (intsFrom i (j - i).toNat) (fun _ => True) G1
  | _ => False
theorem s_wiRange2 (q : wr Y env G (rng2K I)) : wiRange2 wr Y env G I := q
theorem s_rng2 (h : -(2 ^ 62) ≤ a ∧ a < 2 ^ 62 ∧ -(2 ^ 62) ≤ b ∧ b < 2 ^ 62) (q : I (intsFrom a (b - a).toNat) (fun _ => True) G) : rng2K I [.int a, .int b] G := ⟨h, q⟩
def zip2K (R : List DV → (Gh → Prop) → Gh → Prop) (ds : List DV) (G1 : Gh) : Prop := match ds with
  | [x, y] => srcD x G1 fun l s1 => srcD y G1 fun m s2 => R (zip2L l m) (fun G => s1 G ∧ s2 G) G1
  | _ => False
theorem s_wiZip2 (q : wr Y env G (zip2K I)) : wiZip2 wr Y env G I := q
theorem s_zip2 (q : srcD x G fun l s1 => srcD y G fun m s2 => I (zip2L l m) (fun G => s1 G ∧ s2 G) G) : zip2K I [x, y] G := q
variable {S : List DV → (Gh → Prop) → Prop}
theorem s_srcT (q : S l fun _ => True) : srcD (.tup l) G S := q
theorem s_srcR (q : S l fun _ => True) : srcD (.ro l) G S := q
theorem s_srcL {e : Addr} (he : G e = some (.lst l)) (q : S l fun G => G e = some (.lst l)) : srcD (.ref e) G S := ⟨l, he, q⟩
/-- branches -/
theorem s_ite {c : Prop} [Decidable c] {A B : Prop} (h1 : c → A) (h2 : ¬ c → B) : if decide c = true then A else B := by
  by_cases h : c
  · rw [if_pos (decide_eq_true h)]; exact h1 h
  · rw [if_neg (by simp [h])]; exact h2 h
theorem s_iteN {c : Prop} [Decidable c] {A B : Prop} (h1 : ¬ c → A) (h2 : c → B) : if (!decide c) = true then A else B := by
  by_cases h : c
  · rw [if_neg (by simp [h])]; exact h2 h
  · rw [if_pos (by simp [h])]; exact h1 h
theorem s_iteB {c : Bool} {A B : Prop} (h1 : c = true → A) (h2 : c = false → B) : if c = true then A else B := by
  cases c
  · rw [if_neg Bool.false_ne_true]; exact h2 rfl
  · rw [if_pos rfl]; exact h1 rfl
theorem s_yesD {c : Prop} [Decidable c] {A B : Prop} (h : c) (q : A) : if decide c = true then A else B := by rw [if_pos (decide_eq_true h)]; exact q
theorem s_noD {c : Prop} [Decidable c] {A B : Prop} (h : ¬ c) (q : B) : if decide c = true then A else B := by rw [if_neg (by simp [h])]; exact q
theorem s_yesN {c : Prop} [Decidable c] {A B : Prop} (h : ¬ c) (q : A) : if (!decide c) = true then A else B := by rw [if_pos (by simp [h])]; exact q
theorem s_noN {c : Prop} [Decidable c] {A B : Prop} (h : c) (q : B) : if (!decide c) = true then A else B := by rw [if_neg (by simp [h])]; exact q
theorem s_yesB {c : Bool} {A B : Prop} (h : c = true) (q : A) : if c = true then A else B := by rw [if_pos h]; exact q
theorem s_noB {c : Bool} {A B : Prop} (h : c = false) (q : B) : if c = true then A else B := by rw [if_neg (by simp [h])]; exact q
theorem s_t {A B : Prop} (h : A) : if true = true then A else B := h
theorem s_f {A B : Prop} (h : B) : if false = true then A else B := h
end

theorem atI_lt {α : Type} {l : List α} {j : Int} (h0 : 0 ≤ j) (h1 : j < l.length) : ∃ d, L2.atI l j = some d ∧ l[j.toNat]? = some d := by
  have e : j = ((j.toNat : Nat) : Int) := by omega
  have hl : j.toNat < l.length := by omega
  have z : L2.atI l ((j.toNat : Nat) : Int) = some l[j.toNat] := L2.atI_nat (List.getElem?_eq_getElem hl)
  exact ⟨l[j.toNat], (congrArg (L2.atI l) e).trans z, List.getElem?_eq_getElem hl⟩
theorem atI_ints {l : List Int} {j : Int} (h0 : 0 ≤ j) (h1 : j < (l.map DV.int).length) : ∃ x : Int, L2.atI (l.map DV.int) j = some (.int x) ∧ x ∈ l := by
  obtain ⟨d, e, e2⟩ := atI_lt h0 h1
  rw [List.getElem?_map] at e2
  cases q : l[j.toNat]? with
  | none => rw [q] at e2; cases e2
  | some x =>
    rw [q] at e2
    cases e2
    exact ⟨x, e, List.mem_of_getElem? q⟩
theorem cut_to {α : Type} {l : List α} {n : Int} (h : 0 ≤ n) : cutL l none (some n) = l.take n.toNat := by
  have e : n = ((n.toNat : Nat) : Int) := by omega
  unfold cutL
  have z : HT.sIx l.length l.length (some n) = min n.toNat l.length := (congrArg (fun k => HT.sIx l.length l.length (some k)) e).trans (HT.sIx_nat _ _ _)
  rw [z, HT.sIx_none, List.drop_zero, Nat.sub_zero]
  rcases Nat.le_total n.toNat l.length with h1 | h1
  · rw [Nat.min_eq_left h1]
  · rw [Nat.min_eq_right h1, List.take_length, List.take_of_length_le h1]
theorem cut_from {α : Type} {l : List α} {n : Int} (h : 0 ≤ n) : cutL l (some n) none = l.drop n.toNat := by
  have e : n = ((n.toNat : Nat) : Int) := by omega
  unfold cutL
  have z : HT.sIx l.length 0 (some n) = min n.toNat l.length := (congrArg (fun k => HT.sIx l.length 0 (some k)) e).trans (HT.sIx_nat _ _ _)
  rw [z, HT.sIx_none]
  rcases Nat.le_total n.toNat l.length with h1 | h1
  · rw [Nat.min_eq_left h1, List.take_of_length_le (by rw [List.length_drop]; exact Nat.le_refl _)]
  · rw [Nat.min_eq_right h1, List.drop_length, List.drop_eq_nil_of_le h1]; simp
theorem cut_all {α : Type} {l : List α} : cutL l none none = l := by
  unfold cutL
  rw [HT.sIx_none, HT.sIx_none, List.drop_zero, Nat.sub_zero, List.take_length]
/-! ### heaps that keep -/
def Sub (G G' : Gh) : Prop := ∀ a c, G a = some c → G' a = some c
theorem Sub.refl {G : Gh} : Sub G G := fun _ _ h => h
theorem Sub.trans {G G1 G2 : Gh} (h : Sub G G1) (k : Sub G1 G2) : Sub G G2 := fun a c e => k a c (h a c e)
theorem Sub.new {G : Gh} {p : Addr} {c : Cell} (h : G p = none) : Sub G (gup G p c) := fun a d e => by
  rw [gup_ne (by rintro rfl; rw [h] at e; cases e)]; exact e
/-- all but t -/
def Old (t : Addr) (G G' : Gh) : Prop := ∀ a c, a ≠ t → G a = some c → G' a = some c
theorem Sub.old {G G' : Gh} {t : Addr} (h : Sub G G') : Old t G G' := fun a c _ e => h a c e
theorem Old.refl {G : Gh} {t : Addr} : Old t G G := fun _ _ _ h => h
theorem Old.trans {t : Addr} {G G1 G2 : Gh} (h : Old t G G1) (k : Old t G1 G2) : Old t G G2 := fun a c n e => k a c n (h a c n e)
theorem Old.set {t : Addr} {G : Gh} {c : Cell} : Old t G (gup G t c) := fun a d n e => by rw [gup_ne n]; exact e
theorem Old.sub {t : Addr} {G G1 G2 : Gh} (h : Old t G G1) (k : Sub G1 G2) : Old t G G2 := h.trans k.old
/-- what was made since may be changed -/
theorem Sub.own {G g g1 : Gh} {e : Addr} (h : Sub G g) (n : G e = none) (k : Old e g g1) : Sub G g1 := fun a c x => k a c (ne_gone x n) (h a c x)
theorem Old.own {t : Addr} {G g g1 : Gh} {e : Addr} (h : Old t G g) (n : G e = none) (k : Old e g g1) : Old t G g1 := fun a c ha x => k a c (ne_gone x n) (h a c ha x)
theorem Sub.look {G G1 : Gh} {a : Addr} {c : Cell} (h : Sub G G1) (e : G a = some c) : G1 a = some c := h a c e
theorem Old.look {G G1 : Gh} {t a : Addr} {c : Cell} (h : Old t G G1) (n : a ≠ t) (e : G a = some c) : G1 a = some c := h a c n e
/-- a tape: [cells, place, rest], the place at most n -/
structure TapeAt (G : Gh) (t c : Addr) (n : Nat) : Prop where
  ex : ∃ (cells : List Int) (i s : Int), G t = some (.lst [.ref c, .int i, .int s]) ∧ c ≠ t ∧ G c = some (.lst (cells.map DV.int)) ∧ 0 ≤ i ∧ i ≤ n
section
variable {G G' : Gh} {t c p : Addr} {n m : Nat}
theorem TapeAt.sub (h : TapeAt G t c n) (k : Sub G G') : TapeAt G' t c n := by
  obtain ⟨cells, i, s, h1, h2, h3, h4, h5⟩ := h.ex
  exact ⟨cells, i, s, k _ _ h1, h2, k _ _ h3, h4, h5⟩
theorem TapeAt.mono (h : TapeAt G t c n) (k : n ≤ m) : TapeAt G t c m := by
  obtain ⟨cells, i, s, h1, h2, h3, h4, h5⟩ := h.ex
  exact ⟨cells, i, s, h1, h2, h3, h4, by omega⟩
theorem TapeAt.ne1 (h : TapeAt G t c n) (k : G p = none) : p ≠ t := by
  obtain ⟨cells, i, s, h1, _⟩ := h.ex
  rintro rfl; rw [k] at h1; cases h1
theorem TapeAt.ne2 (h : TapeAt G t c n) (k : G p = none) : p ≠ c := by
  obtain ⟨cells, i, s, _, _, h1, _⟩ := h.ex
  rintro rfl; rw [k] at h1; cases h1
theorem TapeAt.nct (h : TapeAt G t c n) : c ≠ t := by
  obtain ⟨cells, i, s, _, h1, _⟩ := h.ex
  exact h1
theorem TapeAt.old {e : Addr} (h : TapeAt G t c n) (k : Old e G G') (n1 : e ≠ t) (n2 : e ≠ c) : TapeAt G' t c n := by
  obtain ⟨cells, i, s, h1, h2, h3, h4, h5⟩ := h.ex
  exact ⟨cells, i, s, k _ _ n1.symm h1, h2, k _ _ n2.symm h3, h4, h5⟩
end
theorem MulOk.i {i : Int} {n : Nat} (h0 : 0 ≤ i) (h : i ≤ n) (hn : n ≤ 1000000000001) {k : Int} (hk : k.natAbs < 2 ^ 40) : MulOk i k := MulOk.of (a := 60) (b := 40) (by omega) hk (by decide) (by decide) (by decide)
/-! new heaps by what is known of them -/
section
variable {G : Gh} {Q : DV → Gh → Prop} {l m : List DV} {d : DV} {a b : Int}
theorem x_mkL (h : l.length ≤ sizeLine) (q : ∀ p G1, G p = none → Sub G G1 → G1 p = some (.lst l) → Q (.ref p) G1) : mkLst l G Q := ⟨h, fun p hp => q p _ hp (Sub.new hp) gup_same⟩
/-- what a step that makes a new list owes -/
theorem x_new {l : List DV} (q : ∀ p G1, G p = none → Sub G G1 → G1 p = some (.lst l) → Q (.ref p) G1) : ∀ p, G p = none → Q (.ref p) (gup G p (.lst l)) := fun p hp => q p _ hp (Sub.new hp) gup_same
theorem x_setL {e : Addr} {n : Int} {j : Nat} {U : Gh → Prop} (he : G e = some (.lst l)) (h : ixN l.length n = some j) (h2 : l.set j d = m) (q : ∀ G1, Old e G G1 → G1 e = some (.lst m) → U G1) : dSet (.ref e) (.int n) d G U := ⟨l, j, he, h, by rw [h2]; exact q _ Old.set gup_same⟩
theorem x_append {e : Addr} (he : G e = some (.lst l)) (h : l.length < sizeLine) (q : ∀ G1, Old e G G1 → G1 e = some (.lst (l ++ [d])) → Q .non G1) : dAppend (.ref e) [d] G Q := ⟨l, he, h, q _ Old.set gup_same⟩
theorem x_extend {e f : Addr} (he : G e = some (.lst l)) (hf : G f = some (.lst m)) (h : l.length + m.length ≤ sizeLine) (q : ∀ G1, Old e G G1 → G1 e = some (.lst (l ++ m)) → Q .non G1) : dExtend (.ref e) [.ref f] G Q := ⟨l, m, he, hf, h, q _ Old.set gup_same⟩
theorem x_reverse {e : Addr} (he : G e = some (.lst l)) (q : ∀ G1, Old e G G1 → G1 e = some (.lst l.reverse) → Q .non G1) : dReverse (.ref e) [] G Q := ⟨l, he, q _ Old.set gup_same⟩
theorem x_addL {e f : Addr} (he : G e = some (.lst l)) (hf : G f = some (.lst m)) (h : l.length + m.length ≤ sizeLine) (q : ∀ p G1, G p = none → Sub G G1 → G1 p = some (.lst (l ++ m)) → Q (.ref p) G1) : dAdd (.ref e) (.ref f) G Q := ⟨l, m, he, hf, h, x_new q⟩
theorem x_slL {e : Addr} {lo hi : Option Int} (he : G e = some (.lst l)) (q : ∀ p G1, G p = none → Sub G G1 → G1 p = some (.lst (cutL l lo hi)) → Q (.ref p) G1) : dSl (.ref e) lo hi G Q := ⟨l, he, x_new q⟩
theorem x_slR {lo hi : Option Int} (q : ∀ p G1, G p = none → Sub G G1 → G1 p = some (.lst (cutL l lo hi)) → Q (.ref p) G1) : dSl (.ro l) lo hi G Q := x_new q
theorem x_listT (q : ∀ p G1, G p = none → Sub G G1 → G1 p = some (.lst l) → Q (.ref p) G1) : dList [.tup l] G Q := x_new q
theorem x_listR (q : ∀ p G1, G p = none → Sub G G1 → G1 p = some (.lst l) → Q (.ref p) G1) : dList [.ro l] G Q := x_new q
theorem x_listL {e : Addr} (he : G e = some (.lst l)) (q : ∀ p G1, G p = none → Sub G G1 → G1 p = some (.lst l) → Q (.ref p) G1) : dList [.ref e] G Q := ⟨l, he, x_new q⟩
end
end DL

namespace DL
open PySem PySem.Spec L2
open PyProof.Rows hiding St

/-! ### data of fair size, told by its parts -/
structure Fr (n k : Nat) (d : PyData) : Prop where
  short : d.leavesShort 600 = true
  light : d.bulk ≤ n
  show_ : d.showable = true
  lay : d.canLay0 = true
  flat : d.depth ≤ k
structure FrL (n k : Nat) (xs : List PyData) : Prop where
  short : PyData.leavesShortAll 600 xs = true
  light : PyData.bulkAll xs ≤ n
  show_ : PyData.showableAll xs = true
  lay : PyData.canLayAll0 xs = true
  flat : PyData.depthAll xs ≤ k
theorem Fr.fair {n k : Nat} {d : PyData} (f : Fr n k d) (hn : n ≤ 27000 := by decide) (hk : k ≤ 60 := by decide) : Fair d := ⟨f.short, Nat.le_trans f.light hn, f.show_, f.lay, Nat.le_trans f.flat hk⟩
theorem Fr.mono {n k m j : Nat} {d : PyData} (f : Fr n k d) (hn : n ≤ m) (hk : k ≤ j) : Fr m j d := ⟨f.short, Nat.le_trans f.light hn, f.show_, f.lay, Nat.le_trans f.flat hk⟩
theorem FrL.nil {k : Nat} : FrL 0 k [] := ⟨rfl, Nat.le_refl _, rfl, rfl, Nat.zero_le _⟩
theorem FrL.cons {n m k : Nat} {d : PyData} {xs : List PyData} (f : Fr n k d) (g : FrL m k xs) : FrL (n + 1 + m) k (d :: xs) where
  short := by simp only [PyData.leavesShortAll, f.short, g.short, Bool.and_true]
  light := by have := f.light; have := g.light; simp only [PyData.bulkAll]; omega
  show_ := by simp only [PyData.showableAll, f.show_, g.show_, Bool.and_true]
  lay := by simp only [PyData.canLayAll0, f.lay, g.lay, Bool.and_true]
  flat := by have := f.flat; have := g.flat; simp only [PyData.depthAll]; omega
theorem FrL.mono {n k m j : Nat} {d : List PyData} (f : FrL n k d) (hn : n ≤ m) (hk : k ≤ j) : FrL m j d := ⟨f.short, Nat.le_trans f.light hn, f.show_, f.lay, Nat.le_trans f.flat hk⟩
theorem FrL.all {n k : Nat} : ∀ {xs : List PyData}, (∀ d ∈ xs, Fr n k d) → ∀ {m : Nat}, xs.length ≤ m → FrL (m * (n + 1)) k xs
  | [], _, m, _ => FrL.nil.mono (Nat.zero_le _) (Nat.le_refl _)
  | d :: xs, h, m, hm => by
    have a := (FrL.cons (h d (by simp)) (FrL.all (xs := xs) (fun e he => h e (List.mem_cons_of_mem _ he)) (m := m - 1) (by simp at hm; omega)))
    refine a.mono ?_ (Nat.le_refl _)
    have e : m = (m - 1) + 1 := by simp at hm; omega
    rw [e, Nat.add_mul, Nat.add_sub_cancel]
    omega
theorem Fr.tup {n k : Nat} {xs : List PyData} (f : FrL n k xs) : Fr n (k + 1) (.tuple xs) :=
  ⟨f.short, f.light, f.show_, f.lay, Nat.succ_le_succ f.flat⟩
theorem Fr.lst {n k : Nat} {xs : List PyData} (f : FrL n k xs) : Fr n (k + 1) (.list xs) :=
  ⟨f.short, f.light, f.show_, f.lay, Nat.succ_le_succ f.flat⟩
theorem Fr.non {k : Nat} : Fr 0 k .none := ⟨rfl, Nat.le_refl _, rfl, rfl, Nat.zero_le _⟩
theorem Fr.bl {k : Nat} {b : Bool} : Fr 0 k (.bool b) := ⟨rfl, Nat.le_refl _, rfl, rfl, Nat.zero_le _⟩
theorem Fr.int {k b : Nat} {i : Int} (h : i.natAbs < 2 ^ b) (hb : b ≤ 590) : Fr 0 k (.int i) where
  short := by
    have hlen : (toString i).length ≤ 591 + 1 := int_text_length_le (by decide) (by
      by_cases hz : i.natAbs = 0
      · rw [hz]; decide
      · exact (Nat.log2_lt hz).mpr (Nat.lt_of_lt_of_le h (Nat.pow_le_pow_right (by decide) (by omega))))
    show decide ((PyData.shown (.int i)).length ≤ 600) = true
    have e : (PyData.shown (.int i)).length = (toString i).length := by
      show (Str.ofString (toString i)).length = _
      exact PySem.ofString_length _
    rw [e]
    exact decide_eq_true (by omega)
  light := Nat.le_refl _
  show_ := by
    show decide (i.natAbs.log2 < 1920) = true
    refine decide_eq_true ?_
    by_cases hz : i.natAbs = 0
    · rw [hz]; decide
    · exact (Nat.log2_lt hz).mpr (Nat.lt_of_lt_of_le h (Nat.pow_le_pow_right (by decide) (by omega)))
  lay := rfl
  flat := Nat.zero_le _
theorem Fr.str {n k : Nat} {x : Str} (h : x.cps.size ≤ n) (ok : x.cps.all (· < 0x110000) = true) : Fr n k (.str x) where
  short := by
    show x.cps.toList.all (fun c => decide (c < 16 ^ 8)) = true
    rw [List.all_eq_true]
    intro c hc
    have : c < 0x110000 := by
      have q := Array.all_eq_true.mp ok
      obtain ⟨i, hi, e⟩ := List.mem_iff_getElem.mp hc
      have z := q i (by simpa using hi)
      rw [← e]
      simpa using z
    exact decide_eq_true (by omega)
  light := h
  show_ := rfl
  lay := ok
  flat := Nat.zero_le _

/-! ### loops and comprehensions -/
section
variable {stay : Gh → Prop} {g : DG} {wl : DS} {De : DEnds} {env : Dv} {G : Gh} {tt : DT} {te : DE} {Q : DV → Gh → Prop} {items : List DV}
/-- a loop over a range -/
theorem forL_range {lo : Int} {n : Nat} (Inv : Nat → Dv → Gh → Prop) (h0 : Inv 0 env G)
    (ht : ∀ i env G (K : Dv → Gh → Prop), i < n → Inv i env G → (∀ e g, Inv (i + 1) e g → K e g) → g (.int (lo + i)) env G fun env1 G1 => wl { De with nx := K, ct := K, bk := De.nx } env1 G1)
    (he : ∀ env G, Inv n env G → De.nx env G) : forL (fun _ => True) g wl De (intsFrom lo n) env G := by
  refine forL_inv Inv h0 (fun _ _ _ _ _ => trivial) (fun i d env G K e hi p k => ?_) (fun env G p => he env G (by rw [intsFrom_len] at p; exact p))
  rw [intsFrom_get] at e
  split at e
  · cases e; exact ht i env G K (by assumption) p k
  · cases e
/-- a comprehension whose items are made by f; the heap keeps R, told by the number of turns -/
theorem lcL_map (f : DV → DV) (R : Nat → Gh → Prop) (h0 : R 0 G) (hs : ∀ i G, R i G → stay G) (hn : items.length ≤ sizeLine)
    (ht : ∀ i d G (K : DV → Gh → Prop) (K2 : Gh → Prop), items[i]? = some d → i < items.length → R i G → (∀ G1, R (i + 1) G1 → K (f d) G1) → g d env G fun env1 G1 => tt (fun _ _ _ => False) env1 G1 fun b G2 => if b = true then te (fun _ _ _ => False) env1 G2 K else K2 G2)
    (he : ∀ G, R items.length G → ∀ p G1, G p = none → Sub G G1 → G1 p = some (.lst (items.map f)) → Q (.ref p) G1) : lcL stay g tt te env Q items [] G := by
  refine lcL_inv (fun i acc G => acc = (items.take i).map f ∧ R i G) ⟨by simp, h0⟩ (fun i acc G _ h => hs i G h.2) (fun i d acc G K e hi ⟨ea, r⟩ k => ?_) (fun acc G ⟨ea, r⟩ p hp => he G r p _ hp (Sub.new hp) (by rw [ea, List.take_length]; exact gup_same))
  refine ht i d G (fun y G3 => acc.length < sizeLine ∧ K (acc ++ [y]) G3) (K acc) e hi r fun G1 r1 => ⟨?_, k _ _ ⟨?_, r1⟩⟩
  · rw [ea, List.length_map, List.length_take]; omega
  · rw [ea, List.take_add_one, e]; simp
/-- .. whose items are such that P -/
theorem lcL_all (P : Nat → DV → Prop) (R : Nat → Gh → Prop) (h0 : R 0 G) (hs : ∀ i G, R i G → stay G) (hn : items.length ≤ sizeLine)
    (ht : ∀ i d G (K : DV → Gh → Prop) (K2 : Gh → Prop), items[i]? = some d → i < items.length → R i G → (∀ y G1, P i y → R (i + 1) G1 → K y G1) → g d env G fun env1 G1 => tt (fun _ _ _ => False) env1 G1 fun b G2 => if b = true then te (fun _ _ _ => False) env1 G2 K else K2 G2)
    (he : ∀ G l, R items.length G → l.length = items.length → (∀ i y, l[i]? = some y → P i y) → ∀ p G1, G p = none → Sub G G1 → G1 p = some (.lst l) → Q (.ref p) G1) : lcL stay g tt te env Q items [] G := by
  refine lcL_inv (fun i acc G => (acc.length = i ∧ ∀ j y, acc[j]? = some y → P j y) ∧ R i G) ⟨⟨rfl, fun j y h => by simp at h⟩, h0⟩ (fun i acc G _ h => hs i G h.2) (fun i d acc G K e hi ⟨⟨el, ea⟩, r⟩ k => ?_) (fun acc G ⟨⟨el, ea⟩, r⟩ p hp => he G acc r el ea p _ hp (Sub.new hp) gup_same)
  refine ht i d G (fun y G3 => acc.length < sizeLine ∧ K (acc ++ [y]) G3) (K acc) e hi r fun y G1 py r1 => ⟨by omega, k _ _ ⟨⟨by simp [el], fun j z h => ?_⟩, r1⟩⟩
  by_cases hj : j < acc.length
  · rw [List.getElem?_append_left hj] at h; exact ea j z h
  · rw [List.getElem?_append_right (by omega)] at h
    have : j = acc.length := by
      by_cases hj2 : j = acc.length
      · exact hj2
      · rw [List.getElem?_eq_none (by simp; omega)] at h; cases h
    subst this
    simp at h
    subst h
    rw [el]; exact py
/-- .. with a test -/
theorem lcL_filter (c : DV → Bool) (f : DV → DV) (R : Nat → Gh → Prop) (h0 : R 0 G) (hs : ∀ i G, R i G → stay G) (hn : items.length ≤ sizeLine)
    (ht : ∀ i d G (K : DV → Gh → Prop) (K2 : Gh → Prop), items[i]? = some d → i < items.length → R i G → (c d = true → ∀ G1, R (i + 1) G1 → K (f d) G1) → (c d = false → ∀ G1, R (i + 1) G1 → K2 G1) →
      g d env G fun env1 G1 => tt (fun _ _ _ => False) env1 G1 fun b G2 => if b = true then te (fun _ _ _ => False) env1 G2 K else K2 G2)
    (he : ∀ G, R items.length G → ∀ p G1, G p = none → Sub G G1 → G1 p = some (.lst ((items.filter c).map f)) → Q (.ref p) G1) : lcL stay g tt te env Q items [] G := by
  refine lcL_inv (fun i acc G => acc = ((items.take i).filter c).map f ∧ R i G) ⟨by simp, h0⟩ (fun i acc G _ h => hs i G h.2) (fun i d acc G K e hi ⟨ea, r⟩ k => ?_) (fun acc G ⟨ea, r⟩ p hp => he G r p _ hp (Sub.new hp) (by rw [ea, List.take_length]; exact gup_same))
  refine ht i d G (fun y G3 => acc.length < sizeLine ∧ K (acc ++ [y]) G3) (K acc) e hi r (fun hc G1 r1 => ⟨?_, k _ _ ⟨?_, r1⟩⟩) (fun hc G1 r1 => k _ _ ⟨?_, r1⟩)
  · have := List.length_filter_le c (items.take i)
    rw [ea, List.length_map]
    rw [List.length_take] at this
    omega
  · rw [ea, List.take_add_one, e]; simp [hc]
  · rw [ea, List.take_add_one, e]; simp [hc]
end
theorem map_of {α : Type} (enc : α → DV) (p : α → Prop) : ∀ {l : List DV}, (∀ y ∈ l, ∃ a, y = enc a ∧ p a) → ∃ as : List α, l = as.map enc ∧ ∀ a ∈ as, p a
  | [], _ => ⟨[], rfl, by simp⟩
  | d :: l, h => by
    obtain ⟨a, e, q⟩ := h d (by simp)
    obtain ⟨as, e2, q2⟩ := map_of enc p (l := l) fun y hy => h y (by simp [hy])
    refine ⟨a :: as, by rw [e, e2]; rfl, fun b hb => ?_⟩
    rcases List.mem_cons.mp hb with rfl | hb
    · exact q
    · exact q2 b hb
theorem zip2L_map {α β : Type} (f : α → DV) (g : β → DV) : ∀ (l : List α) (m : List β), zip2L (l.map f) (m.map g) = (l.zip m).map fun p => .tup [f p.1, g p.2]
  | [], m => by simp [zip2L]
  | a :: l, [] => by simp [zip2L]
  | a :: l, b :: m => by simp [zip2L, zip2L_map f g l m]
theorem map_get {α : Type} {f : α → DV} {l : List α} {i : Nat} {d : DV} (h : (l.map f)[i]? = some d) : ∃ a, l[i]? = some a ∧ d = f a := by
  rw [List.getElem?_map] at h
  cases q : l[i]? with
  | none => rw [q] at h; cases h
  | some a => rw [q] at h; cases h; exact ⟨a, rfl, rfl⟩
theorem rng_get {lo : Int} {n i : Nat} {d : DV} (h : (intsFrom lo n)[i]? = some d) : i < n ∧ d = .int (lo + i) := by
  rw [intsFrom_get] at h
  split at h
  · cases h; exact ⟨by assumption, rfl⟩
  · cases h
theorem range_get {n i a : Nat} (h : (List.range n)[i]? = some a) : a = i ∧ i < n := by
  have hi := (List.getElem?_eq_some_iff.mp h).1
  rw [List.length_range] at hi
  rw [List.getElem?_range hi] at h
  exact ⟨(Option.some.inj h).symm, hi⟩
theorem sum_bound {B : Nat} : ∀ {l : List Int}, (∀ x ∈ l, x.natAbs ≤ B) → l.sum.natAbs ≤ l.length * B
  | [], _ => by simp
  | x :: l, h => by
    have h1 := h x (by simp)
    have h2 := sum_bound (l := l) fun y hy => h y (by simp [hy])
    rw [List.sum_cons, List.length_cons, Nat.add_mul, Nat.one_mul]
    omega
theorem at_int {α : Type} {f : α → DV} {l : List α} {i : Nat} {j : Int} {a : α} (e : l[i]? = some a) (hj : j = i) : L2.atI (l.map f) j = some (f a) := by
  subst hj
  exact L2.atI_nat (by rw [List.getElem?_map, e]; rfl)
theorem intsFrom_eq (lo : Int) (n : Nat) : intsFrom lo n = (List.range n).map fun (i : Nat) => DV.int (lo + (i : Int)) := by
  apply List.ext_getElem?
  intro i
  rw [intsFrom_get, List.getElem?_map]
  by_cases h : i < n
  · rw [if_pos h, List.getElem?_range h]; rfl
  · rw [if_neg h, List.getElem?_eq_none (by simpa using h)]; rfl
section
variable {α : Type} {stay : Gh → Prop} {g : DG} {wl : DS} {De : DEnds} {env : Dv} {G : Gh} {tt : DT} {te : DE} {Q : DV → Gh → Prop} {xs : List α}
/-- typed forms: the items are xs by enc -/
theorem lcT_map (enc f : α → DV) (R : Nat → Gh → Prop) (h0 : R 0 G) (hs : ∀ i G, R i G → stay G) (hn : xs.length ≤ sizeLine)
    (ht : ∀ i a G (K : DV → Gh → Prop) (K2 : Gh → Prop), xs[i]? = some a → a ∈ xs → R i G → (∀ G1, R (i + 1) G1 → K (f a) G1) → g (enc a) env G fun env1 G1 => tt (fun _ _ _ => False) env1 G1 fun b G2 => if b = true then te (fun _ _ _ => False) env1 G2 K else K2 G2)
    (he : ∀ G, R xs.length G → ∀ p G1, G p = none → Sub G G1 → G1 p = some (.lst (xs.map f)) → Q (.ref p) G1) : lcL stay g tt te env Q (xs.map enc) [] G := by
  refine lcL_inv (fun i acc G => acc = (xs.take i).map f ∧ R i G) ⟨by simp, h0⟩ (fun i acc G _ h => hs i G h.2) (fun i d acc G K e hi ⟨ea, r⟩ k => ?_) (fun acc G ⟨ea, r⟩ p hp => he G (by rw [List.length_map] at r; exact r) p _ hp (Sub.new hp) (by rw [ea, List.length_map, List.take_length]; exact gup_same))
  obtain ⟨a, e', rfl⟩ := map_get e
  rw [List.length_map] at hi
  refine ht i a G (fun y G3 => acc.length < sizeLine ∧ K (acc ++ [y]) G3) (K acc) e' (List.mem_of_getElem? e') r fun G1 r1 => ⟨?_, k _ _ ⟨?_, r1⟩⟩
  · rw [ea, List.length_map, List.length_take]; omega
  · rw [ea, List.take_add_one, e']; simp
theorem lcT_filter (enc f : α → DV) (c : α → Bool) (R : Nat → Gh → Prop) (h0 : R 0 G) (hs : ∀ i G, R i G → stay G) (hn : xs.length ≤ sizeLine)
    (ht : ∀ i a G (K : DV → Gh → Prop) (K2 : Gh → Prop), xs[i]? = some a → a ∈ xs → R i G → (c a = true → ∀ G1, R (i + 1) G1 → K (f a) G1) → (c a = false → ∀ G1, R (i + 1) G1 → K2 G1) →
      g (enc a) env G fun env1 G1 => tt (fun _ _ _ => False) env1 G1 fun b G2 => if b = true then te (fun _ _ _ => False) env1 G2 K else K2 G2)
    (he : ∀ G, R xs.length G → ∀ p G1, G p = none → Sub G G1 → G1 p = some (.lst ((xs.filter c).map f)) → Q (.ref p) G1) : lcL stay g tt te env Q (xs.map enc) [] G := by
  refine lcL_inv (fun i acc G => acc = ((xs.take i).filter c).map f ∧ R i G) ⟨by simp, h0⟩ (fun i acc G _ h => hs i G h.2) (fun i d acc G K e hi ⟨ea, r⟩ k => ?_) (fun acc G ⟨ea, r⟩ p hp => he G (by rw [List.length_map] at r; exact r) p _ hp (Sub.new hp) (by rw [ea, List.length_map, List.take_length]; exact gup_same))
  obtain ⟨a, e', rfl⟩ := map_get e
  rw [List.length_map] at hi
  refine ht i a G (fun y G3 => acc.length < sizeLine ∧ K (acc ++ [y]) G3) (K acc) e' (List.mem_of_getElem? e') r (fun hc G1 r1 => ⟨?_, k _ _ ⟨?_, r1⟩⟩) (fun hc G1 r1 => k _ _ ⟨?_, r1⟩)
  · have := List.length_filter_le c (xs.take i)
    rw [ea, List.length_map]
    rw [List.length_take] at this
    omega
  · rw [ea, List.take_add_one, e']; simp [hc]
  · rw [ea, List.take_add_one, e']; simp [hc]
/-- the results are some bs by dec, each such that P -/
theorem lcT_all {β : Type} (enc : α → DV) (dec : β → DV) (P : α → β → Prop) (R : Nat → Gh → Prop) (h0 : R 0 G) (hs : ∀ i G, R i G → stay G) (hn : xs.length ≤ sizeLine)
    (ht : ∀ i a G (K : DV → Gh → Prop) (K2 : Gh → Prop), xs[i]? = some a → a ∈ xs → R i G → (∀ b G1, P a b → R (i + 1) G1 → K (dec b) G1) → g (enc a) env G fun env1 G1 => tt (fun _ _ _ => False) env1 G1 fun b G2 => if b = true then te (fun _ _ _ => False) env1 G2 K else K2 G2)
    (he : ∀ G (bs : List β), R xs.length G → bs.length = xs.length → (∀ (i : Nat) (a : α) (b : β), xs[i]? = some a → bs[i]? = some b → P a b) → ∀ p G1, G p = none → Sub G G1 → G1 p = some (.lst (bs.map dec)) → Q (.ref p) G1) : lcL stay g tt te env Q (xs.map enc) [] G := by
  refine lcL_inv (fun i acc G => (∃ bs : List β, acc = bs.map dec ∧ bs.length = i ∧ ∀ (j : Nat) (a : α) (b : β), xs[j]? = some a → bs[j]? = some b → P a b) ∧ R i G) ⟨⟨[], rfl, rfl, fun j a b _ h => by simp at h⟩, h0⟩ (fun i acc G _ h => hs i G h.2) (fun i d acc G K e hi ⟨⟨bs, ea, el, eb⟩, r⟩ k => ?_)
    (fun acc G ⟨⟨bs, ea, el, eb⟩, r⟩ p hp => he G bs (by rw [List.length_map] at r; exact r) (by rw [el, List.length_map]) eb p _ hp (Sub.new hp) (by rw [← ea]; exact gup_same))
  obtain ⟨a, e', rfl⟩ := map_get e
  rw [List.length_map] at hi
  refine ht i a G (fun y G3 => acc.length < sizeLine ∧ K (acc ++ [y]) G3) (K acc) e' (List.mem_of_getElem? e') r fun b G1 pb r1 => ⟨by rw [ea, List.length_map]; omega, k _ _ ⟨⟨bs ++ [b], by rw [ea]; simp, by simp [el], fun j a' b' h1 h2 => ?_⟩, r1⟩⟩
  by_cases hj : j < bs.length
  · rw [List.getElem?_append_left hj] at h2; exact eb j a' b' h1 h2
  · have : j = bs.length := by
      by_cases hj2 : j = bs.length
      · exact hj2
      · rw [List.getElem?_eq_none (by simp; omega)] at h2; cases h2
    subst this
    rw [List.getElem?_append_right (Nat.le_refl _)] at h2
    simp at h2
    subst h2
    rw [el, e'] at h1
    cases h1
    exact pb
/-- a loop over typed items -/
theorem forT (enc : α → DV) (Inv : Nat → Dv → Gh → Prop) (h0 : Inv 0 env G) (hs : ∀ i env G, Inv i env G → stay G)
    (ht : ∀ i a env G (K : Dv → Gh → Prop), xs[i]? = some a → a ∈ xs → Inv i env G → (∀ e g, Inv (i + 1) e g → K e g) → g (enc a) env G fun env1 G1 => wl { De with nx := K, ct := K, bk := De.nx } env1 G1)
    (he : ∀ env G, Inv xs.length env G → De.nx env G) : forL stay g wl De (xs.map enc) env G := by
  refine forL_inv Inv h0 (fun i env G _ h => hs i env G h) (fun i d env G K e hi p k => ?_) (fun env G p => he env G (by rw [List.length_map] at p; exact p))
  obtain ⟨a, e', rfl⟩ := map_get e
  exact ht i a env G K e' (List.mem_of_getElem? e') p k
end
/-- one of some numbers, by a drawn place -/
theorem pickI {G : Gh} {Q : DV → Gh → Prop} (ns : List Int) (P : Int → Prop) (h : ∀ n ∈ ns, P n) {l : List DV} {e : Addr} {v : Int} (he : G e = some (.lst l)) (hl : l = ns.map DV.int) (h0 : 0 ≤ v) (h1 : v < ns.length) (q : ∀ n, P n → Q (.int n) G) : dIx (.ref e) (.int v) G Q := by
  subst hl
  obtain ⟨x, hx, hm⟩ := atI_ints (l := ns) h0 (by rw [List.length_map]; exact h1)
  exact s_ixL he hx (q x (h x hm))
/-- crosswise sums -/
def dot (a b : List Int) : Int := ((a.zip b).map fun p => p.1 * p.2).sum
theorem dot_nil {b : List Int} : dot [] b = 0 := by simp [dot]
theorem dot_step {a b : List Int} {i : Nat} {p : Int × Int} (h : (a.zip b)[i]? = some p) : (((a.zip b).take (i + 1)).map fun p => p.1 * p.2).sum = (((a.zip b).take i).map fun p => p.1 * p.2).sum + p.1 * p.2 := by
  rw [List.take_add_one, h]
  simp [List.sum_append]
theorem dot_bound {a b : List Int} {A B n : Nat} (ha : ∀ x ∈ a, x.natAbs ≤ A) (hb : ∀ x ∈ b, x.natAbs ≤ B) (hn : a.length ≤ n) : (dot a b).natAbs ≤ n * (A * B) := by
  have z : ∀ x ∈ (a.zip b).map (fun p => p.1 * p.2), x.natAbs ≤ A * B := by
    intro x hx
    obtain ⟨p, hp, rfl⟩ := List.mem_map.mp hx
    have hm := List.of_mem_zip (show (p.1, p.2) ∈ _ from hp)
    rw [Int.natAbs_mul]
    exact Nat.mul_le_mul (ha _ hm.1) (hb _ hm.2)
  refine Nat.le_trans (sum_bound z) (Nat.mul_le_mul_right _ ?_)
  rw [List.length_map, List.length_zip]
  omega
def Sm (l : List Int) : Prop := ∀ x ∈ l, x.natAbs < 2 ^ 2000
theorem Sm.of {l : List Int} {B : Nat} (h : ∀ x ∈ l, x.natAbs ≤ B) (hB : B < 2 ^ 2000) : Sm l := fun x hx => Nat.lt_of_le_of_lt (h x hx) hB
theorem Sm.mul {x y : Int} (hx : x.natAbs < 2 ^ 2000) (hy : y.natAbs < 2 ^ 2000) : MulOk x y := MulOk.of hx hy (by decide) (by decide) (by decide)
theorem fr_ints {k : Nat} {l : List Int} {B : Nat} (hb : B ≤ 590) (h : ∀ x ∈ l, x.natAbs < 2 ^ B) {m : Nat} (hm : l.length ≤ m) : FrL (m * 1) k (l.map PyData.int) :=
  FrL.all (fun d hd => by obtain ⟨x, hx, rfl⟩ := List.mem_map.mp hd; exact Fr.int (h x hx) hb) (by rw [List.length_map]; exact hm)
theorem pd_ints (l : List Int) : (l.map DV.int).map DV.pd = l.map PyData.int := by rw [List.map_map]; congr 1; funext x; simp
theorem pure_ints (l : List Int) : (l.map DV.int).all DV.pure = true := by simp
theorem Fr.shaped {n k : Nat} {d : PyData} (f : Fr n k d) (hk : k ≤ 64 := by decide) : SeqAt.shaped d = true := by
  unfold SeqAt.shaped
  rw [f.lay, decide_eq_true (Nat.le_trans f.flat hk)]; rfl
/-- a sequence: a tuple, or a list that stands -/
def SeqD (G : Gh) (d : DV) (l : List DV) : Prop := d = .tup l ∨ d = .ro l ∨ ∃ a, d = .ref a ∧ G a = some (.lst l)
section
variable {G G1 : Gh} {d : DV} {l : List DV} {Q : DV → Gh → Prop}
theorem SeqD.sub (h : SeqD G d l) (s : Sub G G1) : SeqD G1 d l := by
  rcases h with h | h | ⟨a, h, e⟩
  · exact .inl h
  · exact .inr (.inl h)
  · exact .inr (.inr ⟨a, h, s _ _ e⟩)
theorem SeqD.ne {e : Addr} (h : SeqD G d l) (n : G e = none) : d ≠ .ref e := by
  rcases h with rfl | rfl | ⟨a, rfl, k⟩
  · intro q; cases q
  · intro q; cases q
  · intro q; cases q; rw [n] at k; cases k
theorem SeqD.old {e : Addr} (h : SeqD G d l) (n : d ≠ .ref e) (s : Old e G G1) : SeqD G1 d l := by
  rcases h with h | h | ⟨a, h, k⟩
  · exact .inl h
  · exact .inr (.inl h)
  · exact .inr (.inr ⟨a, h, s _ _ (by rintro rfl; exact n h) k⟩)
theorem SeqD.ix {i : Int} {x : DV} (h : SeqD G d l) (e : L2.atI l i = some x) (q : Q x G) : dIx d (.int i) G Q := by
  rcases h with rfl | rfl | ⟨a, rfl, k⟩
  · exact s_ixT e q
  · exact s_ixR e q
  · exact s_ixL k e q
theorem SeqD.len (h : SeqD G d l) (q : Q (.int l.length) G) : dLen [d] G Q := by
  rcases h with rfl | rfl | ⟨a, rfl, k⟩
  · exact s_lenT q
  · exact s_lenR q
  · exact s_lenL k q
/-- what must stay while it is walked -/
def stays (d : DV) (l : List DV) (G : Gh) : Prop := match d with | .ref a => G a = some (.lst l) | _ => True
theorem SeqD.stays (h : SeqD G d l) : stays d l G := by
  rcases h with rfl | rfl | ⟨a, rfl, k⟩
  · trivial
  · trivial
  · exact k
theorem SeqD.walk {I : List DV → (Gh → Prop) → Gh → Prop} (h : SeqD G d l) (q : I l (DL.stays d l) G) : seqK I d G := by
  rcases h with rfl | rfl | ⟨a, rfl, k⟩
  · exact s_seqT q
  · exact s_seqR q
  · exact s_seqL k q
theorem SeqD.src {S : List DV → (Gh → Prop) → Prop} (h : SeqD G d l) (q : S l (DL.stays d l)) : srcD d G S := by
  rcases h with rfl | rfl | ⟨a, rfl, k⟩
  · exact s_srcT q
  · exact s_srcR q
  · exact s_srcL k q
theorem SeqD.tuple (h : SeqD G d l) (q : Q (.tup l) G) : dTuple [d] G Q := by
  rcases h with rfl | rfl | ⟨a, rfl, k⟩
  · exact s_tupleT q
  · exact s_tupleR q
  · exact s_tupleL k q
theorem SeqD.list (h : SeqD G d l) (q : ∀ p G1, G p = none → Sub G G1 → G1 p = some (.lst l) → Q (.ref p) G1) : dList [d] G Q := by
  rcases h with rfl | rfl | ⟨a, rfl, k⟩
  · exact x_listT q
  · exact x_listR q
  · exact x_listL k q
end
theorem SeqD.t {G : Gh} {l : List DV} : SeqD G (.tup l) l := .inl rfl
theorem SeqD.r {G : Gh} {a : Addr} {l : List DV} (h : G a = some (.lst l)) : SeqD G (.ref a) l := .inr (.inr ⟨a, rfl, h⟩)
theorem at_some {α : Type} {f : α → DV} {l : List α} {i : Nat} {j : Int} (hi : i < l.length) (hj : j = i) : L2.atI (l.map f) j = some (f l[i]) := at_int (List.getElem?_eq_getElem hi) hj
theorem sum_step {α : Type} {l : List α} {i : Nat} {a : α} (f : α → Int) (h : l[i]? = some a) : ((l.take (i + 1)).map f).sum = ((l.take i).map f).sum + f a := by
  rw [List.take_add_one, h]
  simp [List.sum_append]
theorem zip_range {n : Nat} {l : List Int} (g : Nat → Int) (h : Int → Int → Int) (hl : l.length = n) : (((List.range n).map g).zip l).map (fun p => h p.1 p.2) = (List.range n).map fun j => h (g j) (l.getD j 0) := by
  apply List.ext_getElem?
  intro i
  by_cases hi : i < n
  · have e1 : ((List.range n).map g)[i]? = some (g i) := by rw [List.getElem?_map, List.getElem?_range hi]; rfl
    have e2 : l[i]? = some (l.getD i 0) := by rw [List.getD_eq_getElem?_getD, List.getElem?_eq_getElem (by omega)]; rfl
    have e3 : (((List.range n).map g).zip l)[i]? = some (g i, l.getD i 0) := by rw [List.getElem?_zip_eq_some]; exact ⟨e1, e2⟩
    rw [List.getElem?_map, e3, List.getElem?_map, List.getElem?_range hi]; rfl
  · rw [List.getElem?_eq_none (by simp; omega), List.getElem?_eq_none (by simp; omega)]
end DL

namespace DL
open PySem PySem.Spec L2
open PyProof.Rows hiding St

/-! ### a tuple so many times, by any number -/
theorem tuple_mulSame (l : Addr) (items : Array Value) (n : Nat) (dd : Option Addr) (sl : Array (Option Value)) (x : Int) (u : Tok) (c0 : (decide (x < -(2 ^ 63)) || decide (x ≥ 2 ^ 63)) = false) (c1 : (items.isEmpty || x == 1) = true) :
    Meets (Builtin.«tuple.__mul__» ⟨[.ref l, .int x u], []⟩) (fun _ R s => s.heap.get? l = some { cls := .type "tuple", dict := dd, data := .seq items n, slots := sl } ∧ R (.ok (.ret (Value.ref l))) s) :=
  .of_wp fun prog w A R s h => by
    obtain ⟨hp, g, d, tk, os⟩ := s
    obtain ⟨hl, h⟩ := h
    have f1 := AutoSeq1.idx_int
    wp_walk using wpAny_loadPart' hl
    repeat (first
      | (refine wpAny_ite_false (decide_eq_false (by rw [c0]; exact Bool.false_ne_true)) ?_; wp_walk using wpAny_loadPart' hl)
      | (refine wpAny_ite_true (decide_eq_true c1) ?_; wp_walk using wpAny_loadPart' hl))
    exact ⟨_, rfl, h⟩
theorem tuple_mulNone (l : Addr) (items : Array Value) (n : Nat) (dd : Option Addr) (sl : Array (Option Value)) (x : Int) (u : Tok) (c0 : (decide (x < -(2 ^ 63)) || decide (x ≥ 2 ^ 63)) = false) (c1 : (items.isEmpty || x == 1) = false) (c2 : (decide (x ≤ 0) || items.isEmpty) = true) :
    Meets (Builtin.«tuple.__mul__» ⟨[.ref l, .int x u], []⟩) (fun _ R s => s.heap.get? l = some { cls := .type "tuple", dict := dd, data := .seq items n, slots := sl } ∧
      R (.ok (.ret (Value.ref s.heap.objs.size))) { s with heap := s.heap.push { cls := Value.type "tuple", data := Data.seq #[] }, toks := s.toks }) :=
  .of_wp fun prog w A R s h => by
    obtain ⟨hp, g, d, tk, os⟩ := s
    obtain ⟨hl, h⟩ := h
    have f1 := AutoSeq1.idx_int
    wp_walk using wpAny_loadPart' hl
    repeat (first
      | (refine wpAny_ite_false (decide_eq_false (by rw [c0]; exact Bool.false_ne_true)) ?_; wp_walk using wpAny_loadPart' hl)
      | (refine wpAny_ite_false (decide_eq_false (by rw [c1]; exact Bool.false_ne_true)) ?_; wp_walk using wpAny_loadPart' hl)
      | (refine wpAny_ite_true (decide_eq_true c2) ?_; wp_walk using wpAny_loadPart' hl)
      | (refine wpAny_ite_false (decide_eq_false (Nat.not_lt.mpr (Nat.zero_le _))) ?_; wp_walk using wpAny_loadPart' hl))
    exact ⟨_, rfl, h⟩
theorem flat_one {α : Type} (xs : List α) : (List.replicate 1 xs).flatten = xs := by simp
theorem flat_nil {α : Type} (n : Nat) : (List.replicate n ([] : List α)).flatten = [] := by induction n with | zero => rfl | succ n ih => rw [List.replicate_succ, List.flatten_cons, ih]; rfl
section
variable {X : Cx}
def rTimes (K : PySem.W.Frag) : R2 := fun x y H Q => ∃ l k xs, x = .ref l ∧ y = .int k ∧ SqT K H l xs ∧ -1000 ≤ k ∧ k ≤ 1000 ∧ xs.length ≤ 1000 ∧ (xs = [] ∨ k = 1 → Q (.ref l) H) ∧ ∀ p, H p = none → Q (.ref p) (upd H p (.tup (List.replicate k.toNat xs).flatten))
theorem op_times : OpR X (binaryOp .Mult) (rTimes X.K) := by
  intro pins s σ H x y v u Q I rx ry h
  obtain ⟨l, k, xs, rfl, rfl, hT, h1, h2, hz, q1, q⟩ := h
  by_cases same : xs = [] ∨ k = 1 ∨ k ≤ 0
  · cases rx
    obtain ⟨t, rfl⟩ := ry
    obtain ⟨its, r, ⟨⟨cls, dd, data, sl⟩, ho, hc, n, hd⟩, hs⟩ := I.tuple hT
    simp only at hc hd
    subst hc hd
    have c0 : (decide (k < -(2 ^ 63)) || decide (k ≥ 2 ^ 63)) = false := by
      rw [decide_eq_false (by omega), decide_eq_false (by omega)] <;> rfl
    by_cases e1 : xs = [] ∨ k = 1
    · have c1 : (its.toArray.isEmpty || k == 1) = true := by
        rcases e1 with rfl | rfl
        · cases r; rfl
        · simp
      exact wpAny_binaryOp_repeat_ref (T := "tuple") (U := "int") (by decide) ⟨_, ho, rfl⟩ (fun s' => typeIs_int s' k t) noFill_tuple_mul F.fills_int_mul F.slot_int_rmul repeat_tuple F.slot_int_index.lookup
        (call_meets F.slot_int_rmul (typeIs_int s k t) F.entry_int_rmul (F.args_int_rmul_2 _ _) (int_rmul_tuple k t l its.toArray n dd sl)
          ⟨ho, rfl, ⟨_, ho, rfl⟩, call_meets F.slot_tuple_mul ⟨_, ho, rfl⟩ F.entry_tuple_mul (F.args_tuple_mul_2 _ _) (tuple_mulSame l its.toArray n dd sl k t c0 c1) ⟨ho, ⟨.ref l, H, I, rfl, q1 e1⟩⟩⟩)
    · have hk : k ≤ 0 := by
        rcases same with h | h | h
        · exact absurd (.inl h) e1
        · exact absurd (.inr h) e1
        · exact h
      have c1 : (its.toArray.isEmpty || k == 1) = false := by
        have : its ≠ [] := fun z => e1 (.inl (by subst z; cases r; rfl))
        cases its with
        | nil => exact absurd rfl this
        | cons a b => exact beq_eq_false_iff_ne.mpr (by omega)
      have c2 : (decide (k ≤ 0) || its.toArray.isEmpty) = true := by rw [decide_eq_true hk]; rfl
      refine wpAny_binaryOp_repeat_ref (T := "tuple") (U := "int") (by decide) ⟨_, ho, rfl⟩ (fun s' => typeIs_int s' k t) noFill_tuple_mul F.fills_int_mul F.slot_int_rmul repeat_tuple F.slot_int_index.lookup
        (call_meets F.slot_int_rmul (typeIs_int s k t) F.entry_int_rmul (F.args_int_rmul_2 _ _) (int_rmul_tuple k t l its.toArray n dd sl)
          ⟨ho, rfl, ⟨_, ho, rfl⟩, call_meets F.slot_tuple_mul ⟨_, ho, rfl⟩ F.entry_tuple_mul (F.args_tuple_mul_2 _ _) (tuple_mulNone l its.toArray n dd sl k t c0 c1 c2) ⟨ho, ?_⟩⟩)
      have e : (List.replicate k.toNat xs).flatten = [] := by rw [show k.toNat = 0 by omega]; rfl
      have q2 := q _ (I.hok.fresh (Nat.le_refl _))
      rw [e] at q2
      refine ⟨.ref s.heap.objs.size, _, I.laid (t' := s.toks) (o := .tup []) (fun b ob q => Heap.get?_push_of_some _ q) (Nat.le_refl _) ?_, rfl, q2⟩
      exact ⟨Nat.zero_le _, [], .nil, IsTup.new _ _⟩
  · exact op_repT pins s σ H _ _ v u Q I rx ry ⟨l, k, xs, rfl, rfl, hT, fun z => same (.inl z), by omega, h2, hz, q⟩
/-- products: numbers, lists and tuples so many times -/
def dMulA : D2 := fun x y G Q => match x, y with
  | .tup l, .int n => -1000 ≤ n ∧ n ≤ 1000 ∧ l.length ≤ 1000 ∧ Q (.tup (List.replicate n.toNat l).flatten) G
  | x, y => dMul x y G Q
theorem o_mulA : OpD X (binaryOp .Mult) dMulA := by
  rintro pins s σ H x y v u Q I rx ry ⟨dx, dy, G, P, vx, vy, wg, h, k⟩
  unfold dMulA at h
  split at h
  · rename_i l n
    cases vx with
    | tup sq rs =>
      cases vy
      obtain ⟨h1, h2, h3, h⟩ := h
      refine op_times pins s σ H _ _ v u Q I rx ry ⟨_, _, _, rfl, rfl, sq, h1, h2, by rw [rs.len]; exact h3, fun e => ?_, fun p np => ?_⟩
      · have e2 : (List.replicate n.toNat l).flatten = l := by
          rcases e with e | rfl
          · subst e; cases rs; exact flat_nil _
          · exact flat_one _
        rw [e2] at h
        exact op_end wg k h (.tup sq rs)
      · exact k _ _ _ _ h (wg.new np) (Ext.new np) (VR.newT wg np (rs.reps _))
  · exact o_mul pins s σ H x y v u Q I rx ry ⟨dx, dy, G, P, vx, vy, wg, h, k⟩
variable {G : Gh} {Q : DV → Gh → Prop} {l m : List DV} {a b : Int}
theorem s_mulT (h : -1000 ≤ a ∧ a ≤ 1000 ∧ l.length ≤ 1000) (q : Q (.tup (List.replicate a.toNat l).flatten) G) : dMulA (.tup l) (.int a) G Q := ⟨h.1, h.2.1, h.2.2, q⟩
theorem s_mulA (h : MulOk a b) (q : Q (.int (a * b)) G) : dMulA (.int a) (.int b) G Q := ⟨h, q⟩
theorem x_mulL {e : Addr} (he : G e = some (.lst l)) (h : -(2 ^ 63) ≤ a ∧ a < 2 ^ 63 ∧ l.length * a.toNat ≤ sizeLine) (q : ∀ p G1, G p = none → Sub G G1 → G1 p = some (.lst (List.replicate a.toNat l).flatten) → Q (.ref p) G1) : dMul (.ref e) (.int a) G Q := ⟨l, he, h.1, h.2.1, h.2.2, x_new q⟩
theorem x_mulLA {e : Addr} (he : G e = some (.lst l)) (h : -(2 ^ 63) ≤ a ∧ a < 2 ^ 63 ∧ l.length * a.toNat ≤ sizeLine) (q : ∀ p G1, G p = none → Sub G G1 → G1 p = some (.lst (List.replicate a.toNat l).flatten) → Q (.ref p) G1) : dMulA (.ref e) (.int a) G Q := ⟨l, he, h.1, h.2.1, h.2.2, x_new q⟩
theorem flat_int (n : Nat) (x : Int) : (List.replicate n [DV.int x]).flatten = (List.replicate n x).map DV.int := by
  induction n with
  | zero => rfl
  | succ n ih => rw [List.replicate_succ, List.flatten_cons, ih]; rfl

/-! ### list(range(n)) -/
variable {W : WX} {e : Expr} {wr : DA} {wa : DE} {pos p p2 : Pos}
def lrK (Q : DV → Gh → Prop) (d : DV) (G : Gh) : Prop := match d with
  | .int n => (0 ≤ n ∧ n ≤ 1000000) ∧ ∀ p, G p = none → Q (.ref p) (gup G p (.lst (intsFrom 0 n.toNat)))
  | _ => False
def wListRg (wa : DE) : DE := fun Y env G Q => wa Y env G (lrK Q)
theorem rgV_ints {K : PySem.W.Frag} {H : Hp} (n : Int) : VRs K H (rgV 0 n) (intsFrom 0 n.toNat) := by
  have e1 : rgV 0 n = ((List.range n.toNat).map fun i => (0 + (i : Nat) : Int)).map V.int := by unfold rgV; rw [List.map_map, Int.sub_zero]; rfl
  have e2 : intsFrom 0 n.toNat = ((List.range n.toNat).map fun i => (0 + (i : Nat) : Int)).map DV.int := by rw [intsFrom_eq, List.map_map]; rfl
  rw [e1, e2]
  exact VRs.ints _
theorem q_listRg (hm : X.mg "list" = none) (hr : X.mg "range" = none) (hc : X.calm = true) (he : QE X W e wa) (hg : Gl X "list" := by rfl) (hgr : Gl X "range" := by rfl) (na : starEach [.Call (.Name "range" p2) [e] [] pos] X.env = (false, eval (.Call (.Name "range" p2) [e] [] pos) X.env) :: starEach [] X.env := by rfl)
    (na2 : starEach [e] X.env = (false, eval e X.env) :: starEach [] X.env := by rfl) {pos2 : Pos} : QE X W (.Call (.Name "list" p) [.Call (.Name "range" p2) [e] [] pos] [] pos2) (wListRg wa) :=
  ⟨PE.wk (pe_listRg hc hg hm (prg_1 hgr hr he.pe na2) na) fun σ H Q ⟨Y, env, G, P, er, wg, h, k, kx⟩ => ⟨Y, env, G, _, er, wg, h, fun d G1 v H1 h1 w1 x1 r => by
    cases d <;> first | exact h1.elim | skip
    cases r
    obtain ⟨hn, h1⟩ := h1
    exact ⟨_, rfl, RgOk.of_le (Int.le_refl 0) (by omega) (by decide) hn.1, fun q nq => k _ _ _ _ (h1 q (w1.non nq)) (w1.newL nq (rgV_ints _)) (x1.trans (Ext.newC nq)) (.ref q)⟩, kx⟩⟩
variable {Y : DX} {env : Dv}
theorem s_listRg {wa : DE} (q : wa Y env G (lrK Q)) : wListRg wa Y env G Q := q
theorem x_lr {n : Int} (h : 0 ≤ n ∧ n ≤ 1000000) (q : ∀ p G1, G p = none → Sub G G1 → G1 p = some (.lst (intsFrom 0 n.toNat)) → Q (.ref p) G1) : lrK Q (.int n) G := ⟨h, x_new q⟩
end
/-! ### list.insert(i, x) -/
section
variable {X : Cx}
def dInsert : DM := fun x ds G Q => match x, ds with
  | .ref a, [.int i, d] => ∃ l, G a = some (.lst l) ∧ l.length < sizeLine ∧ 0 ≤ i ∧ i < 2 ^ 63 ∧ Q .non (gup G a (.lst (l.take i.toNat ++ [d] ++ l.drop i.toNat)))
  | _, _ => False
theorem m_insert : MtD X "list.insert" dInsert := by
  rintro pins s σ H x xs v us Q I rx rs ⟨dx, ds, G, P, vx, vs, wg, h, k⟩
  match dx, ds, vx, vs, h with
  | .ref a, [.int i, d], .ref _, .cons (.int _) (.cons r .nil), ⟨l, ga, hl, i0, i1, h⟩ =>
    obtain ⟨ys, ha, ra⟩ := wg _ _ ga
    exact mt_insert pins s σ H _ _ v us Q I rx rs ⟨a, ys, i, _, rfl, rfl, ha, by rw [ra.len]; exact hl, i0, i1, k _ _ _ _ h (wg.setL ga (((ra.take _).app (.one r)).app (ra.drop _))) (Ext.setC ga) .non⟩
variable {G : Gh} {Q : DV → Gh → Prop} {l : List DV} {d : DV}
theorem x_insert {e : Addr} {i : Int} (he : G e = some (.lst l)) (h : l.length < sizeLine ∧ 0 ≤ i ∧ i < 2 ^ 63) (q : ∀ G1, Old e G G1 → G1 e = some (.lst (l.take i.toNat ++ [d] ++ l.drop i.toNat)) → Q .non G1) : dInsert (.ref e) [.int i, d] G Q := ⟨l, he, h.1, h.2.1, h.2.2, q _ Old.set gup_same⟩
theorem x_pop {e : Addr} (he : G e = some (.lst l)) (h : l[l.length - 1]? = some d) (q : ∀ G1, Old e G G1 → G1 e = some (.lst l.dropLast) → Q d G1) : dPop (.ref e) [] G Q := ⟨l, d, he, h, q _ Old.set gup_same⟩
theorem x_popAt {e : Addr} {i : Int} {n : Nat} (he : G e = some (.lst l)) (h : -(2 ^ 63) ≤ i ∧ i < 2 ^ 63) (hn : seqIndex? i l.length = some n) (hd : l[n]? = some d) (q : ∀ G1, Old e G G1 → G1 e = some (.lst (l.eraseIdx n)) → Q d G1) : dPop (.ref e) [.int i] G Q := ⟨l, n, d, he, h.1, h.2, hn, hd, q _ Old.set gup_same⟩
end
/-! ### places -/
theorem ixN_lt {n : Nat} {v : Int} (h0 : 0 ≤ v) (h1 : v < n) : ixN n v = some v.toNat := by
  unfold ixN; rw [if_pos h0, if_pos h1]
theorem seqIndex_lt {n : Nat} {v : Int} (h0 : 0 ≤ v) (h1 : v < n) : seqIndex? v n = some v.toNat := (ixN_seq (ixN_lt h0 h1)).1
theorem set_ints {xs : List Int} {j : Nat} {y : Int} : (xs.map DV.int).set j (.int y) = (xs.set j y).map DV.int := by rw [List.map_set]
theorem mem_set_of {α : Type} {xs : List α} {P : α → Prop} {j : Nat} {y : α} (h : ∀ x ∈ xs, P x) (hy : P y) : ∀ x ∈ xs.set j y, P x := fun x hx => by
  rcases List.mem_or_eq_of_mem_set hx with h1 | h1
  · exact h x h1
  · rw [h1]; exact hy
theorem erase_ints {α : Type} {f : α → DV} : ∀ {xs : List α} {j : Nat}, (xs.map f).eraseIdx j = (xs.eraseIdx j).map f
  | [], _ => rfl
  | _ :: _, 0 => rfl
  | x :: xs, j + 1 => by
    show f x :: (xs.map f).eraseIdx j = f x :: (xs.eraseIdx j).map f
    rw [erase_ints]
theorem log_small {m : Int} (h0 : 0 < m) (h : m ≤ 1000000000000) : m.natAbs.log2 < 9000 := by
  refine Nat.lt_of_lt_of_le ((Nat.log2_lt (by omega)).mpr (show m.natAbs < 2 ^ 40 by omega)) (by decide)
section
variable {G : Gh} {Q : DV → Gh → Prop}
/-- one of some things, by a place within -/
theorem pickA {α : Type} (enc : α → DV) (as : List α) {l : List DV} {e : Addr} {v : Int} (he : G e = some (.lst l)) (hl : l = as.map enc) (h0 : 0 ≤ v) (h1 : v < as.length) (q : ∀ a, a ∈ as → Q (enc a) G) : dIx (.ref e) (.int v) G Q := by
  subst hl
  have hj : v.toNat < as.length := by omega
  exact s_ixL he (at_some hj (by omega)) (q _ (List.getElem_mem hj))
theorem x_setI {e : Addr} {xs : List Int} {v y : Int} {U : Gh → Prop} (he : G e = some (.lst (xs.map DV.int))) (h0 : 0 ≤ v) (h1 : v < xs.length) (q : ∀ G1, Old e G G1 → G1 e = some (.lst ((xs.set v.toNat y).map DV.int)) → U G1) : dSet (.ref e) (.int v) (.int y) G U :=
  x_setL he (by rw [List.length_map]; exact ixN_lt h0 h1) set_ints q
end
end DL

namespace DL
open PySem PySem.Spec L2
open PyProof.Rows hiding St

/-! ### dicts with numbers and texts as keys -/
def valD {α : Type} (kvs : List (Key × α)) (k : Key) : Option α := (kvs.find? fun kv => decide (kv.1 = k)).map (·.2)
def putD {α : Type} (kvs : List (Key × α)) (k : Key) (v : α) : List (Key × α) :=
  if (kvs.any fun kv => decide (kv.1 = k)) = true then kvs.map (fun kv => if kv.1 = k then (kv.1, v) else kv) else kvs ++ [(k, v)]
def mergeD {α : Type} (kvs more : List (Key × α)) : List (Key × α) := more.foldl (fun acc kv => putD acc kv.1 kv.2) kvs
def keyD : DV → Option Key
  | .int i => some (.inl i)
  | .str s => some (.inr s)
  | _ => none
def kD : Key → DV
  | .inl i => .int i
  | .inr s => .str s
section
variable {K : PySem.W.Frag} {H : Hp}
theorem KR.len : ∀ {xs : List (Key × V)} {ys : List (Key × DV)}, KR K H xs ys → xs.length = ys.length
  | _, _, .nil => rfl
  | _, _, .cons _ t => by simp [t.len]
theorem KR.val {k : Key} {d : DV} : ∀ {xs : List (Key × V)} {ys : List (Key × DV)}, KR K H xs ys → valD ys k = some d → ∃ v, valV xs k = some v ∧ VR K H v d
  | _, _, .nil, e => by simp [valD] at e
  | _, (_ :: ys'), .cons (k := k') (v := v) (d := d') r t, e => by
    by_cases hk : k' = k
    · subst hk
      simp [valD, List.find?_cons] at e
      subst e
      exact ⟨v, by simp [valV, List.find?_cons], r⟩
    · have e' : valD ys' k = some d := by simpa [valD, List.find?_cons, hk] using e
      obtain ⟨w, h1, h2⟩ := t.val e'
      exact ⟨w, by simpa [valV, List.find?_cons, hk] using h1, h2⟩
theorem KR.isSome {k : Key} : ∀ {xs : List (Key × V)} {ys : List (Key × DV)}, KR K H xs ys → (valV xs k).isSome = (valD ys k).isSome
  | _, _, .nil => rfl
  | _, _, .cons (k := k') r t => by
    by_cases hk : k' = k
    · simp [valV, valD, List.find?_cons, hk]
    · have := t.isSome (k := k)
      simpa [valV, valD, List.find?_cons, hk] using this
theorem KR.any {k : Key} : ∀ {xs : List (Key × V)} {ys : List (Key × DV)}, KR K H xs ys → (xs.any fun kv => decide (kv.1 = k)) = (ys.any fun kv => decide (kv.1 = k))
  | _, _, .nil => rfl
  | _, _, .cons r t => by rw [List.any_cons, List.any_cons, t.any]
theorem KR.app : ∀ {xs us : List (Key × V)} {ys ds : List (Key × DV)}, KR K H xs ys → KR K H us ds → KR K H (xs ++ us) (ys ++ ds)
  | _, _, _, _, .nil, s => s
  | _, _, _, _, .cons r t, s => .cons r (t.app s)
theorem KR.over {k : Key} {v : V} {d : DV} (r : VR K H v d) : ∀ {xs : List (Key × V)} {ys : List (Key × DV)}, KR K H xs ys → KR K H (xs.map fun kv => if kv.1 = k then (kv.1, v) else kv) (ys.map fun kv => if kv.1 = k then (kv.1, d) else kv)
  | _, _, .nil => .nil
  | _, _, .cons (k := k') q t => by
    rw [List.map_cons, List.map_cons]
    by_cases hk : k' = k
    · simp only [hk, if_true]; exact .cons r (t.over r)
    · simp only [hk, if_false]; exact .cons q (t.over r)
theorem KR.put {k : Key} {v : V} {d : DV} {xs : List (Key × V)} {ys : List (Key × DV)} (t : KR K H xs ys) (r : VR K H v d) : KR K H (putK xs k v) (putD ys k d) := by
  unfold putK putD
  rw [t.any (k := k)]
  split
  · exact t.over r
  · exact t.app (.cons r .nil)
theorem KR.merge : ∀ {us : List (Key × V)} {ds : List (Key × DV)} {xs : List (Key × V)} {ys : List (Key × DV)}, KR K H us ds → KR K H xs ys → KR K H (mergeK xs us) (mergeD ys ds)
  | _, _, _, _, .nil, s => s
  | _, _, _, _, .cons r t, s => t.merge (s.put r)
theorem VR.key {v : V} {d : DV} {k : Key} (r : VR K H v d) (h : keyD d = some k) : v = kV k := by
  cases r <;> first | (cases h; rfl) | cases h
/-- pairs -/
inductive PRs (K : PySem.W.Frag) (H : Hp) : List (V × V) → List (DV × DV) → Prop
  | nil : PRs K H [] []
  | cons {x y : V} {a b : DV} {xs : List (V × V)} {ys : List (DV × DV)} : VR K H x a → VR K H y b → PRs K H xs ys → PRs K H ((x, y) :: xs) ((a, b) :: ys)
theorem PRs.keys : ∀ {us : List (V × V)} {kvs : List (Key × DV)}, PRs K H us (kvs.map fun kv => (kD kv.1, kv.2)) → ∃ ws : List (Key × V), us = ws.map (fun kv => (kV kv.1, kv.2)) ∧ KR K H ws kvs
  | _, [], .nil => ⟨[], rfl, .nil⟩
  | _, (k, d) :: kvs, .cons (y := y) r q t => by
    obtain ⟨ws, e, r2⟩ := PRs.keys (kvs := kvs) t
    have : _ = kV k := VR.key (k := k) r (by cases k <;> rfl)
    exact ⟨(k, y) :: ws, by rw [e, this]; rfl, .cons q r2⟩
end
def dPairs : List (DE × DE) → DX → Dv → Gh → (List (DV × DV) → Gh → Prop) → Prop
  | [], _, _, G, Q => Q [] G
  | (k, v) :: r, Y, env, G, Q => k Y env G fun x G1 => v Y env G1 fun y G2 => dPairs r Y env G2 fun ps G3 => Q ((x, y) :: ps) G3
def wDisp (trs : List (DE × DE)) : DE := fun Y env G Q => dPairs trs Y env G fun ps G1 => ∃ kvs : List (Key × DV), ps = kvs.map (fun kv => (kD kv.1, kv.2)) ∧ kvs.length ≤ 15 ∧ ∀ p, G1 p = none → Q (.ref p) (gup G1 p (.dic (mergeD [] kvs)))
section
variable {X : Cx} {W : WX} {pos : Pos}
def TEp (K : PySem.W.Frag) (W : WX) (t : DE × DE) : TE × TE := (TEl K W t.1, TEl K W t.2)
theorem PRs.ext {K : PySem.W.Frag} {G G' : Gh} {H H' : Hp} (w : WG K G H) (x : Ext G H G' H') : ∀ {us : List (V × V)} {ps : List (DV × DV)}, PRs K H us ps → PRs K H' us ps
  | _, _, .nil => .nil
  | _, _, .cons r q t => .cons (r.ext w x) (q.ext w x) (t.ext w x)
theorem pairs_parts {K : PySem.W.Frag} : ∀ (trs : List (DE × DE)) (σ : L2.St) (H : Hp) (Q : List (V × V) → Hp → Prop) (Y : DX) (env : Dv) (G : Gh) (P : List (DV × DV) → Gh → Prop), ER K H σ env → WG K G H → dPairs trs Y env G P →
    (∀ ps G' us H', P ps G' → WG K G' H' → Ext G H G' H' → PRs K H' us ps → Q us H') → XLe K G H Y (fun c d => W c d σ) → tPairs (trs.map (TEp K W)) σ H Q
  | [], σ, H, Q, Y, env, G, P, er, wg, h, k, kx => k [] G [] H h wg Ext.refl .nil
  | (a, b) :: r, σ, H, Q, Y, env, G, P, er, wg, h, k, kx =>
    ⟨Y, env, G, _, er, wg, h, fun x G1 v H1 h1 w1 x1 r1 => ⟨Y, env, G1, _, er.ext wg x1, w1, h1, fun y G2 u H2 h2 w2 x2 r2 =>
      pairs_parts r σ H2 _ Y env G2 _ ((er.ext wg x1).ext w1 x2) w2 h2 (fun ps G3 us H3 h3 w3 x3 r3 => k _ _ _ _ h3 w3 ((x1.trans x2).trans x3) (.cons ((r1.ext w1 x2).ext w2 x3) (r2.ext w2 x3) r3)) ((kx.step x1).step x2), kx.step x1⟩, kx⟩
theorem q_disp {keys : List (Option Expr)} {values : List Expr} {trs : List (DE × DE)} (h : PPs X pos keys values (trs.map (TEp X.K W))) (hall : keys.all (·.isSome) = true := by rfl) (hl : keys.length = values.length := by rfl) (h0 : keys ≠ [] := by intro z; cases z)
    (h15 : keys.length ≤ 15 := by decide) : QE X W (.Dict keys values pos) (wDisp trs) := by
  refine ⟨PE.wk (pe_disp h hall hl h0 h15) ?_⟩
  rintro σ H Q ⟨Y, env, G, P, er, wg, hw, k, kx⟩ p hp
  have x0 : Ext G H G (upd H p (.dK [])) := Ext.new hp
  refine pairs_parts trs σ _ _ Y env G _ (er.ext wg x0) (wg.new hp) hw (fun ps G1 us H1 ⟨kvs, e1, e15, q⟩ w1 x1 r1 => ?_) (kx.step x0)
  subst e1
  obtain ⟨ws, rfl, kr⟩ := PRs.keys r1
  obtain ⟨e2, n2⟩ := x1 p _ upd_same (wg.non hp)
  have wp : WG X.K (gup G1 p (.dic [])) H1 := fun a c e => by
    by_cases ha : a = p
    · subst ha
      rw [gup_same] at e; cases e
      exact ⟨[], e2, .nil⟩
    · rw [gup_ne ha] at e; exact w1 a c e
  have kr2 : KR X.K H1 (mergeK [] ws) (mergeD [] kvs) := kr.merge .nil
  have xp : Ext (gup G1 p (.dic [])) H1 (gup (gup G1 p (.dic [])) p (.dic (mergeD [] kvs))) (upd H1 p (.dK (mergeK [] ws))) := Ext.setC gup_same
  have w2 : WG X.K (gup G1 p (.dic (mergeD [] kvs))) (upd H1 p (.dK (mergeK [] ws))) := by
    have := wp.put (a := p) (c := .dic (mergeD [] kvs)) (o := .dK (mergeK [] ws)) (.inr ⟨_, gup_same⟩) ⟨_, upd_same, kr2.ext wp xp⟩
    rw [gup_gup] at this
    exact this
  refine ⟨e2, ws, rfl, by rw [kr.len]; exact e15, k _ _ _ _ (q p n2) w2 (fun a o e n => ?_) (.ref p)⟩
  have hap : a ≠ p := by rintro rfl; rw [hp] at e; cases e
  have e0 : (upd H p (.dK [])) a = some o := by rw [upd_ne hap]; exact e
  obtain ⟨e3, n3⟩ := x1 a o e0 n
  exact ⟨by rw [upd_ne hap]; exact e3, by rw [gup_ne hap]; exact n3⟩
/-- d[k] -/
def dIxD : D2 := fun x y G Q => match x with
  | .ref a => ∃ kvs k d, G a = some (.dic kvs) ∧ keyD y = some k ∧ valD kvs k = some d ∧ Q d G
  | _ => False
theorem ix_dict (hu : X.A.units + 1 < cLine) : IxR X (fun x y H Q => ∃ a v, x = .ref a ∧ DGet H a y (some v) ∧ Q v H) := by
  intro value slice pins s σ H x y v u Q I rx ry h hs
  obtain ⟨a, z, rfl, g, q⟩ := h
  obtain rfl : v = Value.ref a := rx
  have hT := dict_typeIs I g
  unfold subscriptTail
  refine wpAny_bind ?_
  rw [getitemInPython_of_ne hT.not_modules]
  refine wpAny_bind (wpAny_specialOf hT PySem.F.slot_dict_getitem.lookup ?_)
  have fin : wpAny (model X.prog X.w) X.A (subscripted slice false (.ref a) u) (fun r s₃ => wpAny (model X.prog X.w) X.A (letTemporaryGo value (.ref a) r >>= fun _ => pure r) (EP X pins σ Q) X.xe s₃) X.xe s := by
    rw [hs]
    exact wpAny_operating (wpAny_mono (d_getItem (Q := EP X pins σ Q) hu I g ry fun w' s3 I3 rw' => ⟨z, H, I3, rw', q⟩) (fun r s₃ h₃ => wpAny_bind (wpAny_letTemporaryGo (wpAny_pure h₃))) fun _ _ x => x)
  first
    | exact wpAny_pure (wpAny_bind fin)
    | exact wpAny_bind (wpAny_pure (wpAny_bind fin))
    | exact wpAny_bind fin
theorem o_ixD (hu : X.A.units + 64 < cLine) : IxD X dIxD := by
  rintro value slice pins s σ H x y v u Q I rx ry ⟨dx, dy, G, P, vx, vy, wg, h, k⟩ hs
  cases dx <;> first | exact h.elim | skip
  rename_i a
  cases vx
  obtain ⟨kvs, kk, d, ga, hk, hv, q⟩ := h
  obtain ⟨ws, ha, kr⟩ := wg _ _ ga
  obtain ⟨z, hz, rz⟩ := kr.val hv
  rw [vy.key hk] at ry
  exact ix_dict (by omega) value slice pins s σ H _ _ v u Q I rx ry ⟨a, z, rfl, hz ▸ DGet.k ha, op_end wg k q rz⟩ hs
/-- d[k] = v -/
def dSetDi : D3 := fun o i v G Q => match o with
  | .ref a => ∃ kvs k, G a = some (.dic kvs) ∧ keyD i = some k ∧ kvs.length < sizeLine ∧ Q (gup G a (.dic (putD kvs k v)))
  | _ => False
theorem o_setDi (hu : X.A.units + 64 < cLine) : SetD X dSetDi := by
  rintro pins s σ H o i v ov iv u Q I ro ri rv ⟨dv, dx, dy, G, P, vo, vi, vv, wg, h, k⟩
  cases dv <;> first | exact h.elim | skip
  rename_i a
  cases vo
  obtain ⟨kvs, kk, ga, hk, hl, q⟩ := h
  obtain ⟨ws, ha, kr⟩ := wg _ _ ga
  rw [vi.key hk] at ri
  have kr2 := kr.put (k := kk) vv
  have xp : Ext G H (gup G a (.dic (putD kvs kk dy))) (upd H a (.dK (putK ws kk v))) := Ext.setC ga
  exact set_dict (by omega) pins s σ H _ _ v ov iv u Q I ro ri rv ⟨a, _, rfl, DPut.k ha (by rw [kr.len]; exact hl), k _ _ q (wg.put (.inr ⟨_, ga⟩) ⟨_, upd_same, kr2.ext wg xp⟩) xp⟩
variable {G : Gh} {Q : DV → Gh → Prop} {d y : DV} {e : Addr} {k : Key} {kvs : List (Key × DV)}
theorem s_ixD (he : G e = some (.dic kvs)) (hk : keyD y = some k) (hv : valD kvs k = some d) (q : Q d G) : dIxD (.ref e) y G Q := ⟨kvs, k, d, he, hk, hv, q⟩
theorem x_setDi {i : DV} {U : Gh → Prop} (he : G e = some (.dic kvs)) (hk : keyD i = some k) (hl : kvs.length < sizeLine) (q : ∀ G1, Old e G G1 → G1 e = some (.dic (putD kvs k d)) → U G1) : dSetDi (.ref e) i d G U := ⟨kvs, k, he, hk, hl, q _ Old.set gup_same⟩
variable {Y : DX} {env : Dv} {trs : List (DE × DE)} {wa wb : DE} {R : List (DV × DV) → Gh → Prop}
def dispK (Q : DV → Gh → Prop) (ps : List (DV × DV)) (G1 : Gh) : Prop := ∃ kvs : List (Key × DV), ps = kvs.map (fun kv => (kD kv.1, kv.2)) ∧ kvs.length ≤ 15 ∧ ∀ p, G1 p = none → Q (.ref p) (gup G1 p (.dic (mergeD [] kvs)))
theorem s_disp (q : dPairs trs Y env G (dispK Q)) : wDisp trs Y env G Q := q
theorem s_pairs0 (q : R [] G) : dPairs [] Y env G R := q
theorem s_pairs (q : wa Y env G fun x G1 => wb Y env G1 fun y G2 => dPairs trs Y env G2 fun ps G3 => R ((x, y) :: ps) G3) : dPairs ((wa, wb) :: trs) Y env G R := q
theorem x_disp {ps : List (DV × DV)} (kvs : List (Key × DV)) (h : ps = kvs.map (fun kv => (kD kv.1, kv.2))) (hl : kvs.length ≤ 15) (q : ∀ p G1, G p = none → Sub G G1 → G1 p = some (.dic (mergeD [] kvs)) → Q (.ref p) G1) : dispK Q ps G := ⟨kvs, h, hl, fun p hp => q p _ hp (Sub.new hp) gup_same⟩
end
section
variable {X : Cx} {W : WX} {pos : Pos} {Y : DX} {env : Dv} {G : Gh} {Q : DV → Gh → Prop}
def wDnew : DE := fun _ _ G Q => ∀ p, G p = none → Q (.ref p) (gup G p (.dic []))
theorem q_dnew : QE X W (.Dict [] [] pos) wDnew :=
  ⟨PE.wk pe_dnewK fun σ H Q ⟨Y, env, G, P, er, wg, h, k, kx⟩ p hp => k _ _ _ _ (h p (wg.non hp)) (wg.put (.inl hp) ⟨[], upd_same, .nil⟩) (Ext.newC hp) (.ref p)⟩
theorem x_dnew (q : ∀ p G1, G p = none → Sub G G1 → G1 p = some (.dic []) → Q (.ref p) G1) : wDnew Y env G Q := fun p hp => q p _ hp (Sub.new hp) gup_same
end
theorem Sub.transR {G G1 G2 : Gh} (k : Sub G1 G2) (h : Sub G G1) : Sub G G2 := h.trans k
theorem Sub.ownR {G g g1 : Gh} {e : Addr} (k : Old e g g1) (n : G e = none) (h : Sub G g) : Sub G g1 := h.own n k
theorem none_sub {G G1 : Gh} {e : Addr} (n : G1 e = none) (h : Sub G G1) : G e = none := by
  cases z : G e with
  | none => rfl
  | some u => rw [h _ _ z] at n; cases n
def toK : List (DV × DV) → Option (List (Key × DV))
  | [] => some []
  | (a, b) :: r => match keyD a, toK r with
    | some k, some l => some ((k, b) :: l)
    | _, _ => none
theorem toK_ok : ∀ {ps : List (DV × DV)} {kvs : List (Key × DV)}, toK ps = some kvs → ps = kvs.map (fun kv => (kD kv.1, kv.2))
  | [], _, h => by cases h; rfl
  | (a, b) :: r, kvs, h => by
    unfold toK at h
    cases ka : keyD a with
    | none => rw [ka] at h; cases h
    | some k =>
      cases kr : toK r with
      | none => rw [ka, kr] at h; cases h
      | some l =>
        rw [ka, kr] at h
        cases h
        rw [toK_ok kr]
        have : a = kD k := by cases a <;> first | (cases ka; rfl) | cases ka
        rw [this]; rfl
theorem x_dispR {G : Gh} {Q : DV → Gh → Prop} {ps : List (DV × DV)} {kvs m : List (Key × DV)} (h : toK ps = some kvs) (hm : mergeD [] kvs = m) (hl : kvs.length ≤ 15) (q : ∀ p G1, G p = none → Sub G G1 → G1 p = some (.dic m) → Q (.ref p) G1) : dispK Q ps G := by
  subst hm
  exact x_disp kvs (toK_ok h) hl q
theorem kv_few {α : Type} {l : List α} (h : Nat.ble l.length 1000 = true) : l.length < sizeLine := Nat.lt_of_le_of_lt (Nat.le_of_ble_eq_true h) (by decide)
theorem ne_goneR {G : Gh} {a b : Addr} {c : Cell} (h' : G b = none) (h : G a = some c) : a ≠ b := ne_gone h h'
/-! loops and comprehensions over a written list, turn by turn -/
section
variable {stay : Gh → Prop} {g : DG} {wl : DS} {De : DEnds} {env : Dv} {G : Gh} {tt : DT} {te : DE} {Q : DV → Gh → Prop} {x : DV} {r acc : List DV}
theorem s_lcNil (hs : stay G) (q : ∀ p G1, G p = none → Sub G G1 → G1 p = some (.lst acc) → Q (.ref p) G1) : lcL stay g tt te env Q [] acc G := ⟨hs, fun p hp => q p _ hp (Sub.new hp) gup_same⟩
def lcTl (stay : Gh → Prop) (g : DG) (tt : DT) (te : DE) (env : Dv) (Q : DV → Gh → Prop) (r acc : List DV) (y : DV) (G3 : Gh) : Prop := acc.length < sizeLine ∧ lcL stay g tt te env Q r (acc ++ [y]) G3
theorem s_lcCons (hs : stay G) (q : g x env G fun env1 G1 => tt (fun _ _ _ => False) env1 G1 fun b G2 => if b = true then te (fun _ _ _ => False) env1 G2 (lcTl stay g tt te env Q r acc) else lcL stay g tt te env Q r acc G2) : lcL stay g tt te env Q (x :: r) acc G := ⟨hs, q⟩
theorem s_lcTl {y : DV} {m : List DV} (h : acc.length < sizeLine) (e : acc ++ [y] = m) (q : lcL stay g tt te env Q r m G) : lcTl stay g tt te env Q r acc y G := by subst e; exact ⟨h, q⟩
theorem s_foNil (hs : stay G) (q : De.nx env G) : forL stay g wl De [] env G := ⟨hs, q⟩
theorem s_foCons (hs : stay G) (q : g x env G fun env1 G1 => wl { De with nx := forL stay g wl De r, ct := forL stay g wl De r, bk := De.nx } env1 G1) : forL stay g wl De (x :: r) env G := ⟨hs, q⟩
end
theorem shaped_ints (ns : List Int) : SeqAt.shaped (.list (ns.map PyData.int)) = true := by
  have h1 : PyData.canLayAll0 (ns.map PyData.int) = true := by
    induction ns with
    | nil => rfl
    | cons n r ih => rw [List.map_cons]; simp only [PyData.canLayAll0, PyData.canLay0, ih, Bool.and_true]
  have h2 : PyData.depthAll (ns.map PyData.int) = 0 := by
    clear h1
    induction ns with
    | nil => rfl
    | cons n r ih => rw [List.map_cons]; simp only [PyData.depthAll, PyData.depth, ih, Nat.max_self]
  unfold SeqAt.shaped
  have e1 : (PyData.list (ns.map PyData.int)).canLay0 = true := h1
  have e2 : (PyData.list (ns.map PyData.int)).depth ≤ 64 := by show PyData.depthAll _ + 1 ≤ 64; rw [h2]; decide
  rw [e1, decide_eq_true e2]; rfl
end DL

namespace PySem
open Sem (wp)
open AutoSeq1 (wpAny_loadPart')
/-- enumerate(v): over what begins -/
theorem meets_enumerate_new1 {v : Value} {o : Obj} {H : Heap → Prop} (B : Begins v o H) :
    Meets (Builtin.«enumerate.__new__» ⟨[.type "enumerate", v], []⟩) (fun _ R s => H s.heap ∧
      R (.ok (.ret (.ref (s.heap.push o).objs.size))) { s with heap := (s.heap.push o).push { cls := .type "enumerate", data := .fields #[.none, .bool false, .ref s.heap.objs.size, rawInt 0, .none, .none] } }) :=
  .of_wp fun prog w A R s h => by
    obtain ⟨hp, g, d, tk, os⟩ := s; obtain ⟨h1, h⟩ := h
    have hsub := sub_enumerate
    have q1 : ∀ {A' : Around} {E : Value → Shared → Prop} {Q : Value → Shared → Prop}, Q (.ref hp.objs.size) ⟨hp.push o, g, d, tk, os⟩ → wpAny (model prog w) A' (pyIter v) Q E ⟨hp, g, d, tk, os⟩ :=
      fun q => B.iter prog w _ _ ⟨hp, g, d, tk, os⟩ _ h1 q
    wp_walk using q1
    refine wpAny_stack_any fun st => wpAny_pure ?_
    split
    · rename_i c _ _ _ _ _
      cases (c == Value.type "enumerate")
      · wp_walk using q1
        exact ⟨_, rfl, h⟩
      · wp_walk using q1
        exact ⟨_, rfl, h⟩
    · wp_walk using q1
      exact ⟨_, rfl, h⟩
section
variable {prog : Program} {w : World} {A : Around} {E : Value → Shared → Prop} {s : Shared}
theorem enum_begins1 {v : Value} {o : Obj} {H : Heap → Prop} {Q : Value → Shared → Prop} (B : Begins v o H) (h1 : H s.heap)
    (h : ∀ h', IsEnum h' (s.heap.objs.size + 1) s.heap.objs.size 0 .none → h'.get? s.heap.objs.size = some o → h'.objs.size = s.heap.objs.size + 2 →
      (∀ b o, s.heap.get? b = some o → h'.get? b = some o) → Q (.ref (s.heap.objs.size + 1)) { s with heap := h' }) :
    wpAny (model prog w) A (call (.type "enumerate") [v]) Q E s := by
  refine callType_new F.called_enumerate (by decide) (F.typeCall_enumerate_1 _) (F.newCall_enumerate_1 _) (fun obj => F.args_object_init_2 obj _) F.entry_enumerate_new
    (meets_enumerate_new1 B) ⟨h1, ?_⟩
  have hz : (s.heap.push o).objs.size = s.heap.objs.size + 1 := Heap.size_push ..
  show _ ∧ _
  rw [hz]
  have he : IsEnum ((s.heap.push o).push { cls := .type "enumerate", data := .fields #[.none, .bool false, .ref s.heap.objs.size, rawInt 0, .none, .none] }) (s.heap.objs.size + 1) s.heap.objs.size 0 .none := by
    have := Heap.get?_push_size (s.heap.push o) (o := { cls := .type "enumerate", data := .fields #[.none, .bool false, .ref s.heap.objs.size, rawInt 0, .none, .none] }) rfl
    rw [hz] at this; exact this
  refine ⟨⟨_, he, rfl⟩, h _ he (Heap.get?_push_of_some _ (Heap.get?_push_size _ B.free)) (by rw [Heap.size_push, hz]) fun b o x => Heap.get?_push_of_some _ (Heap.get?_push_of_some _ x)⟩
end
end PySem
namespace DL
open PySem PySem.Spec L2
open PyProof.Rows hiding St
/-- the sequence at a as it stands at each turn, each item in a new pair -/
def IteB (K : PySem.W.Frag) (t : Bool) (a : Addr) : It :=
  ⟨fun i H => ∃ (xs : List V) (x : V), SqB K H t a xs ∧ xs[i]? = some x, fun i H v H' => ∃ T x, v = .ref T ∧ H T = none ∧ H' = upd H T (.tup [.int (i : Nat), x]) ∧ ∀ xs, SqB K H t a xs → xs[i]? = some x, fun i H => ∃ xs : List V, SqB K H t a xs ∧ xs.length = i⟩
theorem turn_enumB {P : Program} {w : World} {K : PySem.W.Frag} {elts : List Expr} {kk : Nat} {tpos : Pos} {t : Bool} {a N : Addr} (la : a < N) :
    Turn P w K (.Tuple elts kk tpos) (IteB K t a) [N + 1, N] (N + 1) (fun i h => (∃ old, IsEnum h (N + 1) N ((0 : Int) + (i : Int)) old) ∧ ItB h t N a i) where
  mem := by simp
  obj := fun i h st c hc => by
    obtain ⟨⟨old, he⟩, h1⟩ := st
    have e' : c = N + 1 ∨ c = N := by simpa using hc
    rcases e' with q | q
    · rw [q]; exact ⟨_, he, fun v q => nomatch q⟩
    · rw [q]; exact h1.obj
  keep := fun i h h' st k => by
    obtain ⟨⟨old, he⟩, h1⟩ := st
    exact ⟨⟨old, k _ (by simp) _ he⟩, h1.at fun o q => k N (by simp) o q⟩
  item := by
    intro X hP hw hK hc i pins s σ H E I hf st hg
    subst hP hw hK
    obtain ⟨he, h1⟩ := st
    obtain ⟨xs, x, hqx, hx⟩ := hg
    obtain ⟨its, rv, p, _, _⟩ := srcB I hqx
    obtain ⟨u, hu, ru⟩ := rv.get hx
    have D1 := drawsB (prog := X.prog) (w := X.w) (A := X.A.in1) (I.ok.hd hc) t N a (Nat.ne_of_lt la) its.toArray
    have l1 : i < its.toArray.size := (List.getElem?_eq_some_iff.mp hu).1
    have W := WalksT.enumFrom 0 D1 (N + 1) (Nat.succ_ne_self N) (fun hm => by
      rcases List.mem_cons.mp hm with h | h
      · exact absurd h (Nat.succ_ne_self N)
      · exact absurd (List.mem_singleton.mp h) (Nat.ne_of_gt (Nat.lt_succ_of_lt la))) (by simp)
    refine thn (wt_item (elts := elts) (k := kk) (pos := tpos) (xs := [.int (i : Nat), x]) W I (fun c hcm => hf c ?_) l1 ⟨he, ⟨h1, p⟩⟩ (fun vals hv => ?_) (by show 2 ≤ sizeLine; decide)) ?_
    · have e' : c = N + 1 ∨ c = N := by simpa using hcm
      rcases e' with q | q <;> rw [q] <;> simp
    · obtain ⟨tk, x1, e1, rfl⟩ := hv
      have q1 : x1 = u := by
        have z : its[i]? = some x1 := by simpa using e1
        rw [hu] at z; exact (Option.some.inj z).symm
      subst q1
      rw [Int.zero_add]
      exact .cons ⟨tk, rfl⟩ (.cons ru .nil)
    · rintro r s1 ⟨v, hr, hgo⟩
      refine ⟨v, hr, thn hgo ?_⟩
      rintro _ s2 ⟨T, I2, rfl, hT, st2⟩
      have nT : H T = none := I.hok.fresh hT
      refine ⟨.ref T, _, I2, rfl, ⟨T, x, rfl, nT, rfl, fun l hl => by rw [SqB.inj I hl hqx]; exact hx⟩, ?_, fun c hcm => ?_⟩
      · obtain ⟨z1, z2⟩ := st2
        exact ⟨z1, z2.1⟩
      · have hlt : c < s.heap.objs.size := by
          have e' : c = N + 1 ∨ c = N := by simpa using hcm
          rcases e' with q | q
          · rw [q]; obtain ⟨_, he⟩ := he; exact Heap.lt_size he
          · rw [q]; obtain ⟨_, e1, _⟩ := h1.obj; exact Heap.lt_size e1
        rw [upd_ne (Nat.ne_of_lt (Nat.lt_of_lt_of_le hlt hT))]
        exact (hf c hcm).1
  done := by
    intro X hP hw hK hc i pins s σ H E I hf st hg
    subst hP hw hK
    obtain ⟨he, h1⟩ := st
    obtain ⟨xs, hqx, hend⟩ := hg
    obtain ⟨its, rv, p, _, _⟩ := srcB I hqx
    have D1 := drawsB (prog := X.prog) (w := X.w) (A := X.A.in1) (I.ok.hd hc) t N a (Nat.ne_of_lt la) its.toArray
    have W := WalksT.enumFrom 0 D1 (N + 1) (Nat.succ_ne_self N) (fun hm => by
      rcases List.mem_cons.mp hm with h | h
      · exact absurd h (Nat.succ_ne_self N)
      · exact absurd (List.mem_singleton.mp h) (Nat.ne_of_gt (Nat.lt_succ_of_lt la))) (by simp)
    have e : i = its.toArray.size := by rw [← hend, List.size_toArray, rv.length]
    subst e
    refine wt_done W I (fun c hcm => hf c ?_) ⟨he, ⟨h1, p⟩⟩
    have e' : c = N + 1 ∨ c = N := by simpa using hcm
    rcases e' with q | q <;> rw [q] <;> simp
  self := fun A i s Q E st h => by
    obtain ⟨⟨_, he⟩, _⟩ := st
    exact wpAny_pyIter_enum he h
def enumL (n : Nat) : List DV → List DV
  | [] => []
  | a :: r => .tup [.int (n : Int), a] :: enumL (n + 1) r
theorem enumL_len : ∀ (l : List DV) (n : Nat), (enumL n l).length = l.length
  | [], n => rfl
  | a :: r, n => by simp [enumL, enumL_len r]
theorem enumL_get : ∀ (l : List DV) (n i : Nat) (d : DV), (enumL n l)[i]? = some d → ∃ x, d = .tup [.int ((n + i : Nat) : Int), x] ∧ l[i]? = some x
  | [], n, i, d, h => by simp [enumL] at h
  | a :: r, n, 0, d, h => by simp [enumL] at h; exact ⟨a, h.symm, rfl⟩
  | a :: r, n, i + 1, d, h => by
    obtain ⟨x, e, e1⟩ := enumL_get r (n + 1) i d (by simpa [enumL] using h)
    exact ⟨x, by rw [e]; congr 3; omega, by simpa using e1⟩
theorem enumL_map {α : Type} (f : α → DV) : ∀ (l : List α) (n : Nat), enumL n (l.map f) = (l.zipIdx n).map fun p => .tup [.int (p.2 : Nat), f p.1]
  | [], n => rfl
  | a :: r, n => by simp [enumL, enumL_map f r, List.zipIdx_cons]
theorem itd_enum {K : PySem.W.Frag} {t : Bool} {a : Addr} {l : List DV} {s1 : Gh → Prop} {G : Gh} {H : Hp} (o1 : SrcOk K t a l s1 G H) : ItD K (IteB K t a) (enumL 0 l) s1 G H where
  go := fun i H1 G1 d wg x st e => by
    obtain ⟨dx, rfl, ex⟩ := enumL_get l 0 i d e
    obtain ⟨xs, qx, rx⟩ := o1.all _ _ wg x st
    obtain ⟨v, ev, rv⟩ := rx.get ex
    refine ⟨⟨xs, v, qx, ev⟩, ?_⟩
    rintro z H' ⟨T, x', rfl, nT, rfl, f1⟩
    have q1 := f1 xs qx
    rw [ev] at q1; cases q1
    rw [Nat.zero_add]
    exact ⟨wg.new nT, Ext.new nT, VR.newT wg nT (.cons (.int _) (.cons rv .nil))⟩
  stop := fun i H1 G1 wg x st hl => by
    obtain ⟨xs, qx, rx⟩ := o1.all _ _ wg x st
    exact ⟨xs, qx, by rw [rx.len, ← hl, enumL_len]⟩
def wiEnumerate1 (wr : DA) : DI := fun Y env G R => wr Y env G fun ds G1 => match ds with
  | [x] => srcD x G1 fun l s1 => R (enumL 0 l) s1 G1
  | _ => False
section
variable {X : Cx} {W : WX} {e : Expr} {wr : DA} {pos p tpos : Pos} {elts : List Expr} {kk : Nat}
theorem qi_enumerate1 (hm : X.mg "enumerate" = none) (ha : QA X W [e] wr) (hg : Gl X "enumerate" := by rfl) (hs : starEach [e] X.env = (false, eval e X.env) :: starEach [] X.env := by rfl) (hpl : (backTo pos (starEach [] X.env)).any (·.1) = false := by rfl) :
    QI X W (.Tuple elts kk tpos) (.Call (.Name "enumerate" p) [e] [] pos) (wiEnumerate1 wr) := by
  refine ⟨⟨?_⟩⟩
  rintro pins s σ H R I ⟨Y, env, G, P, er, wg, hw, k, kx⟩
  refine Call_ (ld_blt I hg hm boot_enumerate (PyProof.Rows.callWith_type1 (thn (ha.pa.run pos pins s σ H (fun vs H1 => ∃ ds G1, VRs X.K H1 vs ds ∧ WG X.K G1 H1 ∧ Ext G H G1 H1 ∧ (match ds with
    | [x] => srcD x G1 fun l s1 => P (enumL 0 l) s1 G1
    | _ => False)) I ⟨Y, env, G, _, er, wg, hw, fun ds G1 vs H1 h1 w1 x1 r1 => ⟨ds, G1, r1, w1, x1, h1⟩, kx⟩) fun us s1 ⟨vs, H1, I1, r1, ds, G1, rs, w1, x1, h1⟩ => ?_) hs hpl))
  match ds, rs, h1 with
  | [dx], .cons rx .nil, h1 =>
    obtain ⟨t1, a, l, st1, rfl, h2, sg1, ok1⟩ := srcD.ok w1 rx h1
    cases r1 with
    | cons ra rr =>
      cases rr
      cases ra
      obtain ⟨xs, qx, _⟩ := ok1.all _ _ w1 Ext.refl sg1
      obtain ⟨its, _, p1, _, la⟩ := srcB I1 qx
      refine enum_begins1 (beginsB t1 a its.toArray) p1 fun h' he h1 hsz hk => wpAny_pyIter_enum he ?_
      have I2 : L2.Inv X pins σ H1 { s1 with heap := h' } := I1.kept (t' := s1.toks) hk
      refine ⟨s1.heap.objs.size + 1, _, _, _, H1, rfl, I2, turn_enumB (t := t1) la, ⟨⟨_, he⟩, ItB.start h1⟩, fun c hcm => ?_, k _ _ _ _ _ h2 w1 x1 (itd_enum ok1)⟩
      have e' : c = s1.heap.objs.size + 1 ∨ c = s1.heap.objs.size := by simpa using hcm
      have hle : s1.heap.objs.size ≤ c := by
        rcases e' with z | z <;> (rw [z]; first | exact Nat.le_refl _ | exact Nat.le_add_right _ _)
      exact I1.fpOk hle (I1.hok.fresh hle)
end
section
variable {wr : DA} {Y : DX} {env : Dv} {G : Gh} {I : List DV → (Gh → Prop) → Gh → Prop} {x : DV}
def enum1K (I : List DV → (Gh → Prop) → Gh → Prop) (ds : List DV) (G1 : Gh) : Prop := match ds with
  | [x] => srcD x G1 fun l s1 => I (enumL 0 l) s1 G1
  | _ => False
theorem s_wiEnum1 (q : wr Y env G (enum1K I)) : wiEnumerate1 wr Y env G I := q
theorem s_enum1 (q : srcD x G fun l s1 => I (enumL 0 l) s1 G) : enum1K I [x] G := q
end
end DL

namespace DL
open PySem PySem.Spec L2
open PyProof.Rows hiding St
theorem Old.subR {t : Addr} {G G1 G2 : Gh} (k : Sub G1 G2) (h : Old t G G1) : Old t G G2 := h.trans k.old
theorem Old.transR {t : Addr} {G G1 G2 : Gh} (k : Old t G1 G2) (h : Old t G G1) : Old t G G2 := h.trans k
theorem Old.ownR2 {t e : Addr} {G G1 G2 : Gh} (k : Old e G1 G2) (n : G e = none) (h : Old t G G1) : Old t G G2 := h.own n k
theorem none_old {G G1 : Gh} {t e : Addr} (n : G1 e = none) (h : Old t G G1) (ne : e ≠ t) : G e = none := by
  cases z : G e with
  | none => rfl
  | some u => rw [h _ _ ne z] at n; cases n
theorem all_rangeA {α : Type} {n : Nat} {bs : List α} {P : α → Prop} (hb : bs.length = (List.range n).length) (h : ∀ (i a : Nat) (b : α), (List.range n)[i]? = some a → bs[i]? = some b → P b) : ∀ b ∈ bs, P b := by
  intro y hy
  obtain ⟨j, hj⟩ := List.mem_iff_getElem?.mp hy
  have hj2 : j < n := by
    have := (List.getElem?_eq_some_iff.mp hj).1
    rw [hb, List.length_range] at this; exact this
  exact h j j y (List.getElem?_range hj2) hj
theorem s_andS {x : Bool} (y : Bool) {A : Prop} {G : Gh} {Q : DV → Gh → Prop} (h : (∀ G', Sub G G' → Q (.bl y) G') → A) (q : ∀ G', Sub G G' → Q (.bl (x && y)) G') : if x = true then A else Q (.bl false) G := by
  cases x
  · exact q _ Sub.refl
  · exact h q
theorem s_orS {x : Bool} (y : Bool) {A : Prop} {G : Gh} {Q : DV → Gh → Prop} (h : (∀ G', Sub G G' → Q (.bl y) G') → A) (q : ∀ G', Sub G G' → Q (.bl (x || y)) G') : if x = true then Q (.bl true) G else A := by
  cases x
  · exact h q
  · exact q _ Sub.refl
theorem zip_getD {n : Nat} {a b : List Int} (h : Int → Int → Int) (ha : a.length = n) (hb : b.length = n) : (a.zip b).map (fun p => h p.1 p.2) = (List.range n).map fun j => h (a.getD j 0) (b.getD j 0) := by
  refine List.ext_getElem (by simp [ha, hb]) fun i x y => ?_
  have hi : i < n := by simpa using y
  simp [List.getD, List.getElem?_eq_getElem (show i < a.length by omega), List.getElem?_eq_getElem (show i < b.length by omega)]
/-- a comprehension over a range -/
theorem lcR_map {n : Nat} {stay : Gh → Prop} {g : DG} {env : Dv} {G : Gh} {tt : DT} {te : DE} {Q : DV → Gh → Prop} (f : Nat → DV) (R : Nat → Gh → Prop) (h0 : R 0 G) (hs : ∀ i G, R i G → stay G) (hn : n ≤ 1000000)
    (ht : ∀ i G (K : DV → Gh → Prop) (K2 : Gh → Prop), i < n → R i G → (∀ G1, R (i + 1) G1 → K (f i) G1) → g (.int (0 + (i : Int))) env G fun env1 G1 => tt (fun _ _ _ => False) env1 G1 fun b G2 => if b = true then te (fun _ _ _ => False) env1 G2 K else K2 G2)
    (he : ∀ G, R n G → ∀ p G1, G p = none → Sub G G1 → G1 p = some (.lst ((List.range n).map f)) → Q (.ref p) G1) : lcL stay g tt te env Q (intsFrom 0 n) [] G := by
  rw [intsFrom_eq]
  refine lcT_map _ f R h0 hs (by rw [List.length_range, sizeLine_eq]; omega) (fun i a G K K2 e me r k => ?_) (fun G r => he G (by rwa [List.length_range] at r))
  obtain ⟨rfl, hi⟩ := range_get e
  exact ht _ _ _ _ hi r k
/-- a comprehension over a range, the results some by dec, each such that P -/
theorem lcR_all {n : Nat} {β : Type} {stay : Gh → Prop} {g : DG} {env : Dv} {G : Gh} {tt : DT} {te : DE} {Q : DV → Gh → Prop} (dec : β → DV) (P : β → Prop) (R : Nat → Gh → Prop) (h0 : R 0 G) (hs : ∀ i G, R i G → stay G) (hn : n ≤ 1000000)
    (ht : ∀ i G (K : DV → Gh → Prop) (K2 : Gh → Prop), i < n → R i G → (∀ b G1, P b → R (i + 1) G1 → K (dec b) G1) → g (.int (0 + (i : Int))) env G fun env1 G1 => tt (fun _ _ _ => False) env1 G1 fun b G2 => if b = true then te (fun _ _ _ => False) env1 G2 K else K2 G2)
    (he : ∀ G (bs : List β), R n G → bs.length = n → (∀ b ∈ bs, P b) → ∀ p G1, G p = none → Sub G G1 → G1 p = some (.lst (bs.map dec)) → Q (.ref p) G1) : lcL stay g tt te env Q (intsFrom 0 n) [] G := by
  rw [intsFrom_eq]
  refine lcT_all _ dec (fun _ b => P b) R h0 hs (by rw [List.length_range, sizeLine_eq]; omega) (fun i a G K K2 e me r k => ?_) (fun G bs r hl hP => he G bs (by rwa [List.length_range] at r) (by rwa [List.length_range] at hl) (all_rangeA hl hP))
  obtain ⟨rfl, hi⟩ := range_get e
  exact ht _ _ _ _ hi r k
/-- the results are some bs by dec, each such that P; all of them -/
theorem lcT_all' {α β : Type} {xs : List α} {stay : Gh → Prop} {g : DG} {env : Dv} {G : Gh} {tt : DT} {te : DE} {Q : DV → Gh → Prop} (enc : α → DV) (dec : β → DV) (P : β → Prop) (R : Nat → Gh → Prop) (h0 : R 0 G) (hs : ∀ i G, R i G → stay G) (hn : xs.length ≤ 1000000)
    (ht : ∀ i a G (K : DV → Gh → Prop) (K2 : Gh → Prop), xs[i]? = some a → a ∈ xs → R i G → (∀ b G1, P b → R (i + 1) G1 → K (dec b) G1) → g (enc a) env G fun env1 G1 => tt (fun _ _ _ => False) env1 G1 fun b G2 => if b = true then te (fun _ _ _ => False) env1 G2 K else K2 G2)
    (he : ∀ G (bs : List β), R xs.length G → bs.length = xs.length → (∀ b ∈ bs, P b) → ∀ p G1, G p = none → Sub G G1 → G1 p = some (.lst (bs.map dec)) → Q (.ref p) G1) : lcL stay g tt te env Q (xs.map enc) [] G := by
  refine lcT_all enc dec (fun _ b => P b) R h0 hs (by rw [sizeLine_eq]; omega) ht (fun G bs r hl hP => he G bs r hl fun y hy => ?_)
  obtain ⟨j, hj⟩ := List.mem_iff_getElem?.mp hy
  have hj2 : j < xs.length := by have := (List.getElem?_eq_some_iff.mp hj).1; omega
  exact hP j _ y (List.getElem?_eq_getElem hj2) hj
/-- a loop over a range -/
theorem forR {n : Nat} {stay : Gh → Prop} {g : DG} {wl : DS} {De : DEnds} {env : Dv} {G : Gh} (Inv : Nat → Dv → Gh → Prop) (h0 : Inv 0 env G) (hs : ∀ i env G, Inv i env G → stay G)
    (ht : ∀ (i : Nat) env G (K : Dv → Gh → Prop), i < n → Inv i env G → (∀ e g, Inv (i + 1) e g → K e g) → g (.int (0 + (i : Int))) env G fun env1 G1 => wl { De with nx := K, ct := K, bk := De.nx } env1 G1)
    (he : ∀ env G, Inv n env G → De.nx env G) : forL stay g wl De (intsFrom 0 n) env G := by
  rw [intsFrom_eq]
  refine forT _ Inv h0 hs (fun i a env G K e me p k => ?_) (fun env G p => he env G (by rwa [List.length_range] at p))
  obtain ⟨rfl, hi⟩ := range_get e
  exact ht _ _ _ _ hi p k
end DL

namespace DL
open PySem PySem.Spec L2
open PyProof.Rows hiding St
/-! ### defs that call themselves -/
def dNo : DF := fun _ _ _ _ => False
theorem FG.no {P : Program} {w : World} {K : PySem.W.Frag} {mg : Str → Option Value} {base : Heap} {k : Nat} {f : Addr} {fd : FuncData} {ps : List Str} {d : DF} (no : ∀ ds G Q Y, d ds G Q Y → False) : FG P w K mg base k f fd ps d :=
  ⟨fun _ _ _ _ h => (no _ _ _ _ h).elim, fun _ _ _ _ _ _ _ _ _ _ _ _ _ _ ⟨_, _, _, _, _, _, h, _⟩ => (no _ _ _ _ h).elim⟩
/-! ### sorted of a list of data -/
section
variable {X : Cx}
theorem each_fun {α β : Type} {R R' : α → β → Prop} : ∀ {vs : List α} {bs : List β}, PySem.W.EachIs R vs bs → (∀ v b, b ∈ bs → R v b → R' v b) → PySem.W.EachIs R' vs bs
  | _, _, .nil, _ => .nil
  | _, _, .cons h t, f => .cons (f _ _ (by simp) h) (each_fun t fun v b hb => f v b (by simp [hb]))
theorem each_of {K : PySem.W.Frag} {H : Hp} : ∀ {xs : List V} {us : List Value} {ps : List (DV × PyData)}, VRs K H xs (ps.map Prod.fst) → Vals xs us → PySem.W.EachIs (fun u b => ∃ x, VR K H x b.1 ∧ RelV x u) us ps
  | _, _, [], r, v => by cases r; cases v; exact .nil
  | _, _, p :: ps, r, v => by
    cases r with
    | cons r1 rs =>
      cases v with
      | cons v1 vs => exact .cons ⟨_, r1, v1⟩ (each_of rs vs)
theorem of_each {K : PySem.W.Frag} {H : Hp} : ∀ {us : List Value} {ps : List (DV × PyData)}, PySem.W.EachIs (fun u b => ∃ x, VR K H x b.1 ∧ RelV x u) us ps → ∃ xs, VRs K H xs (ps.map Prod.fst) ∧ Vals xs us
  | _, _, .nil => ⟨[], .nil, .nil⟩
  | _, _, .cons ⟨x, r, v⟩ t => by
    obtain ⟨xs, rs, vs⟩ := of_each t
    exact ⟨x :: xs, .cons r rs, .cons v vs⟩
/-- the items' data -/
def dSorted : DC := fun ds G Q => match ds with
  | [.ref a] => ∃ ps : List (DV × PyData), G a = some (.lst (ps.map Prod.fst)) ∧ (∀ p ∈ ps, DR G p.1 p.2) ∧ PySem.W.AllAlike (ps.map Prod.snd) ∧ PySem.W.Sortable (ps.map Prod.snd) ∧ (∀ p ∈ ps, p.2.depth ≤ 60) ∧
      ∀ p, G p = none → Q (.ref p) (gup G p (.lst ((ps.mergeSort (PySem.W.dataLe false Prod.snd)).map Prod.fst)))
  | _ => False
theorem c_sorted (hu : X.A.units + 64 < cLine) : CallD X (.builtin "sorted") dSorted := by
  rintro pins s σ H xs us Q I rs ⟨ds, G, P, vs, wg, h, k⟩
  match ds, vs, h with
  | [.ref a], .cons (.ref _) .nil, ⟨ps, ga, hr, hal, hso, hdp, h⟩ =>
    obtain ⟨ys, ha, rr⟩ := wg _ _ ga
    obtain ⟨its, rv, hl, hz⟩ := I.list (SqL.of ha)
    rw [Vals.ref1 rs]
    have hlen : ps.length ≤ sizeLine := by
      have := rr.len
      rw [List.length_map] at this
      omega
    have e := each_of (ps := ps) rr rv
    refine PySem.W.sorted_data (R := fun u b => ∃ x, VR X.K H x b.1 ∧ RelV x u) hl.isList e (each_fun e ?_) hal hso hlen ?_ ?_
    · rintro u b hb ⟨x, r, v⟩
      exact Dp.reads I b.2 x u ((hr b hb).dp wg r) v
    · intro b hb
      have := hdp b hb
      omega
    · intro out hout eo
      obtain ⟨zs, rz, vz⟩ := of_each eo
      have hn : H (s.heap.objs.size + 1) = none := I.hok.fresh (Nat.le_succ _)
      obtain ⟨n, hn2⟩ := PyProof.Rows.sortedAll_at s.heap its (List.toArray out)
      have hzl : zs.length ≤ sizeLine := by rw [vz.length, hout]; exact hlen
      have J : Inv X pins σ (upd H (s.heap.objs.size + 1) (.lst zs)) { s with heap := PyProof.Rows.sortedAll s.heap its (List.toArray out), toks := s.toks } :=
        I.laid (t' := s.toks) (fun b o e => PyProof.Rows.sortedAll_old e) (Nat.le_succ _) ⟨hzl, out, n, vz, hn2⟩
      refine ⟨.ref _, _, J, rfl, ?_⟩
      exact k _ _ _ _ (h _ (wg.non hn)) (wg.newL hn rz) (Ext.newC hn) (.ref _)
theorem perm_map_inv {α β : Type} (f : α → β) {l l' : List β} (h : l.Perm l') : ∀ {xs : List α}, l' = xs.map f → ∃ ys : List α, ys.Perm xs ∧ l = ys.map f := by
  induction h with
  | nil => intro xs e; exact ⟨[], by cases xs with | nil => exact .nil | cons => simp at e, rfl⟩
  | cons x _ ih =>
    intro xs e
    cases xs with
    | nil => simp at e
    | cons a xs =>
      rw [List.map_cons] at e
      cases e
      obtain ⟨ys, hp, rfl⟩ := ih rfl
      exact ⟨a :: ys, hp.cons a, rfl⟩
  | swap x y l =>
    intro xs e
    match xs, e with
    | a :: b :: xs, e =>
      rw [List.map_cons, List.map_cons] at e
      cases e
      exact ⟨b :: a :: xs, .swap a b xs, rfl⟩
  | trans _ _ ih1 ih2 =>
    intro xs e
    obtain ⟨ys, hp, rfl⟩ := ih2 e
    obtain ⟨zs, hq, rfl⟩ := ih1 rfl
    exact ⟨zs, hq.trans hp, rfl⟩
theorem x_sortedT {α : Type} {G : Gh} {Q : DV → Gh → Prop} {e : Addr} (enc : α → DV) (key : α → PyData) {xs : List α} (he : G e = some (.lst (xs.map enc))) (hp : ∀ a ∈ xs, DR G (enc a) (key a)) (hal : ∀ a ∈ xs, ∀ b ∈ xs, PySem.W.alike (key a) (key b) = true)
    (hso : PySem.W.Sortable (xs.map key)) (hd : ∀ a ∈ xs, (key a).depth ≤ 60) (q : ∀ (ys : List α) p G1, ys.Perm xs → ys.Pairwise (fun a b => PySem.W.dataLe false key a b = true) → G p = none → Sub G G1 → G1 p = some (.lst (ys.map enc)) → Q (.ref p) G1) : dSorted [.ref e] G Q := by
  refine ⟨xs.map fun a => (enc a, key a), by rw [he, List.map_map]; rfl, ?_, ?_, by rw [List.map_map]; exact hso, ?_, fun p np => ?_⟩
  · intro p h
    obtain ⟨a, ha, rfl⟩ := List.mem_map.mp h
    exact hp a ha
  · intro d h d' h'
    rw [List.map_map] at h h'
    obtain ⟨a, ha, rfl⟩ := List.mem_map.mp h
    obtain ⟨b, hb, rfl⟩ := List.mem_map.mp h'
    exact hal a ha b hb
  · intro p h
    obtain ⟨a, ha, rfl⟩ := List.mem_map.mp h
    exact hd a ha
  · have tot : PySem.W.TotalLe (PySem.W.dataLe false (Prod.snd : DV × PyData → PyData)) := PySem.W.sortLe_total _ false _
    have hs := List.pairwise_mergeSort (le := PySem.W.dataLe false (Prod.snd : DV × PyData → PyData)) tot.trans (fun a b => by rw [Bool.or_eq_true]; exact tot.total a b) (xs.map fun a => (enc a, key a))
    obtain ⟨ys, py, ey⟩ := perm_map_inv (fun a => (enc a, key a)) (List.mergeSort_perm (xs.map fun a => (enc a, key a)) (PySem.W.dataLe false Prod.snd)) rfl
    rw [ey] at hs ⊢
    rw [List.map_map]
    refine q ys p _ py ?_ np (Sub.new np) gup_same
    exact List.pairwise_map.mp hs
theorem sort_unique {α : Type} {le : α → α → Bool} (anti : ∀ a b, le a b = true → le b a = true → a = b) {l l' : List α} (p : l.Perm l') (h : l.Pairwise (fun a b => le a b = true)) (h' : l'.Pairwise (fun a b => le a b = true)) : l = l' :=
  List.Perm.eq_of_pairwise (fun a b _ _ => anti a b) h h' p
end
/-! ### tuple(range(n)) -/
section
variable {X : Cx} {W : WX} {e : Expr} {wa : DE} {pos p p2 : Pos} {G : Gh} {Q : DV → Gh → Prop} {Y : DX} {env : Dv}
def trK (Q : DV → Gh → Prop) (d : DV) (G : Gh) : Prop := match d with
  | .int n => (0 ≤ n ∧ n ≤ 1000000) ∧ Q (.tup (intsFrom 0 n.toNat)) G
  | _ => False
def wTupRg (wa : DE) : DE := fun Y env G Q => wa Y env G (trK Q)
theorem q_tupRg (hm : X.mg "tuple" = none) (hr : X.mg "range" = none) (hc : X.calm = true) (he : QE X W e wa) (hg : Gl X "tuple" := by rfl) (hgr : Gl X "range" := by rfl) (na : starEach [.Call (.Name "range" p2) [e] [] pos] X.env = (false, eval (.Call (.Name "range" p2) [e] [] pos) X.env) :: starEach [] X.env := by rfl)
    (na2 : starEach [e] X.env = (false, eval e X.env) :: starEach [] X.env := by rfl) {pos2 : Pos} : QE X W (.Call (.Name "tuple" p) [.Call (.Name "range" p2) [e] [] pos] [] pos2) (wTupRg wa) :=
  ⟨PE.wk (pe_tupRg hc hg hm (prg_1 hgr hr he.pe na2) na) fun σ H Q ⟨Y, env, G, P, er, wg, h, k, kx⟩ => ⟨Y, env, G, _, er, wg, h, fun d G1 v H1 h1 w1 x1 r => by
    cases d <;> first | exact h1.elim | skip
    cases r
    obtain ⟨hn, h1⟩ := h1
    exact ⟨_, rfl, RgOk.of_le (Int.le_refl 0) (by omega) (by decide) hn.1, fun q nq => k _ _ _ _ h1 (w1.new nq) (x1.trans (Ext.new nq)) (VR.newT w1 nq (rgV_ints _))⟩, kx⟩⟩
theorem s_tupRg {wa : DE} (q : wa Y env G (trK Q)) : wTupRg wa Y env G Q := q
theorem x_tr {n : Int} (h : 0 ≤ n ∧ n ≤ 1000000) (q : Q (.tup (intsFrom 0 n.toNat)) G) : trK Q (.int n) G := ⟨h, q⟩
end
/-! ### targets within targets -/
def LiveGs (gs : DGs) : Prop := ∀ ds env G (P : Dv → Gh → Prop), gs ds env G P → ∃ e g', P e g'
theorem liveGs_nil : LiveGs wgNil := fun ds env G P h => by
  cases ds with
  | nil => exact ⟨_, _, h⟩
  | cons => exact h.elim
theorem liveGs_cons {g : DG} {gs : DGs} (l : LiveG g) (l2 : LiveGs gs) : LiveGs (wgCons g gs) := fun ds env G P h => by
  cases ds with
  | nil => exact h.elim
  | cons d ds => obtain ⟨e, g', q⟩ := l _ _ _ _ h; exact l2 _ _ _ _ q
theorem liveG_tup {gs : DGs} (l : LiveGs gs) : LiveG (wgTup gs) := fun d env G P h => by
  cases d <;> first | exact h.elim | skip
  exact l _ _ _ _ h
/-! ### the module's own values -/
def ConstAt (K : PySem.W.Frag) (mg : Str → Option Value) (x : Str) (d : DV) : Prop := ∃ u v, mg x = some u ∧ RelV v u ∧ ∀ H, VR K H v d
section
variable {X : Cx} {W : WX} {x : Str} {d : DV} {pos : Pos} {K : PySem.W.Frag} {mg : Str → Option Value}
theorem q_cst (C : ConstAt X.K X.mg x d) (hg : Gl X x := by rfl) (hd : (x == ("__debug__" : Str)) = false := by decide) : QE X W (.Name x pos) (wC d) := by
  obtain ⟨u, v, hm, r, hv⟩ := C
  exact ⟨PE.wk (pe_glob hg hm r hd) fun σ H Q ⟨Y, env, G, P, er, wg, h, k, kx⟩ => k d G v H h wg Ext.refl (hv H)⟩
theorem ConstAt.int {i : Int} {t : Tok} (h : mg x = some (.int i t)) : ConstAt K mg x (.int i) := ⟨_, .int i, h, ⟨t, rfl⟩, fun H => .int i⟩
theorem ConstAt.str {z : Str} {t : Tok} (h : mg x = some (.str z t)) : ConstAt K mg x (.str z) := ⟨_, .str z, h, ⟨t, rfl⟩, fun H => .str z⟩
theorem ConstAt.tupS {a : Addr} {o : Obj} {its : Array Value} {n : Nat} (ss : List Str) (h : mg x = some (.ref a)) (l : K.lookup a = some o) (hc : o.cls = .type "tuple") (hd : o.data = .seq its n) (hz : its.size ≤ 1000) (hv : Vals (ss.map V.str) its.toList) : ConstAt K mg x (.tup (ss.map .str)) :=
  ⟨_, .ref a, h, rfl, fun H => .tup (.inr ⟨o, its, n, l, hc, hd, by rw [sizeLine_eq]; omega, hv⟩) (VRs.strs ss)⟩
end
theorem cut_mid {α : Type} {l : List α} {a b : Nat} : cutL l (some (a : Int)) (some (b : Int)) = (l.drop a).take (b - a) := by
  unfold cutL
  rw [HT.sIx_nat, HT.sIx_nat]
  rcases Nat.le_total a l.length with h1 | h1
  · rw [Nat.min_eq_left h1]
    rcases Nat.le_total b l.length with h2 | h2
    · rw [Nat.min_eq_left h2]
    · rw [Nat.min_eq_right h2, List.take_of_length_le (by rw [List.length_drop]; omega), List.take_of_length_le (by rw [List.length_drop]; omega)]
  · rw [Nat.min_eq_right h1, List.drop_length, List.drop_eq_nil_of_le h1]; simp
end DL

namespace RevT
open PySem PyProof.Rows HT
variable {prog : Program} {w : World} {A : Around} {E : Value → Shared → Prop} {s : Shared}
theorem fmc {α β : Type} {f g : α → Option β} : ∀ {l : List α}, (∀ x ∈ l, f x = g x) → l.filterMap f = l.filterMap g
  | [], _ => rfl
  | a :: l, h => by
    rw [List.filterMap_cons, List.filterMap_cons, h a (by simp), fmc fun x hx => h x (by simp [hx])]
theorem pick_rev (xs : Array Value) : (((List.range xs.size).filterMap fun (k : Nat) => xs[(((xs.size : Int) - 1) + (k : Int) * (-1)).toNat]?).toArray) = xs.toList.reverse.toArray := by
  congr 1
  have e : (List.range xs.size).filterMap (fun (k : Nat) => xs[(((xs.size : Int) - 1) + (k : Int) * (-1)).toNat]?) = ((List.range xs.size).map fun k => xs.size - 1 - k).filterMap (xs[·]?) := by
    rw [List.filterMap_map]
    refine fmc fun k hk => ?_
    have := List.mem_range.mp hk
    show _ = xs[xs.size - 1 - k]?
    congr 1
    omega
  rw [e, PySem.W.krv_range, List.filterMap_reverse, PySem.W.krv_all]
theorem places_rev (n : Nat) : Builtin.Slice.slicePlaces ((n : Int) - 1) (-1) (-1) = n := by
  unfold Builtin.Slice.slicePlaces
  have h1 : ¬ ((-1 : Int) > 0) := by omega
  simp only [h1, if_false]
  rw [show (- -1 : Int) = 1 by decide, Int.ediv_one]
  split <;> omega
theorem sliceApplied_rev {sl : Addr} {vl vu vs : Value} {n : Nat} {Q : Int × Int × Nat → Shared → Prop} (hs : s.heap.IsSliceOf sl vl vu vs) (pl : IsPart vl none) (pu : IsPart vu none) (ps : IsPart vs (some (-1)))
    (h : Q ((n : Int) - 1, -1, n) s) : wpAny (model prog w) A (Builtin.Slice.sliceApplied (.ref sl) (pure (n : Int))) Q E s := by
  obtain ⟨os, hos, hcs, hds⟩ := id hs
  unfold Builtin.Slice.sliceApplied Builtin.Slice.sliceFields
  refine wpAny_bind (wpAny_bind (wpAny_field hos hds (x := vl) rfl (wpAny_bind (wpAny_field hos hds (x := vu) rfl (wpAny_bind (wpAny_field hos hds (x := vs) rfl (wpAny_pure ?_)))))))
  refine wpAny_bind (slicePart_ ps ?_)
  show wpAny _ _ (if ((-1 : Int) == 0) = true then _ else _) _ _ s
  rw [if_neg (by decide)]
  refine wpAny_bind (slicePart_ pl (wpAny_bind (slicePart_ pu (wpAny_bind (wpAny_pure ?_)))))
  show wpAny _ _ (pure (((n : Int) - 1), (-1 : Int), Builtin.Slice.slicePlaces ((n : Int) - 1) (-1) (-1))) _ _ s
  rw [places_rev]
  exact wpAny_pure h
theorem getItem_tuple_rev {t sl : Addr} {items : Array Value} {vl vu vs : Value} {Q : Value → Shared → Prop} (ht : IsTup s.heap t items) (hs : s.heap.IsSliceOf sl vl vu vs) (pl : IsPart vl none) (pu : IsPart vu none) (ps : IsPart vs (some (-1)))
    (h : Q (.ref s.heap.objs.size) { s with heap := s.heap.push { cls := .type "tuple", data := .seq items.toList.reverse.toArray } })
    (hsz : items.size ≤ sizeLine) : wpAny (model prog w) A (getItem (.ref t) (.ref sl)) Q E s := by
  have htake : sizeOk (.seq items.toList.reverse.toArray) := by
    show items.toList.reverse.toArray.size ≤ sizeLine
    rw [List.size_toArray, List.length_reverse, Array.length_toList]
    exact hsz
  obtain ⟨os, hos, hcs, hds⟩ := id hs
  have hTs : s.TypeIs (.ref sl) "slice" := ⟨os, hos, hcs⟩
  unfold getItem
  try with_reducible refine wpAny_holding ?_
  first | refine wpAny_bind (wpAny_pure ?_) | skip
  refine wpAny_bind (wpAny_sequenceKey ht.typeIs (by decide) ?_)
  refine wpAny_bind (wpAny_callSpecial?_slot (name := Str.ofString "__getitem__") ht.typeIs PyProof.Rows.slot_tuple_getitem
    (wpAny_call_entry PyProof.Rows.slot_tuple_getitem ht.typeIs entry_tuple_getitem ?_ (args_tuple_getitem _ _)))
  show wpAny _ _ (Builtin.Tuple.tupleItemsOf (.ref t) >>= _) _ _ s
  refine wpAny_bind (tupleItemsOf_ ht ?_)
  refine wpAny_bind (wpAny_typeOf hTs ?_)
  rw [if_pos (by decide)]
  refine wpAny_bind (sliceApplied_rev hs pl pu ps ?_)
  have hno : ¬ ((((items.size : Int) - 1) == 0 && (-1 : Int) == 1 && items.size == items.size) = true) := by
    intro q
    rw [Bool.and_eq_true, Bool.and_eq_true] at q
    exact absurd q.1.2 (by decide)
  show wpAny _ _ (if (((items.size : Int) - 1) == 0 && (-1 : Int) == 1 && items.size == items.size) = true then _ else _) _ _ s
  rw [if_neg hno, pick_rev]
  first
    | exact wpAny_bind (m := Builtin.Tuple.tupleExact _) (wpAny_newObj_type (wpAny_pure ⟨_, rfl, wpAny_pure h⟩) htake)
    | exact wpAny_bind (m := Builtin.Tuple.tupleExact _) (wpAny_newObj_type (wpAny_bind (wpAny_pure (wpAny_pure ⟨_, rfl, wpAny_pure h⟩))) htake)
    | exact wpAny_bind (wpAny_bind (m := Builtin.Tuple.tupleExact _) (wpAny_newObj_type (wpAny_pure (wpAny_pure ⟨_, rfl, wpAny_pure h⟩)) htake))
    | exact wpAny_bind (wpAny_bind (m := Builtin.Tuple.tupleExact _) (wpAny_newObj_type (wpAny_pure ⟨_, rfl, wpAny_pure h⟩) htake))
end RevT
namespace L2
open PySem PySem.Spec PyProof.Rows
section
variable {X : Cx}
/-- xs[::-1] of a list or a tuple -/
def tRevA (K : PySem.W.Frag) (te : TE) : TE := fun σ H Q => te σ H fun x H1 => (∃ a xs, x = .ref a ∧ SqL K H1 a xs ∧ ∀ p, H1 p = none → Q (.ref p) (upd H1 p (.lst xs.reverse))) ∨ (∃ a xs, x = .ref a ∧ SqT K H1 a xs ∧ ∀ p, H1 p = none → Q (.ref p) (upd H1 p (.tup xs.reverse)))
theorem pe_revA {e : Expr} {te : TE} {k : Nat} {p1 p2 p3 pos : Pos} (he : PE X e te) : PE X (.Subscript e (.Slice none none (some (.UnaryOp .USub (.Constant (.int 1) k p1) p2)) p3) pos) (tRevA X.K te) := by
  refine ⟨fun pins s σ H Q I h => ?_⟩
  refine Subscript_ (thn (he.run pins s σ H _ I h) fun v s1 ⟨x, H1, I1, r1, q1⟩ => ?_)
  have hst : PO X (some (.UnaryOp .USub (.Constant (.int 1) k p1) p2)) (tPart (tUn (rU fun i => .int (-i)) (tC (.int 1)))) := po_some (pe_un un_neg pe_int)
  refine wpAny_Slice (thn (po_none.run pins s1 σ H1 (fun o H2 => o = none ∧ H2 = H1) I1 ⟨rfl, rfl⟩) fun vl s2 ⟨l, H2, I2, pl, el, e2⟩ => ?_)
  subst el e2
  refine thn (po_none.run pins s2 σ H2 (fun o H3 => o = none ∧ H3 = H2) I2 ⟨rfl, rfl⟩) fun vu s3 ⟨u, H3, I3, pu, eu, e3⟩ => ?_
  subst eu e3
  refine thn (hst.run pins s3 σ H3 (fun o H4 => o = some (-1) ∧ H4 = H3) I3 ⟨1, rfl, -1, rfl, rfl, rfl⟩) fun vs s4 ⟨o, H4, I4, ps, eo, e4⟩ => ?_
  subst eo e4
  have I5 : Inv X pins σ H4 { s4 with heap := s4.heap.push { cls := .type "slice", data := .fields #[vl, vu, vs] } } := I4.kept (t' := s4.toks) fun b ob q => Heap.get?_push_of_some _ q
  rcases q1 with ⟨a, xs, ex, hx, q⟩ | ⟨a, xs, ex, hx, q⟩
  · subst ex
    cases r1
    obtain ⟨its, r, ht, hz⟩ := I5.list hx
    have hlen := r.length
    show wpAny (model X.prog X.w) X.A (subscriptTail e (.Slice none none (some (.UnaryOp .USub (.Constant (.int 1) k p1) p2)) p3) (.ref a) (.ref s4.heap.objs.size)) (EP X pins σ Q) X.xe { s4 with heap := s4.heap.push { cls := .type "slice", data := .fields #[vl, vu, vs] } }
    refine tail_any (ops := [.ref a, .ref s4.heap.objs.size]) ht.isList.typeIs (PySem.slot_list_getitem.lookup) ?_ (by with_unfolding_all rfl)
    refine wpAny_getItem_list_slice ht.isList (Heap.IsSliceOf.new _ vl vu vs) pl pu ps (by decide) ?_ (by rw [List.size_toArray]; omega)
    rw [PySem.W.krv_pick]
    refine ⟨.ref _, _, I5.laid (t' := s4.toks) (o := .lst xs.reverse) (fun b ob q => Heap.get?_push_of_some _ q) (Nat.le_refl _) ?_, rfl, q _ (I5.hok.fresh (Nat.le_refl _))⟩
    exact ⟨by rw [List.length_reverse]; exact hz, _, 0, r.reverse, Heap.get?_push_size _ rfl⟩
  · subst ex
    cases r1
    obtain ⟨its, r, ht, hz⟩ := I5.tuple hx
    have hlen := r.length
    show wpAny (model X.prog X.w) X.A (subscriptTail e (.Slice none none (some (.UnaryOp .USub (.Constant (.int 1) k p1) p2)) p3) (.ref a) (.ref s4.heap.objs.size)) (EP X pins σ Q) X.xe { s4 with heap := s4.heap.push { cls := .type "slice", data := .fields #[vl, vu, vs] } }
    refine tail_any (ops := [.ref a, .ref s4.heap.objs.size]) ht.typeIs (PyProof.Rows.slot_tuple_getitem.lookup) ?_ (by with_unfolding_all rfl)
    refine RevT.getItem_tuple_rev ht (Heap.IsSliceOf.new _ vl vu vs) pl pu ps ?_ (by rw [List.size_toArray]; omega)
    refine ⟨.ref _, _, I5.laid (t' := s4.toks) (o := .tup xs.reverse) (fun b ob q => Heap.get?_push_of_some _ q) (Nat.le_refl _) ?_, rfl, q _ (I5.hok.fresh (Nat.le_refl _))⟩
    exact ⟨by rw [List.length_reverse]; exact hz, _, r.reverse, IsTup.new _ _⟩
/-- xs == [] -/
theorem op_eqNil (hu : X.A.units + 64 < cLine) : OpR X (compareOp .Eq) (fun x y H Q => ∃ a b xs, x = .ref a ∧ y = .ref b ∧ SqL X.K H a xs ∧ SqL X.K H b [] ∧ Q (.bl xs.isEmpty) H) := by
  intro pins s σ H x y v u Q I rx ry h
  obtain ⟨a, b, xs, rfl, rfl, ha, hb, q⟩ := h
  cases rx
  cases ry
  obtain ⟨its, r1, p1, _⟩ := I.list ha
  obtain ⟨its2, r2, p2, _⟩ := I.list hb
  cases r2
  cases r1 with
  | nil =>
    have := SeqAt.RcAt.lists (A := X.A) (s := s) (e := fun _ => true) p1.isList p2.isList rfl (by omega) (fun j h => absurd h (by simp))
    exact this X.prog X.w X.xe _ ⟨.bl _, H, I, rfl, q⟩
  | cons r t =>
    have := SeqAt.RcAt.lists_lengths (A := X.A) (s := s) p1.isList p2.isList (by simp) (by omega)
    exact this X.prog X.w X.xe _ ⟨.bl _, H, I, rfl, q⟩
theorem op_neNil (hu : X.A.units + 64 < cLine) : OpR X (compareOp .NotEq) (fun x y H Q => ∃ a b xs, x = .ref a ∧ y = .ref b ∧ SqL X.K H a xs ∧ SqL X.K H b [] ∧ Q (.bl (!xs.isEmpty)) H) := by
  intro pins s σ H x y v u Q I rx ry h
  obtain ⟨a, b, xs, rfl, rfl, ha, hb, q⟩ := h
  cases rx
  cases ry
  obtain ⟨its, r1, p1, _⟩ := I.list ha
  obtain ⟨its2, r2, p2, _⟩ := I.list hb
  cases r2
  cases r1 with
  | nil =>
    have := SeqAt.RcNeAt.lists (A := X.A) (s := s) (e := fun _ => true) p1.isList p2.isList rfl (by omega) (fun j h => absurd h (by simp))
    exact this X.prog X.w X.xe _ ⟨.bl _, H, I, rfl, q⟩
  | cons r t =>
    have := SeqAt.RcNeAt.lists_lengths (A := X.A) (s := s) p1.isList p2.isList (by simp) (by omega)
    exact this X.prog X.w X.xe _ ⟨.bl _, H, I, rfl, q⟩
end
end L2
namespace DL
open PySem PySem.Spec L2
open PyProof.Rows hiding St
section
variable {X : Cx} {W : WX} {e : Expr} {wa : DE}
def dEqNil (neg : Bool) : D2 := fun x y G Q => match x, y with
  | .ref a, .ref b => ∃ l, G a = some (.lst l) ∧ G b = some (.lst []) ∧ Q (.bl (neg ^^ l.isEmpty)) G
  | .ro l, .ref b => G b = some (.lst []) ∧ Q (.bl (neg ^^ l.isEmpty)) G
  | _, _ => False
theorem VRs.isE {K : PySem.W.Frag} {H : Hp} {vs : List V} {ds : List DV} (r : VRs K H vs ds) : vs.isEmpty = ds.isEmpty := by cases r <;> rfl
theorem nil_sq {K : PySem.W.Frag} {G : Gh} {H : Hp} {b : Addr} (wg : WG K G H) (h : G b = some (.lst [])) : SqL K H b [] := by
  obtain ⟨xs, e, r⟩ := wg _ _ h
  cases r
  exact SqL.of e
theorem o_eqNil (hu : X.A.units + 64 < cLine) : OpD X (compareOp .Eq) (dEqNil false) := by
  rintro pins s σ H x y v u Q I rx ry ⟨dx, dy, G, P, vx, vy, wg, h, k⟩
  match dx, dy, vx, vy, h with
  | .ref a, .ref b, .ref _, .ref _, ⟨l, ga, gb, h⟩ =>
    obtain ⟨xs, ha, rs⟩ := wg _ _ ga
    exact op_eqNil hu pins s σ H _ _ v u Q I rx ry ⟨a, b, xs, rfl, rfl, SqL.of ha, nil_sq wg gb, op_end wg k h (by rw [rs.isE, Bool.false_xor]; exact .bl _)⟩
  | .ro l, .ref b, .ro sq rs, .ref _, ⟨gb, h⟩ =>
    exact op_eqNil hu pins s σ H _ _ v u Q I rx ry ⟨_, b, _, rfl, rfl, sq.sq, nil_sq wg gb, op_end wg k h (by rw [rs.isE, Bool.false_xor]; exact .bl _)⟩
theorem o_neNil (hu : X.A.units + 64 < cLine) : OpD X (compareOp .NotEq) (dEqNil true) := by
  rintro pins s σ H x y v u Q I rx ry ⟨dx, dy, G, P, vx, vy, wg, h, k⟩
  match dx, dy, vx, vy, h with
  | .ref a, .ref b, .ref _, .ref _, ⟨l, ga, gb, h⟩ =>
    obtain ⟨xs, ha, rs⟩ := wg _ _ ga
    exact op_neNil hu pins s σ H _ _ v u Q I rx ry ⟨a, b, xs, rfl, rfl, SqL.of ha, nil_sq wg gb, op_end wg k h (by rw [rs.isE, Bool.true_xor]; exact .bl _)⟩
  | .ro l, .ref b, .ro sq rs, .ref _, ⟨gb, h⟩ =>
    exact op_neNil hu pins s σ H _ _ v u Q I rx ry ⟨_, b, _, rfl, rfl, sq.sq, nil_sq wg gb, op_end wg k h (by rw [rs.isE, Bool.true_xor]; exact .bl _)⟩
theorem s_eqNil {a b : Addr} {G : Gh} {Q : DV → Gh → Prop} {l : List DV} (ha : G a = some (.lst l)) (hb : G b = some (.lst [])) (q : Q (.bl l.isEmpty) G) : dEqNil false (.ref a) (.ref b) G Q := ⟨l, ha, hb, by rw [Bool.false_xor]; exact q⟩
theorem s_neNil {a b : Addr} {G : Gh} {Q : DV → Gh → Prop} {l : List DV} (ha : G a = some (.lst l)) (hb : G b = some (.lst [])) (q : Q (.bl (!l.isEmpty)) G) : dEqNil true (.ref a) (.ref b) G Q := ⟨l, ha, hb, by rw [Bool.true_xor]; exact q⟩
theorem s_eqNilR {b : Addr} {G : Gh} {Q : DV → Gh → Prop} {l : List DV} (hb : G b = some (.lst [])) (q : Q (.bl l.isEmpty) G) : dEqNil false (.ro l) (.ref b) G Q := ⟨hb, by rw [Bool.false_xor]; exact q⟩
theorem s_neNilR {b : Addr} {G : Gh} {Q : DV → Gh → Prop} {l : List DV} (hb : G b = some (.lst [])) (q : Q (.bl (!l.isEmpty)) G) : dEqNil true (.ro l) (.ref b) G Q := ⟨hb, by rw [Bool.true_xor]; exact q⟩
/-! ### xs[::-1] -/
def revK (Q : DV → Gh → Prop) (d : DV) (G : Gh) : Prop := match d with
  | .tup l => Q (.tup l.reverse) G
  | .ref a => ∃ l, G a = some (.lst l) ∧ ∀ p, G p = none → Q (.ref p) (gup G p (.lst l.reverse))
  | .ro l => ∀ p, G p = none → Q (.ref p) (gup G p (.lst l.reverse))
  | _ => False
def wRev (wa : DE) : DE := fun Y env G Q => wa Y env G (revK Q)
theorem q_rev {k : Nat} {p1 p2 p3 pos : Pos} (he : QE X W e wa) : QE X W (.Subscript e (.Slice none none (some (.UnaryOp .USub (.Constant (.int 1) k p1) p2)) p3) pos) (wRev wa) :=
  ⟨PE.wk (pe_revA he.pe) fun σ H Q ⟨Y, env, G, P, er, wg, h, k, kx⟩ => ⟨Y, env, G, _, er, wg, h, fun d G1 v H1 h1 w1 x1 r => by
    cases r <;> first | exact h1.elim | skip
    · obtain ⟨l, ga, h1⟩ := h1
      obtain ⟨xs, ha, rs⟩ := w1 _ _ ga
      exact .inl ⟨_, xs, rfl, SqL.of ha, fun p np => k _ _ _ _ (h1 p (w1.non np)) (w1.newL np rs.rev) (x1.trans (Ext.newC np)) (.ref p)⟩
    · rename_i sq rs
      exact .inr ⟨_, _, rfl, sq, fun p np => k _ _ _ _ h1 (w1.new np) (x1.trans (Ext.new np)) (VR.newT w1 np rs.rev)⟩
    · rename_i sq rs
      exact .inl ⟨_, _, rfl, sq.sq, fun p np => k _ _ _ _ (h1 p (w1.non np)) (w1.newL np rs.rev) (x1.trans (Ext.newC np)) (.ref p)⟩, kx⟩⟩
variable {Y : DX} {env : Dv} {G : Gh} {Q : DV → Gh → Prop} {l : List DV}
theorem s_rev (q : wa Y env G (revK Q)) : wRev wa Y env G Q := q
theorem s_revT (q : Q (.tup l.reverse) G) : revK Q (.tup l) G := q
theorem x_revL {a : Addr} (he : G a = some (.lst l)) (q : ∀ p G1, G p = none → Sub G G1 → G1 p = some (.lst l.reverse) → Q (.ref p) G1) : revK Q (.ref a) G := ⟨l, he, x_new q⟩
end
end DL

namespace DL
open PySem PySem.Spec L2
open PyProof.Rows hiding St
/-! ### is of truths -/
section
variable {X : Cx}
def dIsBl (neg : Bool) : D2 := fun x y G Q => match x, y with
  | .bl a, .bl b => Q (.bl (neg ^^ decide (a = b))) G
  | _, _ => False
theorem o_isBl : OpD X (compareOp .Is) (dIsBl false) := by
  rintro pins s σ H x y v u Q I rx ry ⟨dx, dy, G, P, vx, vy, wg, h, k⟩
  match dx, dy, vx, vy, h with
  | .bl a, .bl b, .bl _, .bl _, h => exact op_is_bl pins s σ H _ _ v u Q I rx ry ⟨a, b, rfl, rfl, op_end wg k h (by rw [Bool.false_xor]; exact .bl _)⟩
theorem o_isntBl : OpD X (compareOp .IsNot) (dIsBl true) := by
  rintro pins s σ H x y v u Q I rx ry ⟨dx, dy, G, P, vx, vy, wg, h, k⟩
  match dx, dy, vx, vy, h with
  | .bl a, .bl b, .bl _, .bl _, h => exact op_isnot_bl pins s σ H _ _ v u Q I rx ry ⟨a, b, rfl, rfl, op_end wg k h (by rw [Bool.true_xor]; exact .bl _)⟩
variable {G : Gh} {Q : DV → Gh → Prop}
theorem s_isBl {a b : Bool} (q : Q (.bl (decide (a = b))) G) : dIsBl false (.bl a) (.bl b) G Q := by show Q (.bl (false ^^ _)) G; rw [Bool.false_xor]; exact q
theorem s_isntBl {a b : Bool} (q : Q (.bl (!decide (a = b))) G) : dIsBl true (.bl a) (.bl b) G Q := by show Q (.bl (true ^^ _)) G; rw [Bool.true_xor]; exact q
theorem s_isiD {e : Addr} {l : List (Key × DV)} {c : String} (he : G e = some (.dic l)) (hc : c ∈ ["int", "bool", "str", "tuple", "list", "dict"]) (q : Q (.bl (isaB "dict" c)) G) : dIsi [.ref e, .ty c] G Q := by
  refine ⟨hc, ?_⟩
  show (match G e with | some (.lst _) => Q (.bl (isaB "list" c)) G | some (.dic _) => Q (.bl (isaB "dict" c)) G | _ => False)
  rw [he]; exact q
end
/-! ### things of any kind -/
/-- a thing: a tree of tuples over numbers, truths, texts, None, lists and dicts that stand, none of them at t -/
inductive Tm (t : Addr) (G : Gh) : DV → Prop
  | non : Tm t G .non
  | bl (b : Bool) : Tm t G (.bl b)
  | int (i : Int) (h : i.natAbs < 2 ^ 1000) : Tm t G (.int i)
  | str (z : Str) : Tm t G (.str z)
  | tup {l : List DV} (h : ∀ d ∈ l, Tm t G d) (hl : l.length ≤ 1000) : Tm t G (.tup l)
  | lst {a : Addr} {l : List DV} (h : G a = some (.lst l)) (n : a ≠ t) : Tm t G (.ref a)
  | dic {a : Addr} {l : List (Key × DV)} (h : G a = some (.dic l)) (n : a ≠ t) : Tm t G (.ref a)
theorem Tm.old {t : Addr} {G G' : Gh} (k : Old t G G') : ∀ {d : DV}, Tm t G d → Tm t G' d := by
  intro d h
  induction h with
  | non => exact .non
  | bl b => exact .bl b
  | int i h => exact .int i h
  | str z => exact .str z
  | tup _ hl ih => exact .tup ih hl
  | lst h n => exact .lst (k _ _ n h) n
  | dic h n => exact .dic (k _ _ n h) n
theorem Tm.i {t : Addr} {G : Gh} {x : Int} (h : x.natAbs ≤ 1000000000) : Tm t G (.int x) := .int x (Nat.lt_of_le_of_lt h (by decide))
theorem Tm.items {t : Addr} {G : Gh} {l : List DV} (h : Tm t G (.tup l)) : (∀ d ∈ l, Tm t G d) ∧ l.length ≤ 1000 := by
  cases h with
  | tup h hl => exact ⟨h, hl⟩
theorem Tm.sub {t : Addr} {G G' : Gh} (k : Sub G G') {d : DV} (h : Tm t G d) : Tm t G' d := h.old k.old
/-- is it of that kind (int, bool, str, tuple) -/
def DV.isa (d : DV) (c : String) : Bool := match d with
  | .non => isaB "NoneType" c | .bl _ => isaB "bool" c | .int _ => isaB "int" c | .str _ => isaB "str" c | .tup _ => isaB "tuple" c | .ro _ => isaB "list" c | _ => false
theorem s_isiTm {t : Addr} {G : Gh} {Q : DV → Gh → Prop} {d : DV} {c : String} (h : Tm t G d) (hc : c ∈ ["int", "bool", "str", "tuple"]) (q : Q (.bl (d.isa c)) G) : dIsi [d, .ty c] G Q := by
  have hc' : c ∈ ["int", "bool", "str", "tuple", "list", "dict"] := by
    simp only [List.mem_cons, List.not_mem_nil, or_false] at hc ⊢
    rcases hc with h | h | h | h <;> simp [h]
  cases h with
  | non => exact ⟨hc', q⟩
  | bl b => exact ⟨hc', q⟩
  | int i _ => exact ⟨hc', q⟩
  | str z => exact ⟨hc', q⟩
  | tup _ => exact ⟨hc', q⟩
  | lst h n =>
    refine s_isiL h hc' ?_
    have e : isaB "list" c = false := by
      simp only [List.mem_cons, List.not_mem_nil, or_false] at hc
      rcases hc with rfl | rfl | rfl | rfl <;> decide
    rw [e]; exact q
  | dic h n =>
    refine s_isiD h hc' ?_
    have e : isaB "dict" c = false := by
      simp only [List.mem_cons, List.not_mem_nil, or_false] at hc
      rcases hc with rfl | rfl | rfl | rfl <;> decide
    rw [e]; exact q
/-- a whole number from lo to hi -/
def wholeB (d : DV) (lo hi : Int) : Bool := match d with
  | .int i => decide (lo ≤ i) && decide (i ≤ hi)
  | _ => false
theorem at_0 {x : DV} {r : List DV} : L2.atI (x :: r) 0 = some x := L2.atI_nat (j := 0) rfl
theorem at_1 {x y : DV} {r : List DV} : L2.atI (x :: y :: r) 1 = some y := L2.atI_nat (j := 1) rfl
theorem at_2 {x y z : DV} {r : List DV} : L2.atI (x :: y :: z :: r) 2 = some z := L2.atI_nat (j := 2) rfl
theorem log2_small {x : Int} (h : x.natAbs < 2 ^ 600) : x.natAbs.log2 < 1920 := by
  by_cases hz : x.natAbs = 0
  · rw [hz]; decide
  · exact (Nat.log2_lt hz).mpr (Nat.lt_of_lt_of_le h (Nat.pow_le_pow_right (by decide) (by decide)))
end DL

namespace DL
open PySem PySem.Spec L2
open PyProof.Rows hiding St
local macro_rules | `(tactic| walk_at "ne") => `(tactic| first
  | assumption | (refine Ne.symm ?_; assumption) | exact TapeAt.nct (by assumption) | exact TapeAt.ne1 (by assumption) (by assumption) | exact TapeAt.ne2 (by assumption) (by assumption) | (refine Ne.symm ?_; exact TapeAt.ne1 (by assumption) (by assumption)) | (refine Ne.symm ?_; exact TapeAt.ne2 (by assumption) (by assumption))
  | ((apply ne_goneR); (· assumption); walk_at "gl") | ((refine Ne.symm ?_); (apply ne_goneR); (· assumption); walk_at "gl"))
local macro_rules | `(tactic| walk_at "gl") => `(tactic| first
  | assumption | ((apply Sub.look); (· assumption); walk_at "gl") | ((apply Old.look); (· assumption); (· walk_at "ne"); walk_at "gl"))
local macro_rules | `(tactic| walk_at "tp") => `(tactic| first
  | assumption | ((apply TapeAt.sub); rotate_left; assumption; walk_at "tp") | ((apply TapeAt.old); rotate_left; assumption; (· walk_at "ne"); (· walk_at "ne"); walk_at "tp"))
local macro_rules | `(tactic| walk_at "dl") => `(tactic| ((repeat (first
  | with_reducible refine s_seqS ?_ | with_reducible refine s_seqA ?_ | with_reducible refine s_seqE ?_ | with_reducible refine s_set ?_ | ((with_reducible apply s_var); (· exact rfl)) | with_reducible refine s_c ?_ | with_reducible refine s_op ?_
  | ((with_reducible apply s_st); (· (try dsimp only [List.set, start0, List.map, List.length, List.replicate, List.append, HAppend.hAppend, Append.append, wipeD, Nat.sub]); first | done | exact rfl))
  | with_reducible refine s_ret ?_ | with_reducible refine s_if ?_ | with_reducible refine s_tst ?_ | with_reducible refine s_bl ?_ | with_reducible refine s_cons ?_ | with_reducible refine s_nil ?_ | with_reducible refine s_cb ?_ | with_reducible refine s_call ?_
  | with_reducible refine s_add ?_ | with_reducible refine s_sub ?_ | with_reducible refine s_eqI ?_ | with_reducible refine s_eqS ?_ | with_reducible refine s_lt ?_ | with_reducible refine s_le ?_ | with_reducible refine s_gt ?_ | with_reducible refine s_ge ?_
  | with_reducible refine s_asg ?_ | with_reducible refine s_gSub ?_ | with_reducible refine s_gName ?_ | ((with_reducible apply s_gs); (· (try dsimp only [List.set, start0, List.map, List.length, List.replicate, List.append, HAppend.hAppend, Append.append, wipeD, Nat.sub]); first | done | exact rfl))
  | with_reducible refine s_gTup ?_ | with_reducible refine s_gCons ?_ | with_reducible refine s_gNil ?_
  | with_reducible refine s_next ?_ | with_reducible refine s_expr ?_ | with_reducible refine s_retN ?_ | with_reducible refine s_break ?_ | with_reducible refine s_cont ?_ | with_reducible refine s_for ?_
  | with_reducible refine s_andT ?_ | with_reducible refine s_orT ?_ | with_reducible refine s_notT ?_ | with_reducible refine s_and ?_ | with_reducible refine s_or ?_ | with_reducible refine s_not ?_ | with_reducible refine s_andK ?_ | with_reducible refine s_orK ?_ | with_reducible refine s_notK ?_
  | with_reducible refine s_chain ?_ | with_reducible refine s_chn ?_ | with_reducible refine s_ifE ?_ | with_reducible refine s_tup ?_ | with_reducible refine s_lst ?_ | ((with_reducible apply s_mkT); (· simp only [List.length_cons, List.length_nil, Nat.reduceAdd]; decide)) | ((with_reducible apply x_mkL); (· simp only [List.length_cons, List.length_nil, Nat.reduceAdd]; decide))
  | with_reducible refine s_neg ?_ | with_reducible refine s_negK ?_ | with_reducible refine s_sl ?_ | with_reducible refine s_noPart ?_ | with_reducible refine s_part ?_ | with_reducible refine s_partK ?_ | with_reducible refine s_bm ?_ | with_reducible refine s_bm0 ?_ | with_reducible refine s_lc ?_ | with_reducible refine s_yes ?_
  | with_reducible refine s_neI ?_ | with_reducible refine s_neS ?_ | with_reducible refine s_neB ?_ | with_reducible refine s_eqB ?_ | with_reducible refine s_is ?_ | with_reducible refine s_isnt ?_
  | ((with_reducible apply s_ixT); (· first | exact rfl | exact at_0 | exact at_1 | exact at_2)) | with_reducible refine s_slT ?_ | with_reducible refine x_slR ?_ | ((with_reducible apply s_ixL); (· walk_at "gl"); (· exact rfl))
  | with_reducible refine s_lenT ?_ | with_reducible refine s_lenR ?_ | ((with_reducible apply s_lenL); (· walk_at "gl")) | with_reducible refine s_max2 ?_ | with_reducible refine s_min2 ?_ | with_reducible refine s_abs ?_ | with_reducible refine s_intI ?_ | with_reducible refine s_intB ?_
  | with_reducible refine s_tupleT ?_ | with_reducible refine s_tupleR ?_ | ((with_reducible apply s_tupleL); (· walk_at "gl")) | with_reducible refine x_listT ?_ | with_reducible refine x_listR ?_ | with_reducible refine s_strS ?_
  | ((with_reducible apply s_ninT); (· exact rfl); (· exact rfl)) | ((with_reducible apply s_inT); (· exact rfl); (· exact rfl)) | with_reducible refine s_isiI (by decide) ?_ | with_reducible refine s_isiB (by decide) ?_ | with_reducible refine s_isiS (by decide) ?_ | with_reducible refine s_isiT (by decide) ?_ | with_reducible refine s_isiR (by decide) ?_ | with_reducible refine s_isiN (by decide) ?_ | with_reducible refine s_wiSeq ?_ | with_reducible refine s_seqT ?_ | with_reducible refine s_seqR ?_ | with_reducible refine s_seqStr ?_ | ((with_reducible apply s_seqL); (· walk_at "gl")) | with_reducible refine s_wiRange1 ?_ | with_reducible refine s_wiRange2 ?_
  | with_reducible refine s_wiZip2 ?_ | with_reducible refine s_zip2 ?_ | with_reducible refine s_srcT ?_ | with_reducible refine s_srcR ?_ | ((with_reducible apply s_srcL); (· walk_at "gl"))
  | with_reducible refine s_wiEnum1 ?_ | with_reducible refine s_enum1 ?_ | with_reducible refine s_rng1 (by decide) ?_ | with_reducible refine s_mod (by decide) ?_ | with_reducible refine s_pow (by decide) ?_ | with_reducible refine s_mul (by decide) ?_
  | with_reducible refine s_yesB (by decide +kernel) ?_ | with_reducible refine s_noB (by decide +kernel) ?_ | with_reducible refine s_t ?_ | with_reducible refine s_f ?_
  | ((with_reducible apply x_setL); (· walk_at "gl"); (· exact rfl); (· (try dsimp only [Int.reduceToNat, List.set_cons_zero, List.set_cons_succ]); first | done | exact rfl)) | ((with_reducible apply x_append); (· walk_at "gl"))  | ((with_reducible apply x_slL); (· walk_at "gl")) | ((with_reducible apply x_listL); (· walk_at "gl")) | ((with_reducible apply x_reverse); (· walk_at "gl"))
  | with_reducible refine s_listRg ?_ | with_reducible refine s_tupRg ?_ | with_reducible refine s_isBl ?_ | with_reducible refine s_isntBl ?_ | with_reducible refine s_rev ?_ | with_reducible refine s_revT ?_ | ((with_reducible apply x_revL); (· walk_at "gl")) | ((with_reducible apply s_eqNil); (· walk_at "gl"); (· walk_at "gl")) | ((with_reducible apply s_neNil); (· walk_at "gl"); (· walk_at "gl")) | ((with_reducible apply s_eqNilR); (· walk_at "gl")) | ((with_reducible apply s_neNilR); (· walk_at "gl")) | with_reducible refine s_mulT (by decide) ?_ | with_reducible refine x_lr (by decide) ?_
  | ((with_reducible apply s_addT); (· simp only [List.length_cons, List.length_nil, Nat.reduceAdd]; decide))
  | ((with_reducible apply x_addL); (· walk_at "gl"); (· walk_at "gl"); (· simp only [List.length_cons, List.length_nil, Nat.reduceAdd]; decide))
  | ((with_reducible apply x_dispR); (· exact rfl); (· exact rfl); (· simp only [List.length_cons, List.length_nil, Nat.reduceAdd]; decide))
  | with_reducible refine s_disp ?_ | with_reducible refine s_pairs ?_ | with_reducible refine s_pairs0 ?_ | with_reducible refine x_dnew ?_ | ((with_reducible apply s_ixD); (· walk_at "gl"); (· exact rfl); (· exact rfl)) | ((with_reducible apply x_setDi); (· walk_at "gl"); (· exact rfl); (· exact kv_few rfl))
  | ((with_reducible apply s_tyL); (· walk_at "gl")) | with_reducible refine s_tyS ?_
  | ((with_reducible apply s_isiL); (· walk_at "gl"); (· decide)) | ((with_reducible apply s_isiD); (· walk_at "gl"); (· decide)))); try dsimp only))
local macro_rules | `(tactic| walk_at "if") => `(tactic| ((try with_reducible refine s_seq ?_); (try with_reducible refine s_if ?_); walk_at "dl"))
local macro_rules | `(tactic| walk_at "in") => `(tactic| (repeat (intro _ _ _; intros; walk_at "dl")))
local macro_rules | `(tactic| walk_at "sb") => `(tactic| first
  | assumption | exact Sub.refl | ((apply Sub.transR); (· assumption); walk_at "sb") | ((apply Sub.ownR); (· assumption); (· walk_at "nn"); walk_at "sb"))
local macro_rules | `(tactic| walk_at "nn") => `(tactic| first
  | assumption | ((apply none_sub); (· assumption); walk_at "sb"))
local macro_rules | `(tactic| walk_at "od") => `(tactic| first
  | assumption | exact Old.refl | exact Sub.old (by walk_at "sb")
  | ((apply Old.subR); (· assumption); walk_at "od") | ((apply Old.transR); (· assumption); walk_at "od") | ((apply Old.ownR2); (· assumption); (· walk_at "nn"); walk_at "od"))
local macro_rules | `(tactic| walk_at "ca1") => `(tactic| first
  | exact rfl | assumption | walk_at "tp" | omega | decide | walk_at "gl" | exact Sub.refl)
local macro_rules | `(tactic| walk_at "ca") => `(tactic| ((repeat (with_reducible apply Exists.intro)); (repeat ((with_reducible refine And.intro ?_ ?_); (· walk_at "ca1")))))

def top (i : Nat) : Stmt := PySem.Challenge.pw_dropsums_k27_what_shuts.main.body.getD i (.Pass ⟨0, 0, 0, 0⟩)
abbrev bins : List String := ["all", "bool", "int", "isinstance", "len", "list", "range", "repr", "str", "sum", "tuple", "zip"]

abbrev s_law_draw : Stmt := top 7
theorem sc_law_draw : FnScope ["_law_tape_here", "_law_many", "_law_cell", "_law_mixed", "_law_found"] ["_law_tape_here", "_law_many"] (defScope s_law_draw) := ⟨rfl, rfl, rfl, by decide +kernel, rfl, by decide +kernel, by decide +kernel⟩
/- law_draw : 0 _law_tape_here, 1 _law_many, 2 _law_cell, 3 _law_mixed, 4 _law_found -/
theorem st_law_draw (x0 x1 : DV) : start0 5 [x0, x1] = [some x0, some x1, none, none, none] := rfl
def w_law_draw : DS := (wSeq (wAsg (wOp dAdd (wOp dIx (wVar 0) (wC (.int 1))) (wC (.int 1))) (wgSub (wVar 0) (wC (.int 1)) dSet))
  (wSeq (wIfS (wTst (wOp (dEq false) (wOp dIx (wVar 0) (wC (.int 2))) (wC (.int 0))))
  (wSeq (wSet 2 (wC (.int 0)))
  (wSeq (wIfS (wTst (wOp dGt (wCB dLen (wCons (wOp dIx (wVar 0) (wC (.int 0))) wNil)) (wC (.int 0))))
  (wSet 2 (wOp dIx (wOp dIx (wVar 0) (wC (.int 0))) (wOp dMod (wOp dIx (wVar 0) (wC (.int 1))) (wCB dLen (wCons (wOp dIx (wVar 0) (wC (.int 0))) wNil)))))
  wNext)
  (wSeq (wIfS (wTst (wOp dLt (wVar 2) (wOp dPow (wC (.int 10)) (wC (.int 18)))))
  (wSeq (wSet 3 (wOp dMod (wOp dAdd (wOp dAdd (wOp dMul (wOp dMod (wVar 2) (wC (.int 2147483647))) (wC (.int 48271))) (wOp dMul (wOp dIx (wVar 0) (wC (.int 1))) (wC (.int 7919)))) (wC (.int 12345))) (wC (.int 2147483629))))
  (wSeq (wSet 3 (wOp dMod (wOp dMul (wVar 3) (wOp dAdd (wVar 3) (wC (.int 40692)))) (wC (.int 2147483587))))
  (wRet (wOp dMod (wOp dMod (wOp dMul (wVar 3) (wC (.int 16807))) (wC (.int 2147483563))) (wVar 1)))))
  wNext)
  (wAsg (wOp dSub (wVar 2) (wOp dPow (wC (.int 10)) (wC (.int 18)))) (wgSub (wVar 0) (wC (.int 2)) dSet)))))
  wNext)
  (wSeq (wSet 4 (wOp dMod (wOp dIx (wVar 0) (wC (.int 2))) (wVar 1)))
  (wSeq (wAsg (wOp dFdiv (wOp dIx (wVar 0) (wC (.int 2))) (wVar 1)) (wgSub (wVar 0) (wC (.int 2)) dSet))
  (wRet (wVar 4))))))

/-- a draw: 0 ≤ r < m -/
def d_law_draw : DF := fun ds G Q _ => ∃ (t c : Addr) (m : Int) (n : Nat), ds = [.ref t, .int m] ∧ TapeAt G t c n ∧ n ≤ 1000000000000 ∧ 0 < m ∧ m ≤ 1000000000000 ∧ ∀ r G', 0 ≤ r → r < m → TapeAt G' t c (n + 1) → Old t G G' → Q (.int r) G'
theorem len_law_draw : ∀ ds G Q Y, d_law_draw ds G Q Y → ds.length = 2 := by
  rintro ds G Q Y ⟨t, c, m, n, rfl, _⟩; rfl
theorem ok_law_draw : ∀ ds G Q Y, d_law_draw ds G Q Y → w_law_draw (bodyEnds Q Y) (start0 5 ds) G := by
  rintro ds G Q Y ⟨t, c, m, n, rfl, tp, hn, hm, hm1, q⟩
  have hm2 := log_small hm hm1
  obtain ⟨cells, i, s, ht, hc, hcs, i0, i1⟩ := tp.ex
  rw [st_law_draw]
  unfold w_law_draw
  walk_at "dl"
  intro G1 o1 e1
  have c1 : G1 c = some (.lst (cells.map DV.int)) := by walk_at "gl"
  have back : ∀ (s' r : Int) (G2 : Gh), G2 t = some (.lst [.ref c, .int (i + 1), .int s']) → Old t G1 G2 → 0 ≤ r → r < m → Q (.int r) G2 := fun s' r G2 h2 o2 r0 r1 =>
    q r G2 r0 r1 ⟨cells, i + 1, s', h2, hc, o2 _ _ hc c1, by omega, by omega⟩ (o1.trans o2)
  refine s_join (fun e g => ∃ s', Old t G1 g ∧ g t = some (.lst [.ref c, .int (i + 1), .int s']) ∧ ∃ a b, e = [some (.ref t), some (.int m), a, b, none]) (fun K hK => ?_) (fun e g ⟨s', o2, e2, a, b, he⟩ => ?_)
  · walk_at "if"
    refine s_ite (fun h => ?_) (fun h => ?_)
    · walk_at "dl"
      refine s_join (fun e g => g = G1 ∧ ∃ x : Int, e = [some (.ref t), some (.int m), some (.int x), none, none]) (fun K hK => ?_) (fun e g ⟨hg, x, he⟩ => ?_)
      · walk_at "if"
        refine s_ite (fun h2 => ?_) (fun h2 => ?_)
        · walk_at "dl"
          refine s_mod h2 ?_
          obtain ⟨x, hx, _⟩ := atI_ints (l := cells) (Int.emod_nonneg (i + 1) (by omega)) (Int.emod_lt_of_pos (i + 1) h2)
          refine s_ixL c1 hx ?_
          walk_at "dl"
          exact hK _ _ ⟨rfl, x, rfl⟩
        · walk_at "dl"
          exact hK _ _ ⟨rfl, 0, rfl⟩
      · subst hg he
        walk_at "if"
        refine s_ite (fun h2 => ?_) (fun h2 => ?_)
        · walk_at "dl"
          refine s_mul (MulOk.i (n := 2147483647) (by omega) (by omega) (by decide) (by decide)) ?_
          walk_at "dl"
          refine s_mul (MulOk.i (n := n + 1) (by omega) (by omega) (by omega) (by decide)) ?_
          walk_at "dl"
          generalize hz : (x % 2147483647 * 48271 + (i + 1) * 7919 + 12345) % 2147483629 = z
          have hz0 : 0 ≤ z := by omega
          have hz1 : z < 2147483629 := by omega
          refine s_mul (MulOk.i (n := 2147483647) (by omega) (by omega) (by decide) (by omega)) ?_
          walk_at "dl"
          refine s_mul (MulOk.i (n := 2147483647) (by omega) (by omega) (by decide) (by decide)) ?_
          walk_at "dl"
          refine s_mod hm ?_
          walk_at "dl"
          exact back _ _ _ e1 Old.refl (Int.emod_nonneg _ (by omega)) (Int.emod_lt_of_pos _ hm)
        · walk_at "dl"
          intro G2 o2 e2
          walk_at "dl"
          exact hK _ _ ⟨_, o2, e2, _, _, rfl⟩
    · walk_at "dl"
      exact hK _ _ ⟨_, Old.refl, e1, _, _, rfl⟩
  · subst he
    walk_at "dl"
    refine s_mod hm ?_
    walk_at "dl"
    refine s_fdiv hm hm2 ?_
    walk_at "dl"
    intro G3 o3 e3
    walk_at "dl"
    exact back _ _ _ e3 (o2.trans o3) (Int.emod_nonneg _ (by omega)) (Int.emod_lt_of_pos _ hm)
abbrev s_law_tape : Stmt := top 6
theorem sc_law_tape : FnScope ["_law_script"] ["_law_script"] (defScope s_law_tape) := ⟨rfl, rfl, rfl, by decide +kernel, rfl, by decide +kernel, by decide +kernel⟩
/- law_tape : 0 _law_script -/
theorem st_law_tape (x0 : DV) : start0 1 [x0] = [some x0] := rfl
def w_law_tape : DS := (wRet (wLst (wCons (wSl dSl (wVar 0) wNoPart (wPart (wC (.int 63)))) (wCons (wC (.int 0)) (wCons (wC (.int 0)) wNil)))))

def d_law_tape : DF := fun ds G Q _ => ∃ ns : List Int, ds = [.ro (ns.map .int)] ∧ ∀ t c G', G t = none → Sub G G' → TapeAt G' t c 0 → Q (.ref t) G'
theorem len_law_tape : ∀ ds G Q Y, d_law_tape ds G Q Y → ds.length = 1 := by
  rintro ds G Q Y ⟨ns, rfl, _⟩; rfl
theorem ok_law_tape : ∀ ds G Q Y, d_law_tape ds G Q Y → w_law_tape (bodyEnds Q Y) (start0 1 ds) G := by
  rintro ds G Q Y ⟨ns, rfl, q⟩
  rw [st_law_tape]
  unfold w_law_tape
  walk_at "dl"
  intro c G1 hc s1 e1
  walk_at "dl"
  intro t G2 ht s2 e2
  have hct : c ≠ t := ne_gone e1 ht
  have tn : G t = none := by
    cases z : G t with
    | none => rfl
    | some u => rw [s1 _ _ z] at ht; cases ht
  refine q t c G2 tn (s1.trans s2) ⟨ns.take 63, 0, 0, e2, hct, ?_, by decide, by decide⟩
  rw [s2 _ _ e1, cut_to (by decide), List.map_take]
  rfl

/-- a form: times for the amounts, times for the sorts, and a number -/
structure Fm where
  by_ : List Int
  st : List Int
  p : Int
def Fm.dv (f : Fm) : DV := .tup [.tup (f.by_.map .int), .tup (f.st.map .int), .int f.p]
def Fm.at (f : Fm) (as ss : List Int) : Int := f.p + dot f.by_ as + dot f.st ss
def neg (l : List Int) : List Int := l.map fun x => 0 - x
def Fm.contrary (f : Fm) : Fm := ⟨neg f.by_, neg f.st, 0 - f.p - 1⟩
theorem neg_dv (l : List Int) : l.map (fun x => DV.int (0 - x)) = (neg l).map .int := by simp [neg, Function.comp_def]
instance : Inhabited Fm := ⟨⟨[], [], 0⟩⟩
def Fm.pd (f : Fm) : PyData := .tuple [.tuple (f.by_.map .int), .tuple (f.st.map .int), .int f.p]
theorem Fm.dv_pd {f : Fm} : f.dv.pd = f.pd := by simp [Fm.dv, Fm.pd, Function.comp_def]
theorem Fm.dv_pure {f : Fm} : f.dv.pure = true := by simp [Fm.dv]
theorem Fm.fr {f : Fm} {nb ns : Nat} (h1 : f.by_.length ≤ 8) (h2 : f.st.length ≤ 8) (h3 : ∀ x ∈ f.by_, x.natAbs < 2 ^ 590) (h4 : ∀ x ∈ f.st, x.natAbs < 2 ^ 590) (h5 : f.p.natAbs < 2 ^ 590) : Fr 15000 2 f.pd :=
  (Fr.tup ((FrL.cons (Fr.tup (fr_ints (k := 0) (by decide) h3 (m := 8) h1)) (FrL.cons (Fr.tup (fr_ints (k := 0) (by decide) h4 (m := 8) h2)) (FrL.cons (Fr.int h5 (by decide)) FrL.nil))))).mono (by decide) (Nat.le_refl _)
theorem neg_mem {l : List Int} {B : Nat} (h : ∀ x ∈ l, x.natAbs ≤ B) : ∀ x ∈ neg l, x.natAbs ≤ B := by
  intro x hx
  obtain ⟨y, hy, rfl⟩ := List.mem_map.mp hx
  have := h y hy
  omega
theorem neg_len (l : List Int) : (neg l).length = l.length := List.length_map _
theorem Fm.fr20 {f : Fm} (h1 : f.by_.length ≤ 8) (h2 : f.st.length ≤ 8) (h3 : ∀ x ∈ f.by_, x.natAbs < 2 ^ 590) (h4 : ∀ x ∈ f.st, x.natAbs < 2 ^ 590) (h5 : f.p.natAbs < 2 ^ 590) : Fr 20 2 f.pd :=
  (Fr.tup ((FrL.cons (Fr.tup (fr_ints (k := 0) (by decide) h3 (m := 8) h1)) (FrL.cons (Fr.tup (fr_ints (k := 0) (by decide) h4 (m := 8) h2)) (FrL.cons (Fr.int h5 (by decide)) FrL.nil))))).mono (by decide) (Nat.le_refl _)

abbrev s_form_weighed : Stmt := top 1
theorem sc_form_weighed : FnScope ["forms", "weights", "by", "one", "sorts", "plus", "number", "times", "form", "more"] ["forms", "weights"] (defScope s_form_weighed) := ⟨rfl, rfl, rfl, by decide +kernel, rfl, by decide +kernel, by decide +kernel⟩
/- form_weighed : 0 forms, 1 weights, 2 by, 3 one, 4 sorts, 5 plus, 6 number, 7 times, 8 form, 9 more -/
theorem st_form_weighed (x0 x1 : DV) : start0 10 [x0, x1] = [some x0, some x1, none, none, none, none, none, none, none, none] := rfl
def w_form_weighed : DS := (wSeq (wSet 2 (wLc [3] (wiSeq (wOp dIx (wOp dIx (wVar 0) (wC (.int 0))) (wC (.int 0)))) (wgName 3) wYes (wC (.int 0))))
  (wSeq (wSet 4 (wLc [3] (wiSeq (wOp dIx (wOp dIx (wVar 0) (wC (.int 0))) (wC (.int 1)))) (wgName 3) wYes (wC (.int 0))))
  (wSeq (wSet 5 (wC (.int 0)))
  (wSeq (wFor (wiSeq (wVar 1)) (wgTup (wgCons (wgName 6) (wgCons (wgName 7) wgNil)))
  (wSeq (wSet 8 (wOp dIx (wVar 0) (wVar 6)))
  (wSeq (wSet 2 (wLc [3, 9] (wiZip2 (wCons (wVar 2) (wCons (wOp dIx (wVar 8) (wC (.int 0))) wNil))) (wgTup (wgCons (wgName 3) (wgCons (wgName 9) wgNil))) wYes (wOp dAdd (wVar 3) (wOp dMul (wVar 7) (wVar 9)))))
  (wSeq (wSet 4 (wLc [3, 9] (wiZip2 (wCons (wVar 4) (wCons (wOp dIx (wVar 8) (wC (.int 1))) wNil))) (wgTup (wgCons (wgName 3) (wgCons (wgName 9) wgNil))) wYes (wOp dAdd (wVar 3) (wOp dMul (wVar 7) (wVar 9)))))
  (wSet 5 (wOp dAdd (wVar 5) (wOp dMul (wVar 7) (wOp dIx (wVar 8) (wC (.int 2))))))))))
  (wRet (wTup (wCons (wCB dTuple (wCons (wVar 2) wNil)) (wCons (wCB dTuple (wCons (wVar 4) wNil)) (wCons (wVar 5) wNil)))))))))

def wdv (w : Nat × Int) : DV := .tup [.int w.1, .int w.2]
def wsum (fs : List Fm) (ws : List (Nat × Int)) (g : Fm → Int) : Int := (ws.map fun w => w.2 * g (fs.getD w.1 default)).sum
def weighed (fs : List Fm) (ws : List (Nat × Int)) (nb ns : Nat) : Fm := ⟨(List.range nb).map fun j => wsum fs ws fun f => f.by_.getD j 0, (List.range ns).map fun j => wsum fs ws fun f => f.st.getD j 0, wsum fs ws Fm.p⟩
structure FmsOk (fs : List Fm) (nb ns : Nat) : Prop where
  lb : ∀ f ∈ fs, f.by_.length = nb
  ls : ∀ f ∈ fs, f.st.length = ns
  sb : ∀ f ∈ fs, Sm f.by_
  ss : ∀ f ∈ fs, Sm f.st
  sp : ∀ f ∈ fs, f.p.natAbs < 2 ^ 2000
  nb : nb ≤ 100000
  ns : ns ≤ 100000
structure WsOk (ws : List (Nat × Int)) (n : Nat) : Prop where
  ix : ∀ w ∈ ws, w.1 < n
  sm : ∀ w ∈ ws, w.2.natAbs < 2 ^ 2000
  few : ws.length ≤ 100000
theorem getD_mem {fs : List Fm} {i : Nat} (h : i < fs.length) : fs.getD i default = fs[i] ∧ fs[i] ∈ fs := by
  refine ⟨?_, List.getElem_mem h⟩
  rw [List.getD_eq_getElem?_getD, List.getElem?_eq_getElem h]; rfl
theorem wsum_step {fs : List Fm} {ws : List (Nat × Int)} {i : Nat} {w : Nat × Int} (g : Fm → Int) (h : ws[i]? = some w) : wsum fs (ws.take (i + 1)) g = wsum fs (ws.take i) g + w.2 * g (fs.getD w.1 default) := sum_step _ h
theorem zeros {α : Type} (l : List α) : l.map (fun _ => DV.int 0) = ((List.range l.length).map fun _ => (0 : Int)).map DV.int := by
  apply List.ext_getElem?
  intro i
  by_cases hi : i < l.length
  · rw [List.getElem?_map, List.getElem?_eq_getElem hi, List.getElem?_map, List.getElem?_map, List.getElem?_range hi]; rfl
  · rw [List.getElem?_eq_none (by simp; omega), List.getElem?_eq_none (by simp; omega)]
theorem weigh_step {fs : List Fm} {ws : List (Nat × Int)} {i n : Nat} {w : Nat × Int} (g : Fm → List Int) (ex : ws[i]? = some w) (hi : w.1 < fs.length) (hl : (g fs[w.1]).length = n) :
    (((List.range n).map fun j => wsum fs (ws.take i) fun f => (g f).getD j 0).zip (g fs[w.1])).map (fun p => DV.int (p.1 + w.2 * p.2)) = ((List.range n).map fun j => wsum fs (ws.take (i + 1)) fun f => (g f).getD j 0).map DV.int := by
  have h1 := zip_range (n := n) (l := g fs[w.1]) (fun j => wsum fs (ws.take i) fun f => (g f).getD j 0) (fun a b => a + w.2 * b) hl
  have h2 : ((List.range n).map fun j => wsum fs (ws.take (i + 1)) fun f => (g f).getD j 0) = (List.range n).map (fun j => (wsum fs (ws.take i) fun f => (g f).getD j 0) + w.2 * (g fs[w.1]).getD j 0) := by
    congr 1; funext j; rw [wsum_step _ ex, (getD_mem hi).1]
  rw [h2, ← h1, List.map_map]; rfl
def d_form_weighed : DF := fun ds G Q _ => ∃ (fl : DV) (fs : List Fm) (ws : List (Nat × Int)) (nb ns : Nat), ds = [fl, .tup (ws.map wdv)] ∧ SeqD G fl (fs.map Fm.dv) ∧ FmsOk fs nb ns ∧ 0 < fs.length ∧ WsOk ws fs.length ∧ ∀ G', Sub G G' → Q (weighed fs ws nb ns).dv G'
theorem len_form_weighed : ∀ ds G Q Y, d_form_weighed ds G Q Y → ds.length = 2 := by
  rintro ds G Q Y ⟨fl, fs, ws, nb, ns, rfl, _⟩; rfl
theorem ok_form_weighed : ∀ ds G Q Y, d_form_weighed ds G Q Y → w_form_weighed (bodyEnds Q Y) (start0 10 ds) G := by
  rintro ds G Q Y ⟨fl, fs, ws, nb, ns, rfl, hfl, F, f0, Wo, q⟩
  rw [st_form_weighed]
  unfold w_form_weighed
  have m0 : fs[0] ∈ fs := List.getElem_mem f0
  have le : ∀ {n : Nat}, n ≤ 100000 → n ≤ sizeLine := fun h => by rw [sizeLine_eq]; omega
  walk_at "dl"
  refine hfl.ix (at_some f0 rfl) ?_
  simp only [Fm.dv]
  walk_at "dl"
  refine lcT_map _ (fun _ => .int 0) (fun _ g => Sub G g) Sub.refl (fun _ _ _ => trivial) (by rw [F.lb _ m0]; exact le F.nb) (fun i x g K K2 e me r k => ?_) (fun g1 r1 pb g2 hp1 s1 e1 => ?_)
  · walk_at "dl"
    exact k _ r
  rw [zeros, F.lb _ m0] at e1
  have t1 := r1.trans s1
  walk_at "dl"
  refine (hfl.sub t1).ix (at_some f0 rfl) ?_
  simp only [Fm.dv]
  walk_at "dl"
  refine lcT_map _ (fun _ => .int 0) (fun _ g => Sub g2 g) Sub.refl (fun _ _ _ => trivial) (by rw [F.ls _ m0]; exact le F.ns) (fun i x g K K2 e me r k => ?_) (fun g3 r3 ps g4 hp3 s3 e3 => ?_)
  · walk_at "dl"
    exact k _ r
  rw [zeros, F.ls _ m0] at e3
  have t3 := r3.trans s3
  have e1' := t3 _ _ e1
  walk_at "dl"
  refine s_seq (s_for ?_)
  walk_at "dl"
  refine forT _ (fun i e g => ∃ (pb ps : Addr) (a b c d f : Option DV), Sub G g ∧ g pb = some (.lst (((List.range nb).map fun j => wsum fs (ws.take i) fun f => f.by_.getD j 0).map .int)) ∧ g ps = some (.lst (((List.range ns).map fun j => wsum fs (ws.take i) fun f => f.st.getD j 0).map .int)) ∧
      e = [some fl, some (.tup (ws.map wdv)), some (.ref pb), a, some (.ref ps), some (.int (wsum fs (ws.take i) Fm.p)), b, c, d, f])
    ⟨pb, ps, _, _, _, _, _, t1.trans t3, e1', e3, rfl⟩ (fun _ _ _ _ => trivial) ?_ ?_
  · rintro i w e g K ex mem ⟨pb, ps, a, b, c, d, f, sg, eb, es, rfl⟩ k
    have hi := Wo.ix w mem
    have hm := getD_mem hi
    have hw := Wo.sm w mem
    simp only [wdv]
    walk_at "dl"
    refine (hfl.sub sg).ix (at_some hi rfl) ?_
    simp only [Fm.dv]
    walk_at "dl"
    rw [zip2L_map]
    refine lcT_map _ (fun p => .int (p.1 + w.2 * p.2)) (fun _ g' => Sub g g') Sub.refl (fun i G r => ⟨r _ _ eb, trivial⟩) (by rw [List.length_zip, List.length_map, List.length_range]; exact le (Nat.le_trans (Nat.min_le_left _ _) F.nb)) (fun i x g' K K2 e me r k => ?_) (fun g5 r5 pb2 g6 hp5 s5 e5 => ?_)
    · have hz := List.of_mem_zip (show (x.1, x.2) ∈ _ from me)
      walk_at "dl"
      refine s_mul (Sm.mul hw (F.sb _ hm.2 _ hz.2)) ?_
      walk_at "dl"
      exact k _ r
    rw [weigh_step Fm.by_ ex hi (F.lb _ hm.2)] at e5
    have t5 := r5.trans s5
    have es2 := t5 _ _ es
    walk_at "dl"
    rw [zip2L_map]
    refine lcT_map _ (fun p => .int (p.1 + w.2 * p.2)) (fun _ g' => Sub g6 g') Sub.refl (fun i G r => ⟨r _ _ es2, trivial⟩) (by rw [List.length_zip, List.length_map, List.length_range]; exact le (Nat.le_trans (Nat.min_le_left _ _) F.ns)) (fun i x g' K K2 e me r k => ?_) (fun g7 r7 ps2 g8 hp7 s7 e7 => ?_)
    · have hz := List.of_mem_zip (show (x.1, x.2) ∈ _ from me)
      walk_at "dl"
      refine s_mul (Sm.mul hw (F.ss _ hm.2 _ hz.2)) ?_
      walk_at "dl"
      exact k _ r
    rw [weigh_step Fm.st ex hi (F.ls _ hm.2)] at e7
    have t7 := r7.trans s7
    walk_at "dl"
    refine s_mul (Sm.mul hw (F.sp _ hm.2)) ?_
    walk_at "dl"
    have hz := wsum_step (fs := fs) Fm.p ex
    rw [hm.1] at hz
    rw [← hz]
    exact k _ _ ⟨pb2, ps2, _, _, _, _, _, sg.trans (t5.trans t7), t7 _ _ e5, e7, rfl⟩
  · rintro e g ⟨pb, ps, a, b, c, d, f, sg, eb, es, rfl⟩
    rw [List.take_length] at eb es ⊢
    walk_at "dl"
    exact q _ sg

abbrev s_is_whole_from : Stmt := top 2
theorem sc_is_whole_from : FnScope ["thing", "least"] ["thing", "least"] (defScope s_is_whole_from) := ⟨rfl, rfl, rfl, by decide +kernel, rfl, by decide +kernel, by decide +kernel⟩
/- is_whole_from : 0 thing, 1 least -/
theorem st_is_whole_from (x0 x1 : DV) : start0 2 [x0, x1] = [some x0, some x1] := rfl
def w_is_whole_from : DS := (wRet (wAnd (wCB dIsi (wCons (wVar 0) (wCons (wC (.ty "int")) wNil))) (wAnd (wNot (wCB dIsi (wCons (wVar 0) (wCons (wC (.ty "bool")) wNil)))) (wOp dGe (wVar 0) (wVar 1)))))

def wfromB (d : DV) (lo : Int) : Bool := match d with
  | .int i => decide (lo ≤ i)
  | _ => false
def d_is_whole_from : DF := fun ds G Q _ => ∃ (t : Addr) (d : DV) (lo : Int), ds = [d, .int lo] ∧ Tm t G d ∧ Q (.bl (wfromB d lo)) G
theorem len_is_whole_from : ∀ ds G Q Y, d_is_whole_from ds G Q Y → ds.length = 2 := by
  rintro ds G Q Y ⟨t, d, lo, rfl, _⟩; rfl
theorem ok_is_whole_from : ∀ ds G Q Y, d_is_whole_from ds G Q Y → w_is_whole_from (bodyEnds Q Y) (start0 2 ds) G := by
  rintro ds G Q Y ⟨t, d, lo, rfl, h, q⟩
  rw [st_is_whole_from]
  unfold w_is_whole_from
  walk_at "dl"
  cases h with
  | lst hg hn => walk_at "dl"; exact q
  | dic hg hn => walk_at "dl"; exact q
  | _ => walk_at "dl"; exact q
abbrev s_is_weights : Stmt := top 3
theorem sc_is_weights : FnScope ["thing", "last", "one"] ["thing"] (defScope s_is_weights) := ⟨rfl, rfl, rfl, by decide +kernel, rfl, by decide +kernel, by decide +kernel⟩
/- is_weights : 0 thing, 1 last, 2 one -/
theorem st_is_weights (x0 : DV) : start0 3 [x0] = [some x0, none, none] := rfl
def w_is_weights : DS := (wSeq (wIfS (wNotT (wTst (wCB dIsi (wCons (wVar 0) (wCons (wC (.ty "tuple")) wNil)))))
  (wRet (wC (.bl false)))
  wNext)
  (wSeq (wSet 1 (wNeg (wC (.int 1))))
  (wSeq (wFor (wiSeq (wVar 0)) (wgName 2)
  (wSeq (wIfS (wOrT (wNotT (wTst (wCB dIsi (wCons (wVar 2) (wCons (wC (.ty "tuple")) wNil))))) (wTst (wOp (dEq true) (wCB dLen (wCons (wVar 2) wNil)) (wC (.int 2)))))
  (wRet (wC (.bl false)))
  wNext)
  (wSeq (wIfS (wOrT (wNotT (wTst (wCall d_is_whole_from (wCons (wOp dIx (wVar 2) (wC (.int 0))) (wCons (wOp dAdd (wVar 1) (wC (.int 1))) wNil))))) (wNotT (wTst (wCall d_is_whole_from (wCons (wOp dIx (wVar 2) (wC (.int 1))) (wCons (wC (.int 1)) wNil))))))
  (wRet (wC (.bl false)))
  wNext)
  (wSet 1 (wOp dIx (wVar 2) (wC (.int 0)))))))
  (wRet (wC (.bl true))))))

/-- weights as they stand, the numbers rising from above last -/
def wsOf (last : Int) : List DV → Option (List (Nat × Int))
  | [] => some []
  | .tup [.int a, .int b] :: r => if last < a ∧ 1 ≤ b then (wsOf a r).map ((a.toNat, b) :: ·) else none
  | _ :: _ => none
def isW : DV → Option (List (Nat × Int))
  | .tup l => wsOf (-1) l
  | _ => none
theorem wsOf_no {last : Int} {d : DV} {r : List DV} (h : ∀ a b, d ≠ .tup [.int a, .int b]) : wsOf last (d :: r) = none := by
  unfold wsOf
  split
  · rename_i e; cases e
  · rename_i a b r' e
    cases e
    exact absurd rfl (h a b)
  · rfl
theorem wsOf_bad {last a b : Int} {r : List DV} (h : ¬ (last < a ∧ 1 ≤ b)) : wsOf last (.tup [.int a, .int b] :: r) = none := by
  rw [wsOf, if_neg h]
theorem wsOf_ok {last a b : Int} {r : List DV} (h : last < a ∧ 1 ≤ b) : wsOf last (.tup [.int a, .int b] :: r) = (wsOf a r).map ((a.toNat, b) :: ·) := by
  rw [wsOf, if_pos h]
/-- what they are made of -/
theorem wsOf_is : ∀ {l : List DV} {last : Int} {ws : List (Nat × Int)}, -1 ≤ last → wsOf last l = some ws → l = ws.map wdv ∧ (∀ w ∈ ws, last < (w.1 : Int) ∧ 1 ≤ w.2) ∧ ws.Pairwise fun a b => a.1 < b.1
  | [], last, ws, h0, h => by cases h; exact ⟨rfl, by simp, .nil⟩
  | d :: r, last, ws, h0, h => by
    by_cases hd : ∃ a b, d = .tup [.int a, .int b]
    · obtain ⟨a, b, rfl⟩ := hd
      by_cases hc : last < a ∧ 1 ≤ b
      · rw [wsOf_ok hc] at h
        cases hr : wsOf a r with
        | none => rw [hr] at h; cases h
        | some us =>
          rw [hr] at h
          cases h
          obtain ⟨e, h1, h2⟩ := wsOf_is (by omega) hr
          have ha : ((a.toNat : Nat) : Int) = a := by omega
          refine ⟨by rw [e, List.map_cons]; simp [wdv, ha], fun w hw => ?_, List.pairwise_cons.mpr ⟨fun w hw => ?_, h2⟩⟩
          · rcases List.mem_cons.mp hw with rfl | hw
            · exact ⟨by rw [ha]; exact hc.1, hc.2⟩
            · have := h1 w hw; omega
          · have := h1 w hw
            show a.toNat < w.1
            omega
      · rw [wsOf_bad hc] at h; cases h
    · rw [wsOf_no fun a b e => hd ⟨a, b, e⟩] at h; cases h
def d_is_weights : DF := fun ds G Q _ => ∃ (t : Addr) (d : DV), ds = [d] ∧ Tm t G d ∧ Q (.bl (isW d).isSome) G
theorem len_is_weights : ∀ ds G Q Y, d_is_weights ds G Q Y → ds.length = 1 := by
  rintro ds G Q Y ⟨t, d, rfl, _⟩; rfl
theorem pair_no {l : List DV} (h : l.length ≠ 2) : ∀ a b, DV.tup l ≠ .tup [.int a, .int b] := by
  rintro a b e; cases e; exact h rfl
theorem ok_is_weights : ∀ ds G Q Y, d_is_weights ds G Q Y → w_is_weights (bodyEnds Q Y) (start0 3 ds) G := by
  rintro ds G Q Y ⟨t, d, rfl, h, q⟩
  rw [st_is_weights]
  unfold w_is_weights
  walk_at "if"
  cases h with
  | @tup l hi hl =>
    walk_at "dl"
    refine s_seq (s_for ?_)
    walk_at "dl"
    have loop : ∀ (r : List DV) (last : Int) (x : Option DV), -1 ≤ last → (∀ d ∈ r, Tm t G d) → Q (.bl (wsOf last r).isSome) G → forL (fun _ => True) (wgName 2)
        (wSeq (wIfS (wOrT (wNotT (wTst (wCB dIsi (wCons (wVar 2) (wCons (wC (.ty "tuple")) wNil))))) (wTst (wOp (dEq true) (wCB dLen (wCons (wVar 2) wNil)) (wC (.int 2)))))
        (wRet (wC (.bl false)))
        wNext)
        (wSeq (wIfS (wOrT (wNotT (wTst (wCall d_is_whole_from (wCons (wOp dIx (wVar 2) (wC (.int 0))) (wCons (wOp dAdd (wVar 1) (wC (.int 1))) wNil))))) (wNotT (wTst (wCall d_is_whole_from (wCons (wOp dIx (wVar 2) (wC (.int 1))) (wCons (wC (.int 1)) wNil))))))
        (wRet (wC (.bl false)))
        wNext)
        (wSet 1 (wOp dIx (wVar 2) (wC (.int 0)))))) { bodyEnds Q Y with nx := wRet (wC (.bl true)) (bodyEnds Q Y) } r [some (.tup l), some (.int last), x] G := by
      intro r
      induction r with
      | nil =>
        intro last x h0 hr q
        refine s_foNil trivial ?_
        walk_at "dl"
        exact q
      | cons d r ih =>
        intro last x h0 hr q
        have hd := hr d (by simp)
        refine s_foCons trivial ?_
        walk_at "dl"
        walk_at "if"
        have no : (∀ a b, d ≠ .tup [.int a, .int b]) → Q (.bl false) G := fun h => by rw [wsOf_no h] at q; exact q
        cases hd with
        | @tup m hm hml =>
          walk_at "dl"
          refine s_iteN (fun h => ?_) (fun h => ?_)
          · walk_at "dl"
            exact no (pair_no (by omega))
          match m, h, hm with
          | [a, b], _, hm =>
          have ha := hm a (by simp)
          have hb := hm b (by simp)
          walk_at "dl"
          walk_at "if"
          refine ⟨t, a, _, rfl, ha, ?_⟩
          walk_at "dl"
          have noA : (∀ i, a ≠ .int i) → Q (.bl false) G := fun h => no fun i j e => by cases e; exact h i rfl
          have noB : (∀ i, b ≠ .int i) → Q (.bl false) G := fun h => no fun i j e => by cases e; exact h j rfl
          cases ha with
          | int i hi =>
            show if (!wfromB (.int i) (last + 1)) = true then _ else _
            simp only [wfromB]
            refine s_iteN (fun h1 => ?_) (fun h1 => ?_)
            · walk_at "dl"
              by_cases hbi : ∃ j, b = .int j
              · obtain ⟨j, rfl⟩ := hbi
                rw [wsOf_bad (by omega)] at q
                exact q
              · exact noB fun j e => hbi ⟨j, e⟩
            · walk_at "dl"
              refine ⟨t, b, _, rfl, hb, ?_⟩
              walk_at "dl"
              cases hb with
              | int j hj =>
                show if (!wfromB (.int j) 1) = true then _ else _
                simp only [wfromB]
                refine s_iteN (fun h2 => ?_) (fun h2 => ?_)
                · walk_at "dl"
                  rw [wsOf_bad (by omega)] at q
                  exact q
                · walk_at "dl"
                  refine ih i _ (by omega) (fun d hd => hr d (by simp [hd])) ?_
                  rw [wsOf_ok (by omega)] at q
                  rw [Option.isSome_map] at q
                  exact q
              | lst hg hn => exact noB (fun w z => nomatch z)
              | dic hg hn => exact noB (fun w z => nomatch z)
              | _ => exact noB (fun w z => nomatch z)
          | lst hg hn => exact noA (fun w z => nomatch z)
          | dic hg hn => exact noA (fun w z => nomatch z)
          | _ => exact noA (fun w z => nomatch z)
        | lst hg hn => walk_at "dl"; exact no (fun a b z => nomatch z)
        | dic hg hn => walk_at "dl"; exact no (fun a b z => nomatch z)
        | _ => walk_at "dl"; exact no (fun a b z => nomatch z)
    exact loop l (-1) none (by decide) hi q
  | lst hg hn => walk_at "dl"; exact q
  | dic hg hn => walk_at "dl"; exact q
  | _ => walk_at "dl"; exact q

abbrev s_shuts : Stmt := top 4
theorem sc_shuts : FnScope ["forms", "thing", "by", "sorts", "plus", "one"] ["forms", "thing"] (defScope s_shuts) := ⟨rfl, rfl, rfl, by decide +kernel, rfl, by decide +kernel, by decide +kernel⟩
/- shuts : 0 forms, 1 thing, 2 by, 3 sorts, 4 plus, 5 one -/
theorem st_shuts (x0 x1 : DV) : start0 6 [x0, x1] = [some x0, some x1, none, none, none, none] := rfl
def w_shuts : DS := (wSeq (wIfS (wOrT (wNotT (wTst (wCall d_is_weights (wCons (wVar 1) wNil)))) (wOrT (wTst (wOp (dEq false) (wCB dLen (wCons (wVar 1) wNil)) (wC (.int 0)))) (wTst (wOp dGe (wOp dIx (wOp dIx (wVar 1) (wNeg (wC (.int 1)))) (wC (.int 0))) (wCB dLen (wCons (wVar 0) wNil))))))
  (wRet (wC (.bl false)))
  wNext)
  (wSeq (wAsg (wCall d_form_weighed (wCons (wVar 0) (wCons (wVar 1) wNil))) (wgTup (wgCons (wgName 2) (wgCons (wgName 3) (wgCons (wgName 4) wgNil)))))
  (wRet (wAnd (wOp dLt (wVar 4) (wC (.int 0))) (wCB dAll (wCons (wLc [5] (wiSeq (wOp dAdd (wVar 2) (wVar 3))) (wgName 5) wYes (wOp (dEq false) (wVar 5) (wC (.int 0)))) wNil))))))

def zeroF (f : Fm) : Bool := (f.by_ ++ f.st).all fun x => decide (x = 0)
def shutsB (fs : List Fm) (nb ns : Nat) (d : DV) : Bool := match isW d with
  | none => false
  | some ws => !ws.isEmpty && (ws.all fun w => decide (w.1 < fs.length)) && (decide ((weighed fs ws nb ns).p < 0) && zeroF (weighed fs ws nb ns))
theorem isW_is {d : DV} {ws : List (Nat × Int)} (h : isW d = some ws) : d = .tup (ws.map wdv) ∧ (∀ w ∈ ws, 1 ≤ w.2) ∧ ws.Pairwise fun a b => a.1 < b.1 := by
  cases d with
  | tup l =>
    obtain ⟨e, h1, h2⟩ := wsOf_is (by decide) h
    exact ⟨by rw [e], fun w hw => (h1 w hw).2, h2⟩
  | _ => cases h
theorem tm_ws {t : Addr} {G : Gh} {ws : List (Nat × Int)} (h : Tm t G (.tup (ws.map wdv))) : (∀ w ∈ ws, w.2.natAbs < 2 ^ 1000) ∧ ws.length ≤ 1000 := by
  obtain ⟨h1, h2⟩ := h.items
  rw [List.length_map] at h2
  refine ⟨fun w hw => ?_, h2⟩
  have := (h1 (wdv w) (List.mem_map.mpr ⟨w, hw, rfl⟩)).items.1 (.int w.2) (by simp)
  cases this
  assumption
theorem rising_last {n : Nat} {w : Nat × Int} {us : List (Nat × Int)} (h : (us ++ [w]).Pairwise fun a b => a.1 < b.1) : ((us ++ [w]).all fun w => decide (w.1 < n)) = decide (w.1 < n) := by
  rw [Bool.eq_iff_iff, List.all_eq_true, decide_eq_true_iff]
  constructor
  · intro h; exact of_decide_eq_true (h w (by simp))
  · intro hw x hx
    rcases List.mem_append.mp hx with hx | hx
    · have := (List.pairwise_append.mp h).2.2 x hx w (by simp)
      exact decide_eq_true (by omega)
    · rw [show x = w by simpa using hx]; exact decide_eq_true hw
def d_shuts : DF := fun ds G Q _ => ∃ (t : Addr) (fl d : DV) (fs : List Fm) (nb ns : Nat), ds = [fl, d] ∧ SeqD G fl (fs.map Fm.dv) ∧ FmsOk fs nb ns ∧ Tm t G d ∧ ∀ G', Sub G G' → Q (.bl (shutsB fs nb ns d)) G'
theorem len_shuts : ∀ ds G Q Y, d_shuts ds G Q Y → ds.length = 2 := by
  rintro ds G Q Y ⟨t, fl, d, fs, nb, ns, rfl, _⟩; rfl
theorem ok_shuts : ∀ ds G Q Y, d_shuts ds G Q Y → w_shuts (bodyEnds Q Y) (start0 6 ds) G := by
  rintro ds G Q Y ⟨t, fl, d, fs, nb, ns, rfl, hfl, F, hd, q⟩
  rw [st_shuts]
  unfold w_shuts
  have q0 := q _ Sub.refl
  walk_at "if"
  refine ⟨t, d, rfl, hd, ?_⟩
  unfold shutsB at q0 q
  cases hw : isW d with
  | none =>
    rw [hw] at q0
    walk_at "dl"
    exact q0
  | some ws =>
    simp only [hw] at q0 q
    obtain ⟨rfl, hw1, hrise⟩ := isW_is hw
    obtain ⟨hsm, hfew⟩ := tm_ws hd
    walk_at "dl"
    refine s_noB rfl ?_
    walk_at "dl"
    rw [List.length_map]
    refine s_ite (fun h => ?_) (fun h => ?_)
    · walk_at "dl"
      have : ws = [] := List.eq_nil_of_length_eq_zero (by omega)
      subst this
      exact q0
    · walk_at "dl"
      have hne : ws ≠ [] := by rintro rfl; exact h rfl
      obtain ⟨us, w, rfl⟩ : ∃ us w, ws = us ++ [w] := ⟨ws.dropLast, ws.getLast hne, (List.dropLast_concat_getLast hne).symm⟩
      rw [rising_last hrise, show (us ++ [w]).isEmpty = false by simp, Bool.not_false, Bool.true_and] at q0
      simp only [rising_last hrise, show (us ++ [w]).isEmpty = false by simp, Bool.not_false, Bool.true_and] at q
      have hat : L2.atI ((us ++ [w]).map wdv) (-1) = some (wdv w) := by rw [List.map_append]; exact L2.atI_last _ _
      refine s_ixT hat ?_
      unfold wdv
      walk_at "dl"
      refine hfl.len ?_
      rw [List.length_map]
      walk_at "dl"
      refine s_ite (fun h2 => ?_) (fun h2 => ?_)
      · walk_at "dl"
        rw [decide_eq_false (by omega)] at q0
        exact q0
      · simp only [decide_eq_true (show w.1 < fs.length by omega), Bool.true_and] at q
        walk_at "dl"
        have hix : ∀ x ∈ us ++ [w], x.1 < fs.length := fun x hx => by
          have := rising_last (n := fs.length) hrise
          rw [decide_eq_true (show w.1 < fs.length by omega), List.all_eq_true] at this
          exact of_decide_eq_true (this x hx)
        refine ⟨fl, fs, us ++ [w], nb, ns, rfl, hfl, F, by omega, ⟨hix, fun x hx => Nat.lt_of_lt_of_le (hsm x hx) (Nat.pow_le_pow_right (by decide) (by decide)), by omega⟩, fun g s => ?_⟩
        have q1 := fun g' s' => q g' (s.trans s')
        have hb : (weighed fs (us ++ [w]) nb ns).by_.length = nb := by simp [weighed]
        have hs : (weighed fs (us ++ [w]) nb ns).st.length = ns := by simp [weighed]
        have hnb := F.nb
        have hns := F.ns
        generalize weighed fs (us ++ [w]) nb ns = f at *
        simp only [Fm.dv]
        walk_at "dl"
        refine s_andS (zeroF f) (fun hq => ?_) q1
        walk_at "dl"
        refine s_addT (by rw [List.length_map, List.length_map, sizeLine_eq]; omega) ?_
        walk_at "dl"
        rw [← List.map_append]
        refine lcT_map DV.int (fun x => .bl (decide (x = 0))) (fun _ g' => Sub g g') Sub.refl (fun _ _ h => trivial) (by rw [List.length_append, sizeLine_eq]; omega) (fun j x g3 K K2 e me r3 k3 => ?_) (fun g3 r3 pn g4 hpn s4 e4 => ?_)
        · walk_at "dl"
          exact k3 _ r3
        walk_at "dl"
        refine ⟨_, e4, (f.by_ ++ f.st).map (fun x => decide (x = 0)), by rw [List.map_map]; rfl, ?_⟩
        have := hq _ (r3.trans s4)
        rw [zeroF, show (f.by_ ++ f.st).all (fun x => decide (x = 0)) = ((f.by_ ++ f.st).map (fun x => decide (x = 0))).all id by rw [List.all_map]; rfl] at this
        exact this

abbrev s_law_small_form : Stmt := top 10
theorem sc_law_small_form : FnScope ["_law_tape_here", "_law_inputs", "_law_sorts", "_law_by", "_law_k"] ["_law_tape_here", "_law_inputs", "_law_sorts"] (defScope s_law_small_form) := ⟨rfl, rfl, rfl, by decide +kernel, rfl, by decide +kernel, by decide +kernel⟩
/- law_small_form : 0 _law_tape_here, 1 _law_inputs, 2 _law_sorts, 3 _law_by, 4 _law_k -/
theorem st_law_small_form (x0 x1 x2 : DV) : start0 5 [x0, x1, x2] = [some x0, some x1, some x2, none, none] := rfl
def w_law_small_form : DS := (wSeq (wSet 3 (wCB dTuple (wCons (wLc [4] (wiRange1 (wCons (wVar 1) wNil)) (wgName 4) wYes (wOp dIx (wLst (wCons (wC (.int 0)) (wCons (wC (.int 0)) (wCons (wC (.int 1)) (wCons (wNeg (wC (.int 1))) (wCons (wC (.int 2)) wNil)))))) (wCall d_law_draw (wCons (wVar 0) (wCons (wC (.int 5)) wNil))))) wNil)))
  (wRet (wTup (wCons (wVar 3) (wCons (wCB dTuple (wCons (wLc [4] (wiRange1 (wCons (wVar 2) wNil)) (wgName 4) wYes (wOp dIx (wLst (wCons (wC (.int 0)) (wCons (wC (.int 0)) (wCons (wC (.int 1)) (wCons (wNeg (wC (.int 1))) (wCons (wC (.int 3)) wNil)))))) (wCall d_law_draw (wCons (wVar 0) (wCons (wC (.int 5)) wNil))))) wNil)) (wCons (wOp dSub (wCall d_law_draw (wCons (wVar 0) (wCons (wC (.int 9)) wNil))) (wC (.int 4))) wNil))))))

structure FmB (f : Fm) (nb ns : Nat) (B : Nat) : Prop where
  lb : f.by_.length = nb
  ls : f.st.length = ns
  b : ∀ x ∈ f.by_, x.natAbs ≤ B
  s : ∀ x ∈ f.st, x.natAbs ≤ B
  p : f.p.natAbs ≤ B
def d_law_small_form : DF := fun ds G Q _ => ∃ (t c : Addr) (a b n : Nat), ds = [.ref t, .int a, .int b] ∧ TapeAt G t c n ∧ n ≤ 900000000000 ∧ a ≤ 10 ∧ b ≤ 10 ∧ ∀ (f : Fm) G', FmB f a b 4 → TapeAt G' t c (n + 50) → Old t G G' → Q f.dv G'
theorem len_law_small_form : ∀ ds G Q Y, d_law_small_form ds G Q Y → ds.length = 3 := by
  rintro ds G Q Y ⟨t, c, a, b, n, rfl, _⟩; rfl
theorem ok_law_small_form : ∀ ds G Q Y, d_law_small_form ds G Q Y → w_law_small_form (bodyEnds Q Y) (start0 5 ds) G := by
  rintro ds G Q Y ⟨t, c, a, b, n, rfl, tp, hn, ha, hb, q⟩
  rw [st_law_small_form]
  unfold w_law_small_form
  walk_at "dl"
  refine s_rng1 (by omega) ?_
  rw [Int.toNat_natCast]
  refine lcR_all DV.int (fun x => x.natAbs ≤ 4) (fun i g' => TapeAt g' t c (n + i) ∧ Old t G g') ⟨tp, Old.refl⟩ (fun _ _ _ => trivial) (by omega) (fun i g2 K K2 hi r k => ?_) (fun g4 bs r4 hl hP pw G5 hpw s5 e5 => ?_)
  · walk_at "dl"
    intro p3 g3 hp3 s3 e3
    walk_at "dl"
    refine ⟨t, c, 5, _, rfl, r.1.sub s3, by omega, by decide, by decide, fun v g15 v0 v1 tp15 o15 => ?_⟩
    have e15 := o15 _ _ (r.1.ne1 hp3) e3
    walk_at "dl"
    exact pickI [0, 0, 1, -1, 2] (fun n => n.natAbs ≤ 4) (by decide) e15 rfl v0 v1 fun y hy => k y _ hy ⟨tp15.mono (by omega), r.2.trans (s3.old.trans o15)⟩
  have tp5 := r4.1.sub s5
  walk_at "dl"
  refine s_rng1 (by omega) ?_
  rw [Int.toNat_natCast]
  refine lcR_all DV.int (fun x => x.natAbs ≤ 4) (fun i g' => TapeAt g' t c (n + a + i) ∧ Old t G5 g') ⟨tp5, Old.refl⟩ (fun _ _ _ => trivial) (by omega) (fun i g2 K K2 hi r k => ?_) (fun g6 ss r6 hl2 hP2 pw2 G7 hpw2 s7 e7 => ?_)
  · walk_at "dl"
    intro p3 g3 hp3 s3 e3
    walk_at "dl"
    refine ⟨t, c, 5, _, rfl, r.1.sub s3, by omega, by decide, by decide, fun v g15 v0 v1 tp15 o15 => ?_⟩
    have e15 := o15 _ _ (r.1.ne1 hp3) e3
    walk_at "dl"
    exact pickI [0, 0, 1, -1, 3] (fun n => n.natAbs ≤ 4) (by decide) e15 rfl v0 v1 fun y hy => k y _ hy ⟨tp15.mono (by omega), r.2.trans (s3.old.trans o15)⟩
  walk_at "dl"
  refine ⟨t, c, 9, _, rfl, r6.1.sub s7, by omega, by decide, by decide, fun v g8 v0 v1 tp8 o8 => ?_⟩
  walk_at "dl"
  exact q ⟨bs, ss, v - 4⟩ _ ⟨hl, hl2, hP, hP2, by show (v - 4).natAbs ≤ 4; omega⟩ (tp8.mono (by omega)) ((r4.2.sub s5).trans ((r6.2.sub s7).trans o8))
abbrev s_law_closed : Stmt := top 11
theorem sc_law_closed : FnScope ["_law_tape_here", "_law_forms", "_law_often", "_law_times", "_law_form", "_law_lists", "_law_part", "_law_many", "_law_k", "_law_j", "_law_plus", "_law_rest", "_law_one", "_law_more", "_law_at", "_law_weights"] ["_law_tape_here", "_law_forms"] (defScope s_law_closed) := ⟨rfl, rfl, rfl, by decide +kernel, rfl, by decide +kernel, by decide +kernel⟩
/- law_closed : 0 _law_tape_here, 1 _law_forms, 2 _law_often, 3 _law_times, 4 _law_form, 5 _law_lists, 6 _law_part, 7 _law_many, 8 _law_k, 9 _law_j, 10 _law_plus, 11 _law_rest, 12 _law_one, 13 _law_more, 14 _law_at, 15 _law_weights -/
theorem st_law_closed (x0 x1 : DV) : start0 16 [x0, x1] = [some x0, some x1, none, none, none, none, none, none, none, none, none, none, none, none, none, none] := rfl
def w_law_closed : DS := (wSeq (wSet 2 (wOp dAdd (wC (.int 1)) (wCall d_law_draw (wCons (wVar 0) (wCons (wC (.int 3)) wNil)))))
  (wSeq (wSet 3 (wLc [4] (wiSeq (wVar 1)) (wgName 4) wYes (wOp dMul (wCall d_law_draw (wCons (wVar 0) (wCons (wC (.int 4)) wNil))) (wVar 2))))
  (wSeq (wSet 5 (wLst wNil))
  (wSeq (wFor (wiSeq (wLst (wCons (wC (.int 0)) (wCons (wC (.int 1)) wNil)))) (wgName 6)
  (wSeq (wSet 7 (wCB dLen (wCons (wOp dIx (wOp dIx (wVar 1) (wC (.int 0))) (wVar 6)) wNil)))
  (wExpr (wBM "list" dAppend (wVar 5) (wCons (wLc [9] (wiRange1 (wCons (wVar 7) wNil)) (wgName 9) wYes (wCB dSum (wCons (wLc [8] (wiRange1 (wCons (wCB dLen (wCons (wVar 1) wNil)) wNil)) (wgName 8) wYes (wOp dMul (wOp dIx (wVar 3) (wVar 8)) (wOp dIx (wOp dIx (wOp dIx (wVar 1) (wVar 8)) (wVar 6)) (wVar 9)))) wNil))) wNil)))))
  (wSeq (wSet 10 (wCB dSum (wCons (wLc [8] (wiRange1 (wCons (wCB dLen (wCons (wVar 1) wNil)) wNil)) (wgName 8) wYes (wOp dMul (wOp dIx (wVar 3) (wVar 8)) (wOp dIx (wOp dIx (wVar 1) (wVar 8)) (wC (.int 2))))) wNil)))
  (wSeq (wSet 11 (wTup (wCons (wCB dTuple (wCons (wLc [12] (wiSeq (wOp dIx (wVar 5) (wC (.int 0)))) (wgName 12) wYes (wOp dSub (wC (.int 0)) (wOp dFdiv (wVar 12) (wVar 2)))) wNil)) (wCons (wCB dTuple (wCons (wLc [12] (wiSeq (wOp dIx (wVar 5) (wC (.int 1)))) (wgName 12) wYes (wOp dSub (wC (.int 0)) (wOp dFdiv (wVar 12) (wVar 2)))) wNil)) wNil))))
  (wSeq (wSet 13 (wOp dAdd (wVar 11) (wTup (wCons (wOp dSub (wOp dAdd (wOp dSub (wC (.int 0)) (wOp dFdiv (wVar 10) (wVar 2))) (wCall d_law_draw (wCons (wVar 0) (wCons (wC (.int 4)) wNil)))) (wC (.int 2))) wNil))))
  (wSeq (wSet 14 (wCall d_law_draw (wCons (wVar 0) (wCons (wOp dAdd (wCB dLen (wCons (wVar 1) wNil)) (wC (.int 1))) wNil))))
  (wSeq (wExpr (wBM "list" dInsert (wVar 3) (wCons (wVar 14) (wCons (wVar 2) wNil))))
  (wSeq (wSet 15 (wCB dTuple (wCons (wLc [8] (wiRange1 (wCons (wCB dLen (wCons (wVar 3) wNil)) wNil)) (wgName 8) (wTst (wOp dGt (wOp dIx (wVar 3) (wVar 8)) (wC (.int 0)))) (wTup (wCons (wVar 8) (wCons (wOp dIx (wVar 3) (wVar 8)) wNil)))) wNil)))
  (wRet (wTup (wCons (wOp dAdd (wOp dAdd (wSl dSl (wVar 1) wNoPart (wPart (wVar 14))) (wLst (wCons (wVar 13) wNil))) (wSl dSl (wVar 1) (wPart (wVar 14)) wNoPart)) (wCons (wVar 15) wNil))))))))))))))

structure WsB (ws : List (Nat × Int)) : Prop where
  few : ws.length ≤ 10
  ix : ∀ w ∈ ws, w.1 ≤ 10
  sm : ∀ w ∈ ws, w.2.natAbs ≤ 100
theorem div_small {x n : Int} (h : 1 ≤ n) (h9 : n ≤ 3) : (x / n).natAbs ≤ x.natAbs := by
  have e : n = 1 ∨ n = 2 ∨ n = 3 := by omega
  rcases e with rfl | rfl | rfl <;> omega
def d_law_closed : DF := fun ds G Q _ => ∃ (t c a : Addr) (fs : List Fm) (nb ns n : Nat), ds = [.ref t, .ref a] ∧ TapeAt G t c n ∧ n ≤ 900000000000 ∧ a ≠ t ∧ G a = some (.lst (fs.map Fm.dv)) ∧ (∀ f ∈ fs, FmB f nb ns 4) ∧ 0 < fs.length ∧ fs.length ≤ 6 ∧ nb ≤ 10 ∧ ns ≤ 10 ∧
  ∀ (p : Addr) (fs' : List Fm) (ws : List (Nat × Int)) G', G' p = some (.lst (fs'.map Fm.dv)) → (∀ f ∈ fs', FmB f nb ns 1000) → 0 < fs'.length → fs'.length ≤ 7 → p ≠ t → WsB ws → TapeAt G' t c (n + 50) → Old t G G' → Q (.tup [.ref p, .tup (ws.map wdv)]) G'
theorem len_law_closed : ∀ ds G Q Y, d_law_closed ds G Q Y → ds.length = 2 := by
  rintro ds G Q Y ⟨t, c, a, fs, nb, ns, n, rfl, _⟩; rfl
theorem getD_int {l : List Int} {i : Nat} (h : i < l.length) : l[i]? = some (l.getD i 0) ∧ l.getD i 0 ∈ l := by
  have e : l.getD i 0 = l[i] := by rw [List.getD_eq_getElem?_getD, List.getElem?_eq_getElem h]; rfl
  rw [e]
  exact ⟨List.getElem?_eq_getElem h, List.getElem_mem h⟩
theorem ok_law_closed : ∀ ds G Q Y, d_law_closed ds G Q Y → w_law_closed (bodyEnds Q Y) (start0 16 ds) G := by
  rintro ds G Q Y ⟨t, c, a, fs, nb, ns, n, rfl, tp, hn, nat, ea, hf, f0, f6, hnb, hns, q⟩
  rw [st_law_closed]
  unfold w_law_closed
  walk_at "dl"
  refine ⟨t, c, 3, n, rfl, tp, by omega, by decide, by decide, fun u g1 u0 u1 tp1 o1 => ?_⟩
  have ea1 := o1 _ _ nat ea
  walk_at "dl"
  generalize ho : 1 + u = often
  have ho1 : 1 ≤ often ∧ often ≤ 3 := by omega
  refine lcT_all' Fm.dv DV.int (fun x => 0 ≤ x ∧ x ≤ 9) (fun i g' => TapeAt g' t c (n + 1 + i) ∧ Old t g1 g') ⟨tp1, Old.refl⟩ (fun _ _ h => h.2 _ _ nat ea1) (by omega) (fun i f g2 K K2 ex mem r k => ?_) (fun g2 ts r2 hlt htt pt g3 hpt s3 e3 => ?_)
  · have hi := (List.getElem?_eq_some_iff.mp ex).1
    walk_at "dl"
    refine ⟨t, c, 4, _, rfl, r.1, by omega, by decide, by decide, fun v g3 v0 v1 tp3 o3 => ?_⟩
    walk_at "dl"
    refine s_mul (MulOk.of (a := 10) (b := 10) (by omega) (by omega) (by decide) (by decide) (by decide)) ?_
    walk_at "dl"
    refine k _ _ ⟨Int.mul_nonneg v0 (by omega), ?_⟩ ⟨tp3.mono (by omega), r.2.trans o3⟩
    have : v * often ≤ 3 * often := Int.mul_le_mul_of_nonneg_right (by omega) (by omega)
    omega
  have ea3 := s3 _ _ (r2.2 _ _ nat ea1)
  have tp3 := r2.1.sub s3
  have npt : pt ≠ t := r2.1.ne1 hpt
  have hfl : SeqD g3 (.ref a) (fs.map Fm.dv) := .r ea3
  walk_at "dl"
  intro pl g4 hpl s4 e4
  have e34 := s4 _ _ e3
  have ea4 := s4 _ _ ea3
  have nplt : pl ≠ t := tp3.ne1 hpl
  have npl : pt ≠ pl := ne_gone e3 hpl
  have nal : a ≠ pl := ne_gone ea3 hpl
  walk_at "dl"
  refine s_seq (s_for ?_)
  walk_at "dl"
  intro p01 g5 hp01 s5 e5
  have n01 : p01 ≠ pl := (ne_gone e4 hp01).symm
  have F : ∀ (g' : Fm → List Int) (i j : Nat) (f : Fm), fs[i]? = some f → (∀ f ∈ fs, j < (g' f).length ∧ ∀ x ∈ g' f, x.natAbs ≤ 4) → (g' f)[j]? = some ((g' f).getD j 0) ∧ ((g' f).getD j 0).natAbs ≤ 4 := fun g' i j f h hg => by
    obtain ⟨h1, h2⟩ := hg f (List.mem_of_getElem? h)
    exact ⟨(getD_int h1).1, h2 _ (getD_int h1).2⟩
  have small : ∀ bs : List Int, bs.length ≤ 6 → (∀ x ∈ bs, x.natAbs ≤ 36) → bs.sum.natAbs ≤ 216 := fun bs h1 h2 => Nat.le_trans (sum_bound h2) (by omega)
  have row : ∀ (π : Int) (g' : Fm → List Int) (m : Nat) (x4 x8 x9 x10 x11 x12 x13 x14 x15 : Option DV) (Y' : DX) (g : Gh) (R : DV → Gh → Prop), (∀ f : Fm, L2.atI [DV.tup (f.by_.map .int), .tup (f.st.map .int), .int f.p] π = some (.tup ((g' f).map .int))) → (∀ f ∈ fs, (g' f).length = m ∧ ∀ x ∈ g' f, x.natAbs ≤ 4) → m ≤ 10 →
      g a = some (.lst (fs.map Fm.dv)) → g pt = some (.lst (ts.map .int)) → (∀ (p : Addr) (bs : List Int) (g2 : Gh), bs.length = m → (∀ x ∈ bs, x.natAbs ≤ 216) → g p = none → Sub g g2 → g2 p = some (.lst (bs.map .int)) → R (.ref p) g2) →
      wLc [9] (wiRange1 (wCons (wVar 7) wNil)) (wgName 9) wYes (wCB dSum (wCons (wLc [8] (wiRange1 (wCons (wCB dLen (wCons (wVar 1) wNil)) wNil)) (wgName 8) wYes (wOp dMul (wOp dIx (wVar 3) (wVar 8)) (wOp dIx (wOp dIx (wOp dIx (wVar 1) (wVar 8)) (wVar 6)) (wVar 9)))) wNil)) Y'
        [some (.ref t), some (.ref a), some (.int often), some (.ref pt), x4, some (.ref pl), some (.int π), some (.int m), x8, x9, x10, x11, x12, x13, x14, x15] g R := by
    intro π g' m x4 x8 x9 x10 x11 x12 x13 x14 x15 Y' g R hsel hg' hm ega egt qq
    walk_at "dl"
    refine s_rng1 (by omega) ?_
    rw [Int.toNat_natCast]
    refine lcR_all DV.int (fun x => x.natAbs ≤ 216) (fun _ g2 => Sub g g2) Sub.refl (fun _ _ _ => trivial) (by omega) (fun j g2 K K2 hj r k => ?_) (fun g2 bs r2 hl hP p g3 hp s3 e3 => ?_)
    · walk_at "dl"
      rw [List.length_map]
      refine s_rng1 (by omega) ?_
      rw [Int.toNat_natCast]
      refine lcR_all DV.int (fun x => x.natAbs ≤ 36) (fun _ g3 => Sub g2 g3) Sub.refl (fun _ _ _ => trivial) (by omega) (fun i g3 K3 K4 hi r3 k3 => ?_) (fun g3 cs r3 hl3 hP3 p3 g4 hp3 s4 e4 => ?_)
      · have hfi := List.getElem_mem hi
        obtain ⟨h1, h2⟩ := hg' _ hfi
        have hj' : j < (g' fs[i]).length := by omega
        have hx := getD_int hj'
        have hti : i < ts.length := by omega
        have tb := htt _ (List.getElem_mem hti)
        walk_at "dl"
        refine s_ixL (r3 _ _ (r _ _ egt)) (at_int (List.getElem?_eq_getElem hti) (by omega)) ?_
        walk_at "dl"
        refine s_ixL (r3 _ _ (r _ _ ega)) (at_int (List.getElem?_eq_getElem hi) (by omega)) ?_
        walk_at "dl"
        refine s_ixT (hsel fs[i]) ?_
        walk_at "dl"
        refine s_ixT (at_int hx.1 (by omega)) ?_
        have hb := h2 _ hx.2
        refine s_mul (MulOk.of (a := 10) (b := 10) (by omega) (by omega) (by decide) (by decide) (by decide)) ?_
        refine k3 _ _ ?_ r3
        rw [Int.natAbs_mul]
        exact Nat.le_trans (Nat.mul_le_mul (show ts[i].natAbs ≤ 9 by omega) hb) (by decide)
      · walk_at "dl"
        refine ⟨_, e4, cs, rfl, ?_⟩
        exact k _ _ (small cs (by omega) hP3) (r.trans (r3.trans s4))
    · exact qq p bs g3 hl hP (none_sub hp r2) (r2.trans s3) e3
  walk_at "dl"
  refine s_foCons (by exact e5) ?_
  walk_at "dl"
  refine s_ixL (s5 _ _ ea4) (at_some f0 rfl) ?_
  simp only [Fm.dv]
  walk_at "dl"
  have h0 := hf _ (List.getElem_mem f0)
  rw [List.length_map, h0.lb]
  refine row 0 Fm.by_ nb _ _ _ _ _ _ _ _ _ Y g5 _ (fun f => rfl) (fun f hm => ⟨(hf f hm).lb, (hf f hm).b⟩) hnb (s5 _ _ ea4) (s5 _ _ e34) fun pA A g6 hAl hAb hpA s6 eA => ?_
  have e46 := s6 _ _ (s5 _ _ e4)
  walk_at "dl"
  · rw [sizeLine_eq]; decide
  intro g7 o7 e7
  walk_at "dl"
  have npA : pA ≠ pl := (ne_gone (s5 _ _ e4) hpA).symm
  have npA01 : p01 ≠ pA := ne_gone e5 hpA
  have e57 : g7 p01 = _ := o7 _ _ n01 (s6 _ _ e5)
  have eA7 := o7 _ _ npA eA
  have ea7 := o7 _ _ nal (s6 _ _ (s5 _ _ ea4))
  have e37 := o7 _ _ npl (s6 _ _ (s5 _ _ e34))
  refine s_foCons e57 ?_
  walk_at "dl"
  refine s_ixL ea7 (at_some f0 rfl) ?_
  simp only [Fm.dv]
  walk_at "dl"
  rw [List.length_map, h0.ls]
  refine row 1 Fm.st ns _ _ _ _ _ _ _ _ _ Y g7 _ (fun f => rfl) (fun f hm => ⟨(hf f hm).ls, (hf f hm).s⟩) hns ea7 e37 fun pB B g8 hBl hBb hpB s8 eB => ?_
  have e78 := s8 _ _ e7
  walk_at "dl"
  · rw [sizeLine_eq]; exact Nat.le_of_ble_eq_true rfl
  intro g9 o9 e9
  walk_at "dl"
  have npB : pB ≠ pl := (ne_gone e7 hpB).symm
  have e59 := o9 _ _ n01 (s8 _ _ e57)
  have eA9 := o9 _ _ npA (s8 _ _ eA7)
  have eB9 := o9 _ _ npB eB
  have ea9 := o9 _ _ nal (s8 _ _ ea7)
  have e39 := o9 _ _ npl (s8 _ _ e37)
  have tp9 : TapeAt g9 t c (n + 1 + fs.length) := by
    have h1 := ((tp3.sub s4).sub s5).sub s6
    have h2 := (h1.old o7 nplt (tp3.ne2 hpl)).sub s8
    exact h2.old o9 nplt (tp3.ne2 hpl)
  have oG9 : Old t G g9 := by
    have h1 : Old t G g3 := (o1.trans r2.2).sub s3
    have hn3 : g3 pl = none := hpl
    exact h1.trans ((((s4.trans (s5.trans s6)).own hn3 o7).trans s8).own hn3 o9).old
  refine s_foNil e59 ?_
  walk_at "dl"
  rw [List.length_map]
  refine s_rng1 (by omega) ?_
  rw [Int.toNat_natCast]
  refine lcR_all DV.int (fun x => x.natAbs ≤ 36) (fun _ g' => Sub g9 g') Sub.refl (fun _ _ _ => trivial) (by omega) (fun i g3 K3 K4 hi r3 k3 => ?_) (fun g10 cs r10 hl3 hP3 p3 g11 hp3 s11 e11 => ?_)
  · have hti : i < ts.length := by omega
    have tb := htt _ (List.getElem_mem hti)
    have hp := (hf _ (List.getElem_mem hi)).p
    walk_at "dl"
    refine s_ixL (r3 _ _ e39) (at_int (List.getElem?_eq_getElem hti) (by omega)) ?_
    walk_at "dl"
    refine s_ixL (r3 _ _ ea9) (at_int (List.getElem?_eq_getElem hi) (by omega)) ?_
    simp only [Fm.dv]
    walk_at "dl"
    refine s_mul (MulOk.of (a := 10) (b := 10) (by omega) (by omega) (by decide) (by decide) (by decide)) ?_
    refine k3 _ _ ?_ r3
    rw [Int.natAbs_mul]
    exact Nat.le_trans (Nat.mul_le_mul (show ts[i].natAbs ≤ 9 by omega) hp) (by decide)
  walk_at "dl"
  refine ⟨_, e11, cs, rfl, ?_⟩
  have hcs := small cs (by omega) hP3
  generalize cs.sum = plus at *
  have s911 := r10.trans s11
  walk_at "dl"
  have eA11 := s911 _ _ eA9
  refine lcT_all' DV.int DV.int (fun x => x.natAbs ≤ 216) (fun _ g' => Sub g11 g') Sub.refl (fun _ _ h => h _ _ eA11) (by omega) (fun i x g2 K K2 ex mem r k => ?_) (fun g12 rA r12 hlA hPA pA2 g13 hpA2 s13 eA2 => ?_)
  · have := hAb x mem
    walk_at "dl"
    refine s_fdiv (by omega) (log_small (by omega) (by omega)) ?_
    walk_at "dl"
    have := div_small (x := x) ho1.1 ho1.2
    exact k _ _ (by omega) r
  walk_at "dl"
  have s1113 := r12.trans s13
  have eB13 := s1113 _ _ (s911 _ _ eB9)
  refine lcT_all' DV.int DV.int (fun x => x.natAbs ≤ 216) (fun _ g' => Sub g13 g') Sub.refl (fun _ _ h => h _ _ eB13) (by omega) (fun i x g2 K K2 ex mem r k => ?_) (fun g14 rB r14 hlB hPB pB2 g15 hpB2 s15 eB2 => ?_)
  · have := hBb x mem
    walk_at "dl"
    refine s_fdiv (by omega) (log_small (by omega) (by omega)) ?_
    walk_at "dl"
    have := div_small (x := x) ho1.1 ho1.2
    exact k _ _ (by omega) r
  have s915 := s911.trans (s1113.trans (r14.trans s15))
  walk_at "dl"
  refine s_fdiv (by omega) (log_small (by omega) (by omega)) ?_
  walk_at "dl"
  have hpo := div_small (x := plus) ho1.1 ho1.2
  refine ⟨t, c, 4, _, rfl, tp9.sub s915, by omega, by decide, by decide, fun v g16 v0 v1 tp16 o16 => ?_⟩
  have ea16 := o16 _ _ nat (s915 _ _ ea9)
  have e316 := o16 _ _ npt (s915 _ _ e39)
  walk_at "dl"
  generalize hpp : 0 - plus / often + v - 2 = pp
  have hpp1 : pp.natAbs ≤ 1000 := by omega
  rw [List.length_map]
  walk_at "dl"
  refine ⟨t, c, (fs.length : Int) + 1, _, rfl, tp16, by omega, by omega, by omega, fun w g17 w0 w1 tp17 o17 => ?_⟩
  obtain ⟨w, rfl⟩ := Int.eq_ofNat_of_zero_le w0
  have ea17 := o17 _ _ nat ea16
  have e317 := o17 _ _ npt e316
  walk_at "dl"
  refine x_insert e317 ⟨by rw [List.length_map, sizeLine_eq]; omega, by omega, by omega⟩ fun g18 o18 e18 => ?_
  have nta : a ≠ pt := by
    have hpt' := r2.2
    exact ne_gone (r2.2 _ _ nat ea1) hpt
  have ea18 := o18 _ _ nta ea17
  rw [Int.toNat_natCast, ← List.map_take, ← List.map_drop] at e18
  have e18' : g18 pt = some (.lst ((ts.take w ++ [often] ++ ts.drop w).map DV.int)) := by rw [e18, List.map_append, List.map_append]; rfl
  have htsl : (ts.take w ++ [often] ++ ts.drop w).length = fs.length + 1 := by simp [List.length_take, List.length_drop]; omega
  have htsb : ∀ x ∈ ts.take w ++ [often] ++ ts.drop w, 0 ≤ x ∧ x ≤ 9 := fun x hx => by
    rcases List.mem_append.mp hx with h | h
    · rcases List.mem_append.mp h with h | h
      · exact htt x (List.mem_of_mem_take h)
      · rw [show x = often by simpa using h]; omega
    · exact htt x (List.mem_of_mem_drop h)
  generalize ts.take w ++ [often] ++ ts.drop w = us at *
  walk_at "dl"
  rw [List.length_map]
  refine s_rng1 (by omega) ?_
  rw [Int.toNat_natCast, intsFrom_eq]
  refine lcT_filter _ (fun k : Nat => wdv (k, us.getD k 0)) (fun k => decide (0 < us.getD k 0)) (fun _ g' => Sub g18 g') Sub.refl (fun _ _ _ => trivial) (by rw [List.length_range, sizeLine_eq]; omega) (fun i k g2 K K2 e me r ky kn => ?_) (fun g19 r19 pw g20 hpw s20 e20 => ?_)
  · have hk := List.mem_range.mp me
    have hx := getD_int hk
    walk_at "dl"
    refine s_ixL (r _ _ e18') (at_int hx.1 (by omega)) ?_
    walk_at "dl"
    refine s_ite (fun h => ?_) (fun h => ?_)
    · walk_at "dl"
      refine s_ixL (r _ _ e18') (at_int hx.1 (by omega)) ?_
      walk_at "dl"
      have e0 : (0 : Int) + (k : Int) = (k : Int) := Int.zero_add _
      rw [e0]
      exact ky (decide_eq_true h) _ r
    · exact kn (decide_eq_false h) _ r
  have hws : WsB (((List.range us.length).filter fun k => decide (0 < us.getD k 0)).map fun k : Nat => (k, us.getD k 0)) := by
    refine ⟨?_, fun x hx => ?_, fun x hx => ?_⟩
    · rw [List.length_map]
      have := List.length_filter_le (fun k => decide (0 < us.getD k 0)) (List.range us.length)
      rw [List.length_range] at this; omega
    · obtain ⟨k, hk, rfl⟩ := List.mem_map.mp hx
      have := List.mem_range.mp (List.mem_filter.mp hk).1
      show k ≤ 10; omega
    · obtain ⟨k, hk, rfl⟩ := List.mem_map.mp hx
      have hk' := List.mem_range.mp (List.mem_filter.mp hk).1
      have := htsb _ (getD_int hk').2
      show (us.getD k 0).natAbs ≤ 100; omega
  have e20' : g20 pw = some (.lst ((((List.range us.length).filter fun k => decide (0 < us.getD k 0)).map fun k : Nat => (k, us.getD k 0)).map wdv)) := by rw [e20, List.map_map]; rfl
  generalize ((List.range us.length).filter fun k => decide (0 < us.getD k 0)).map (fun k : Nat => (k, us.getD k 0)) = ws at *
  have s1820 := r19.trans s20
  have ea20 := s1820 _ _ ea18
  walk_at "dl"
  intro p21 g21 hp21 s21 e21
  have c1 : cutL (fs.map Fm.dv) none (some (w : Int)) = (fs.take w).map Fm.dv := by rw [cut_to (by omega), List.map_take]; rfl
  have c2 : cutL (fs.map Fm.dv) (some (w : Int)) none = (fs.drop w).map Fm.dv := by rw [cut_from (by omega), List.map_drop]; rfl
  rw [c1] at e21
  have ea21 := s21 _ _ ea20
  walk_at "dl"
  intro p22 g22 hp22 s22 e22
  refine x_addL (s22 _ _ e21) e22 (by rw [List.length_map, List.length_take, List.length_singleton, sizeLine_eq]; omega) fun p23 g23 hp23 s23 e23 => ?_
  have ea23 := s23 _ _ (s22 _ _ ea21)
  walk_at "dl"
  intro p24 g24 hp24 s24 e24
  rw [c2] at e24
  refine x_addL (s24 _ _ e23) e24 (by rw [List.length_append, List.length_map, List.length_map, List.length_take, List.length_drop, List.length_singleton, sizeLine_eq]; omega) fun p25 g25 hp25 s25 e25 => ?_
  walk_at "dl"
  have hmore : DV.tup [DV.tup (rA.map .int), DV.tup (rB.map .int), DV.int pp] = (⟨rA, rB, pp⟩ : Fm).dv := rfl
  have hl25 : g25 p25 = some (.lst ((fs.take w ++ [(⟨rA, rB, pp⟩ : Fm)] ++ fs.drop w).map Fm.dv)) := by
    rw [e25, List.map_append, List.map_append]; rfl
  have sz := s21.trans (s22.trans (s23.trans (s24.trans s25)))
  refine q p25 _ ws g25 hl25 (fun f hf' => ?_) (by rw [List.length_append, List.length_append, List.length_singleton]; omega) (by rw [List.length_append, List.length_append, List.length_singleton, List.length_take, List.length_drop]; omega) ?_ hws (((((tp17.old o18 npt (tp.sub Sub.refl |>.ne2 (by exact none_old (none_old hpt r2.2 npt) o1 npt))).sub s1820).sub sz)).mono (by omega)) ?_
  · have big : ∀ f, FmB f nb ns 4 → FmB f nb ns 1000 := fun f h => ⟨h.lb, h.ls, fun x hx => Nat.le_trans (h.b x hx) (by decide), fun x hx => Nat.le_trans (h.s x hx) (by decide), Nat.le_trans h.p (by decide)⟩
    rcases List.mem_append.mp hf' with h | h
    · rcases List.mem_append.mp h with h | h
      · exact big f (hf f (List.mem_of_mem_take h))
      · rw [show f = (⟨rA, rB, pp⟩ : Fm) by simpa using h]
        exact ⟨by show rA.length = nb; omega, by show rB.length = ns; omega, fun x hx => Nat.le_trans (hPA x hx) (by decide), fun x hx => Nat.le_trans (hPB x hx) (by decide), hpp1⟩
    · exact big f (hf f (List.mem_of_mem_drop h))
  · exact (((tp17.old o18 npt (tp.ne2 (none_old (none_old hpt r2.2 npt) o1 npt))).sub s1820).sub (s21.trans (s22.trans (s23.trans s24)))).ne1 hp25
  · have hptG : G pt = none := none_old (none_old hpt r2.2 npt) o1 npt
    exact Old.sub (Old.ownR2 o18 hptG (oG9.trans ((s915.old.trans o16).trans o17))) (s1820.trans sz)

abbrev s_law_is_weights : Stmt := top 12
theorem sc_law_is_weights : FnScope ["_law_thing", "_law_many", "_law_last", "_law_one", "_law_part"] ["_law_thing", "_law_many"] (defScope s_law_is_weights) := ⟨rfl, rfl, rfl, by decide +kernel, rfl, by decide +kernel, by decide +kernel⟩
/- law_is_weights : 0 _law_thing, 1 _law_many, 2 _law_last, 3 _law_one, 4 _law_part -/
theorem st_law_is_weights (x0 x1 : DV) : start0 5 [x0, x1] = [some x0, some x1, none, none, none] := rfl
def w_law_is_weights : DS := (wSeq (wIfS (wNotT (wTst (wCB dIsi (wCons (wVar 0) (wCons (wC (.ty "tuple")) wNil)))))
  (wRet (wC (.bl false)))
  wNext)
  (wSeq (wSet 2 (wNeg (wC (.int 1))))
  (wSeq (wFor (wiSeq (wVar 0)) (wgName 3)
  (wSeq (wIfS (wOrT (wNotT (wTst (wCB dIsi (wCons (wVar 3) (wCons (wC (.ty "tuple")) wNil))))) (wTst (wOp (dEq true) (wCB dLen (wCons (wVar 3) wNil)) (wC (.int 2)))))
  (wRet (wC (.bl false)))
  wNext)
  (wSeq (wIfS (wTst (wOp (dEqNil true) (wLc [4] (wiSeq (wVar 3)) (wgName 4) (wOrT (wNotT (wTst (wCB dIsi (wCons (wVar 4) (wCons (wC (.ty "int")) wNil))))) (wTst (wCB dIsi (wCons (wVar 4) (wCons (wC (.ty "bool")) wNil))))) (wVar 4)) (wLst wNil)))
  (wRet (wC (.bl false)))
  wNext)
  (wSeq (wIfS (wOrT (wTst (wOp dLe (wOp dIx (wVar 3) (wC (.int 0))) (wVar 2))) (wOrT (wTst (wOp dGe (wOp dIx (wVar 3) (wC (.int 0))) (wVar 1))) (wTst (wOp dLt (wOp dIx (wVar 3) (wC (.int 1))) (wC (.int 1))))))
  (wRet (wC (.bl false)))
  wNext)
  (wSet 2 (wOp dIx (wVar 3) (wC (.int 0))))))))
  (wRet (wC (.bl true))))))

def allB (n : Nat) : Option (List (Nat × Int)) → Bool
  | none => false
  | some ws => ws.all fun w => decide (w.1 < n)
theorem allB_map {n : Nat} {a : Nat} {b : Int} {o : Option (List (Nat × Int))} : allB n (o.map ((a, b) :: ·)) = (decide (a < n) && allB n o) := by
  cases o with
  | none => simp [allB]
  | some ws => simp [allB]
def d_law_is_weights : DF := fun ds G Q _ => ∃ (t : Addr) (d : DV) (n : Nat), ds = [d, .int n] ∧ Tm t G d ∧ ∀ G', Sub G G' → Q (.bl (allB n (isW d))) G'
theorem len_law_is_weights : ∀ ds G Q Y, d_law_is_weights ds G Q Y → ds.length = 2 := by
  rintro ds G Q Y ⟨t, d, n, rfl, _⟩; rfl
def notInt (d : DV) : Bool := !(d.isa "int") || d.isa "bool"
theorem ok_law_is_weights : ∀ ds G Q Y, d_law_is_weights ds G Q Y → w_law_is_weights (bodyEnds Q Y) (start0 5 ds) G := by
  rintro ds G Q Y ⟨t, d, n, rfl, h, q⟩
  rw [st_law_is_weights]
  unfold w_law_is_weights
  have q0 := q _ Sub.refl
  walk_at "if"
  cases h with
  | @tup l hi hl =>
    walk_at "dl"
    refine s_seq (s_for ?_)
    walk_at "dl"
    have loop : ∀ (r : List DV) (last : Int) (x3 x4 : Option DV) (G : Gh), -1 ≤ last → (∀ d ∈ r, Tm t G d) → (∀ G', Sub G G' → Q (.bl (allB n (wsOf last r))) G') → forL (fun _ => True) (wgName 3)
        (wSeq (wIfS (wOrT (wNotT (wTst (wCB dIsi (wCons (wVar 3) (wCons (wC (.ty "tuple")) wNil))))) (wTst (wOp (dEq true) (wCB dLen (wCons (wVar 3) wNil)) (wC (.int 2)))))
        (wRet (wC (.bl false)))
        wNext)
        (wSeq (wIfS (wTst (wOp (dEqNil true) (wLc [4] (wiSeq (wVar 3)) (wgName 4) (wOrT (wNotT (wTst (wCB dIsi (wCons (wVar 4) (wCons (wC (.ty "int")) wNil))))) (wTst (wCB dIsi (wCons (wVar 4) (wCons (wC (.ty "bool")) wNil))))) (wVar 4)) (wLst wNil)))
        (wRet (wC (.bl false)))
        wNext)
        (wSeq (wIfS (wOrT (wTst (wOp dLe (wOp dIx (wVar 3) (wC (.int 0))) (wVar 2))) (wOrT (wTst (wOp dGe (wOp dIx (wVar 3) (wC (.int 0))) (wVar 1))) (wTst (wOp dLt (wOp dIx (wVar 3) (wC (.int 1))) (wC (.int 1))))))
        (wRet (wC (.bl false)))
        wNext)
        (wSet 2 (wOp dIx (wVar 3) (wC (.int 0))))))) { bodyEnds Q Y with nx := wRet (wC (.bl true)) (bodyEnds Q Y) } r [some (.tup l), some (.int n), some (.int last), x3, x4] G := by
      intro r
      induction r with
      | nil =>
        intro last x3 x4 G h0 hr q
        refine s_foNil trivial ?_
        walk_at "dl"
        exact q _ Sub.refl
      | cons d r ih =>
        intro last x3 x4 G h0 hr q
        have hd := hr d (by simp)
        refine s_foCons trivial ?_
        walk_at "dl"
        walk_at "if"
        have no : (∀ a b, d ≠ .tup [.int a, .int b]) → ∀ G', Sub G G' → Q (.bl false) G' := fun h G' s => by have := q G' s; rw [wsOf_no h] at this; exact this
        cases hd with
        | @tup m hm hml =>
          walk_at "dl"
          refine s_iteN (fun h => ?_) (fun h => ?_)
          · walk_at "dl"
            exact no (pair_no (by omega)) _ Sub.refl
          match m, h, hm with
          | [a, b], _, hm =>
          have ha := hm a (by simp)
          have hb := hm b (by simp)
          walk_at "dl"
          walk_at "if"
          change lcL _ _ _ _ _ _ ([a, b].map id) _ _
          refine lcT_filter id id notInt (fun _ g' => Sub G g') Sub.refl (fun _ _ _ => trivial) (by rw [sizeLine_eq]; simp) (fun j x g4 K K2 e me r3 ky kn => ?_) (fun g4 r4 pn g5 hpn s5 e5 => ?_)
          · have hx : Tm t g4 x := by
              simp only [List.mem_cons, List.not_mem_nil, or_false] at me
              rcases me with rfl | rfl
              · exact ha.sub r3
              · exact hb.sub r3
            show wgName 4 x _ _ _
            walk_at "dl"
            refine s_isiTm hx (by decide) ?_
            walk_at "dl"
            cases h1 : x.isa "int" with
            | false =>
              walk_at "dl"
              exact ky (by simp [notInt, h1]) _ r3
            | true =>
              walk_at "dl"
              refine s_isiTm hx (by decide) ?_
              walk_at "dl"
              cases h2 : x.isa "bool" with
              | false =>
                walk_at "dl"
                exact kn (by simp [notInt, h1, h2]) _ r3
              | true =>
                walk_at "dl"
                exact ky (by simp [notInt, h1, h2]) _ r3
          rw [List.map_id] at e5
          walk_at "dl"
          intro p6 g6 hp6 s6 e6
          walk_at "dl"
          have s46 := r4.trans (s5.trans s6)
          by_cases hab : ∃ i j, a = .int i ∧ b = .int j
          · obtain ⟨i, j, rfl, rfl⟩ := hab
            refine s_noB rfl ?_
            walk_at "dl"
            walk_at "if"
            refine s_ite (fun h1 => ?_) (fun h1 => ?_)
            · walk_at "dl"
              have := q _ s46
              rw [wsOf_bad (by omega)] at this
              exact this
            · walk_at "dl"
              refine s_ite (fun h2 => ?_) (fun h2 => ?_)
              · walk_at "dl"
                have := q _ s46
                by_cases hj : 1 ≤ j
                · rw [wsOf_ok (by omega), allB_map, decide_eq_false (by omega)] at this
                  exact this
                · rw [wsOf_bad (by omega)] at this
                  exact this
              · walk_at "dl"
                refine s_ite (fun h3 => ?_) (fun h3 => ?_)
                · walk_at "dl"
                  have := q _ s46
                  rw [wsOf_bad (by omega)] at this
                  exact this
                · walk_at "dl"
                  refine ih i _ _ _ (by omega) (fun d hd => (hr d (by simp [hd])).sub s46) fun G' s' => ?_
                  have := q _ (s46.trans s')
                  rw [wsOf_ok (by omega), allB_map, decide_eq_true (by omega), Bool.true_and] at this
                  exact this
          · have hne : ([a, b].filter notInt).isEmpty = false := by
              have kind : ∀ x : DV, Tm t G x → notInt x = false → ∃ i, x = .int i := fun x hx hn => by
                cases hx with
                | int i _ => exact ⟨i, rfl⟩
                | non => exact absurd hn (by decide)
                | bl b => cases b <;> exact absurd hn (by decide)
                | str z => exact absurd hn (by simp [notInt, DV.isa, isaB])
                | tup _ _ => exact absurd hn (by simp [notInt, DV.isa, isaB])
                | lst _ _ => exact absurd hn (by simp [notInt, DV.isa])
                | dic _ _ => exact absurd hn (by simp [notInt, DV.isa])
              cases h1 : notInt a with
              | true => simp [List.filter_cons, h1]
              | false =>
                cases h2 : notInt b with
                | true => simp [List.filter_cons, h1, h2]
                | false =>
                  obtain ⟨i, rfl⟩ := kind a ha h1
                  obtain ⟨j, rfl⟩ := kind b hb h2
                  exact absurd ⟨i, j, rfl, rfl⟩ hab
            rw [hne]
            walk_at "dl"
            exact no (fun i j e => by cases e; exact hab ⟨i, j, rfl, rfl⟩) _ s46
        | lst hg hn => walk_at "dl"; exact no (fun a b z => nomatch z) _ Sub.refl
        | dic hg hn => walk_at "dl"; exact no (fun a b z => nomatch z) _ Sub.refl
        | _ => walk_at "dl"; exact no (fun a b z => nomatch z) _ Sub.refl
    exact loop l (-1) none none G (by decide) hi q
  | lst hg hn => walk_at "dl"; exact q0
  | dic hg hn => walk_at "dl"; exact q0
  | _ => walk_at "dl"; exact q0

abbrev s_law_shut : Stmt := top 13
theorem sc_law_shut : FnScope ["_law_forms", "_law_thing", "_law_part", "_law_j", "_law_k", "_law_times"] ["_law_forms", "_law_thing"] (defScope s_law_shut) := ⟨rfl, rfl, rfl, by decide +kernel, rfl, by decide +kernel, by decide +kernel⟩
/- law_shut : 0 _law_forms, 1 _law_thing, 2 _law_part, 3 _law_j, 4 _law_k, 5 _law_times -/
theorem st_law_shut (x0 x1 : DV) : start0 6 [x0, x1] = [some x0, some x1, none, none, none, none] := rfl
def w_law_shut : DS := (wSeq (wIfS (wNotT (wTst (wCall d_law_is_weights (wCons (wVar 1) (wCons (wCB dLen (wCons (wVar 0) wNil)) wNil)))))
  (wRet (wC (.bl false)))
  wNext)
  (wSeq (wFor (wiSeq (wLst (wCons (wC (.int 0)) (wCons (wC (.int 1)) wNil)))) (wgName 2)
  (wFor (wiRange1 (wCons (wCB dLen (wCons (wOp dIx (wOp dIx (wVar 0) (wC (.int 0))) (wVar 2)) wNil)) wNil)) (wgName 3)
  (wIfS (wTst (wOp (dEq true) (wCB dSum (wCons (wLc [4, 5] (wiSeq (wVar 1)) (wgTup (wgCons (wgName 4) (wgCons (wgName 5) wgNil))) wYes (wOp dMul (wVar 5) (wOp dIx (wOp dIx (wOp dIx (wVar 0) (wVar 4)) (wVar 2)) (wVar 3)))) wNil)) (wC (.int 0))))
  (wRet (wC (.bl false)))
  wNext)))
  (wRet (wOp dLt (wCB dSum (wCons (wLc [4, 5] (wiSeq (wVar 1)) (wgTup (wgCons (wgName 4) (wgCons (wgName 5) wgNil))) wYes (wOp dMul (wVar 5) (wOp dIx (wOp dIx (wVar 0) (wVar 4)) (wC (.int 2))))) wNil)) (wC (.int 0))))))

theorem zero_is {fs : List Fm} {ws : List (Nat × Int)} {nb ns : Nat} : zeroF (weighed fs ws nb ns) = true ↔ (∀ j < nb, wsum fs ws (fun f => f.by_.getD j 0) = 0) ∧ ∀ j < ns, wsum fs ws (fun f => f.st.getD j 0) = 0 := by
  unfold zeroF weighed
  rw [List.all_append, Bool.and_eq_true, List.all_map, List.all_map, List.all_eq_true, List.all_eq_true]
  constructor
  · rintro ⟨h1, h2⟩
    exact ⟨fun j hj => of_decide_eq_true (h1 j (List.mem_range.mpr hj)), fun j hj => of_decide_eq_true (h2 j (List.mem_range.mpr hj))⟩
  · rintro ⟨h1, h2⟩
    exact ⟨fun j hj => decide_eq_true (h1 j (List.mem_range.mp hj)), fun j hj => decide_eq_true (h2 j (List.mem_range.mp hj))⟩
def d_law_shut : DF := fun ds G Q _ => ∃ (t : Addr) (fl d : DV) (fs : List Fm) (nb ns : Nat), ds = [fl, d] ∧ SeqD G fl (fs.map Fm.dv) ∧ FmsOk fs nb ns ∧ 0 < fs.length ∧ fs.length ≤ 100000 ∧ Tm t G d ∧ ∀ G', Sub G G' → Q (.bl (shutsB fs nb ns d)) G'
theorem len_law_shut : ∀ ds G Q Y, d_law_shut ds G Q Y → ds.length = 2 := by
  rintro ds G Q Y ⟨t, fl, d, fs, nb, ns, rfl, _⟩; rfl
theorem ok_law_shut : ∀ ds G Q Y, d_law_shut ds G Q Y → w_law_shut (bodyEnds Q Y) (start0 6 ds) G := by
  rintro ds G Q Y ⟨t, fl, d, fs, nb, ns, rfl, hfl, F, f0, hfn, hd, q⟩
  rw [st_law_shut]
  unfold w_law_shut
  walk_at "if"
  refine hfl.len ?_
  rw [List.length_map]
  walk_at "dl"
  refine ⟨t, d, fs.length, rfl, hd, fun g1 s1 => ?_⟩
  have q1 := fun g' s' => q g' (s1.trans s')
  have hfl1 := hfl.sub s1
  unfold shutsB at q1
  walk_at "dl"
  cases hw : isW d with
  | none =>
    simp only [hw] at q1
    walk_at "dl"
    exact q1 _ Sub.refl
  | some ws =>
    simp only [hw] at q1
    obtain ⟨rfl, hw1, hrise⟩ := isW_is hw
    obtain ⟨hsm, hfew⟩ := tm_ws hd
    show if (!(ws.all fun w => decide (w.1 < fs.length))) = true then _ else _
    cases hall : ws.all fun w => decide (w.1 < fs.length) with
    | false =>
      simp only [hall, Bool.and_false, Bool.false_and] at q1
      walk_at "dl"
      exact q1 _ Sub.refl
    | true =>
    simp only [hall, Bool.and_true] at q1
    have hix : ∀ w ∈ ws, w.1 < fs.length := fun w h => of_decide_eq_true (List.all_eq_true.mp hall w h)
    have big : ∀ w ∈ ws, w.2.natAbs < 2 ^ 2000 := fun w h => Nat.lt_of_lt_of_le (hsm w h) (Nat.pow_le_pow_right (by decide) (by decide))
    have no : zeroF (weighed fs ws nb ns) = false → ∀ g', Sub g1 g' → Q (.bl false) g' := fun h g' s' => by
      have := q1 g' s'
      simpa [h] using this
    walk_at "dl"
    refine s_seq (s_for ?_)
    walk_at "dl"
    intro p2 g2 hp2 s2 e2
    have sums : ∀ (g' : Fm → List Int) (m j : Nat), (∀ f ∈ fs, (g' f).length = m ∧ Sm (g' f)) → j < m → ∀ w ∈ ws, (g' fs[w.1]!)[j]? = (g' fs[w.1]!)[j]? := fun _ _ _ _ _ _ _ => rfl
    have row : ∀ (π : Int) (g' : Fm → List Int) (m : Nat) (x3 x4 x5 : Option DV) (g : Gh) (D : DEnds), (∀ f : Fm, L2.atI [DV.tup (f.by_.map .int), .tup (f.st.map .int), .int f.p] π = some (.tup ((g' f).map .int))) → (∀ f ∈ fs, (g' f).length = m ∧ Sm (g' f)) → m ≤ 100000 → Sub g1 g →
        ((∀ j < m, wsum fs ws (fun f => (g' f).getD j 0) = 0) → ∀ y3 y4 y5 g', Sub g g' → D.nx [some fl, some (.tup (ws.map wdv)), some (.int π), y3, y4, y5] g') → ((∃ j < m, wsum fs ws (fun f => (g' f).getD j 0) ≠ 0) → ∀ g', Sub g g' → D.rt (.bl false) g') →
        wFor (wiRange1 (wCons (wCB dLen (wCons (wOp dIx (wOp dIx (wVar 0) (wC (.int 0))) (wVar 2)) wNil)) wNil)) (wgName 3)
          (wIfS (wTst (wOp (dEq true) (wCB dSum (wCons (wLc [4, 5] (wiSeq (wVar 1)) (wgTup (wgCons (wgName 4) (wgCons (wgName 5) wgNil))) wYes (wOp dMul (wVar 5) (wOp dIx (wOp dIx (wOp dIx (wVar 0) (wVar 4)) (wVar 2)) (wVar 3)))) wNil)) (wC (.int 0))))
          (wRet (wC (.bl false)))
          wNext) D [some fl, some (.tup (ws.map wdv)), some (.int π), x3, x4, x5] g := by
      intro π g' m x3 x4 x5 g D hsel hg' hm sg hnx hrt
      refine s_for ?_
      walk_at "dl"
      refine (hfl1.sub sg).ix (at_some f0 rfl) ?_
      walk_at "dl"
      refine s_ixT (hsel _) ?_
      walk_at "dl"
      rw [List.length_map, (hg' _ (List.getElem_mem f0)).1]
      refine s_rng1 (by omega) ?_
      rw [Int.toNat_natCast]
      refine forR (fun i e g2 => Sub g g2 ∧ (∀ j < i, wsum fs ws (fun f => (g' f).getD j 0) = 0) ∧ ∃ y3 y4 y5, e = [some fl, some (.tup (ws.map wdv)), some (.int π), y3, y4, y5]) ⟨Sub.refl, (fun j h => absurd h (by omega)), _, _, _, rfl⟩ (fun _ _ _ _ => trivial) ?_ ?_
      · rintro j e g2 K hj ⟨sg2, hz, y3, y4, y5, rfl⟩ k
        have sgg := sg.trans sg2
        walk_at "if"
        refine lcT_map wdv (fun w => .int (w.2 * (g' (fs.getD w.1 default)).getD j 0)) (fun _ g3 => Sub g2 g3) Sub.refl (fun _ _ _ => trivial) (by rw [sizeLine_eq]; omega) (fun i w g3 K3 K4 ew mw r3 k3 => ?_) (fun g3 r3 pn g4 hpn s4 e4 => ?_)
        · have hi := hix w mw
          have hm' := getD_mem hi
          obtain ⟨h1, h2⟩ := hg' _ hm'.2
          have hj' : j < (g' fs[w.1]).length := by omega
          have hx : (g' fs[w.1])[j]? = some ((g' fs[w.1]).getD j 0) := by rw [List.getD_eq_getElem?_getD, List.getElem?_eq_getElem hj']; rfl
          have hxm : (g' fs[w.1]).getD j 0 ∈ g' fs[w.1] := List.mem_of_getElem? hx
          rw [hm'.1] at k3
          simp only [wdv]
          walk_at "dl"
          refine (hfl1.sub (sgg.trans r3)).ix (at_some hi rfl) ?_
          walk_at "dl"
          refine s_ixT (hsel _) ?_
          walk_at "dl"
          refine s_ixT (at_int hx (by omega)) ?_
          refine s_mul (Sm.mul (big w mw) (h2 _ hxm)) ?_
          exact k3 _ r3
        walk_at "dl"
        have e4' : g4 pn = some (.lst ((ws.map fun w => w.2 * (g' (fs.getD w.1 default)).getD j 0).map DV.int)) := by rw [e4, List.map_map]; rfl
        refine s_sumL e4' ?_
        walk_at "dl"
        refine s_iteN (fun h => ?_) (fun h => ?_)
        · walk_at "dl"
          exact hrt ⟨j, hj, h⟩ _ (sg2.trans (r3.trans s4))
        · walk_at "dl"
          refine k _ _ ⟨sg2.trans (r3.trans s4), fun j' hj' => ?_, _, _, _, rfl⟩
          by_cases e : j' = j
          · subst e; exact h
          · exact hz j' (by omega)
      · rintro e g2 ⟨sg2, hz, y3, y4, y5, rfl⟩
        exact hnx hz _ _ _ _ sg2
    walk_at "dl"
    refine s_foCons (by exact e2) ?_
    walk_at "dl"
    refine row 0 Fm.by_ nb _ _ _ g2 _ (fun f => rfl) (fun f h => ⟨F.lb f h, F.sb f h⟩) F.nb s2 (fun hz0 y3 y4 y5 g3 s3 => ?_) (fun ⟨j, hj, hne⟩ g3 s3 => ?_)
    · dsimp only
      refine s_foCons (by exact s3 _ _ e2) ?_
      walk_at "dl"
      refine row 1 Fm.st ns _ _ _ g3 _ (fun f => rfl) (fun f h => ⟨F.ls f h, F.ss f h⟩) F.ns (s2.trans s3) (fun hz1 y3 y4 y5 g4 s4 => ?_) (fun ⟨j, hj, hne⟩ g4 s4 => ?_)
      · dsimp only
        refine s_foNil (by exact s4 _ _ (s3 _ _ e2)) ?_
        have sgg := s2.trans (s3.trans s4)
        walk_at "dl"
        refine lcT_map wdv (fun w => .int (w.2 * (fs.getD w.1 default).p)) (fun _ g3 => Sub g4 g3) Sub.refl (fun _ _ _ => trivial) (by rw [sizeLine_eq]; omega) (fun i w g3 K3 K4 ew mw r3 k3 => ?_) (fun g5 r5 pn g6 hpn s6 e6 => ?_)
        · have hi := hix w mw
          have hm' := getD_mem hi
          rw [hm'.1] at k3
          simp only [wdv]
          walk_at "dl"
          refine (hfl1.sub (sgg.trans r3)).ix (at_some hi rfl) ?_
          simp only [Fm.dv]
          walk_at "dl"
          refine s_mul (Sm.mul (big w mw) (F.sp _ hm'.2)) ?_
          exact k3 _ r3
        walk_at "dl"
        have e6' : g6 pn = some (.lst ((ws.map fun w => w.2 * (fs.getD w.1 default).p).map DV.int)) := by rw [e6, List.map_map]; rfl
        refine s_sumL e6' ?_
        walk_at "dl"
        have := q1 _ (sgg.trans (r5.trans s6))
        rw [zero_is.mpr ⟨hz0, hz1⟩, Bool.and_true] at this
        have hp : (weighed fs ws nb ns).p = (ws.map fun w => w.2 * (fs.getD w.1 default).p).sum := rfl
        rw [hp] at this
        cases ws with
        | nil => exact this
        | cons w ws => exact this
      · refine no ?_ g4 (s2.trans (s3.trans s4))
        rw [← Bool.not_eq_true, zero_is]
        exact fun h => hne (h.2 j hj)
    · refine no ?_ g3 (s2.trans s3)
      rw [← Bool.not_eq_true, zero_is]
      exact fun h => hne (h.1 j hj)

abbrev s_law_odd : Stmt := top 8
theorem sc_law_odd : FnScope ["_law_tape_here", "_law_some"] ["_law_tape_here"] (defScope s_law_odd) := ⟨rfl, rfl, rfl, by decide +kernel, rfl, by decide +kernel, by decide +kernel⟩
/- law_odd : 0 _law_tape_here, 1 _law_some -/
theorem st_law_odd (x0 : DV) : start0 2 [x0] = [some x0, none] := rfl
def w_law_odd : DS := (wSeq (wSet 1 (wLst (wCons (wC .non) (wCons (wC (.bl true)) (wCons (wC (.bl false)) (wCons (wC (.int 0)) (wCons (wC (.int 1)) (wCons (wNeg (wC (.int 1))) (wCons (wC (.int 100)) (wCons (wNeg (wC (.int 100))) (wCons (wC (.int 10)) (wCons (wC (.str "")) (wCons (wC (.str "a")) (wCons (wC (.str "sum")) (wCons (wC (.str "part")) (wCons (wTup wNil) (wCons (wLst wNil) (wCons wDnew wNil))))))))))))))))))
  (wRet (wOp dIx (wVar 1) (wCall d_law_draw (wCons (wVar 0) (wCons (wC (.int 16)) wNil))))))

def d_law_odd : DF := fun ds G Q _ => ∃ (t c : Addr) (n : Nat), ds = [.ref t] ∧ TapeAt G t c n ∧ n ≤ 1000000000000 ∧ ∀ d G', Tm t G' d → TapeAt G' t c (n + 1) → Old t G G' → Q d G'
theorem len_law_odd : ∀ ds G Q Y, d_law_odd ds G Q Y → ds.length = 1 := by
  rintro ds G Q Y ⟨t, c, n, rfl, _⟩; rfl
theorem ok_law_odd : ∀ ds G Q Y, d_law_odd ds G Q Y → w_law_odd (bodyEnds Q Y) (start0 2 ds) G := by
  rintro ds G Q Y ⟨t, c, n, rfl, tp, hn, q⟩
  rw [st_law_odd]
  unfold w_law_odd
  walk_at "dl"
  intro p1 g1 hp1 s1 e1
  walk_at "dl"
  intro p2 g2 hp2 s2 e2
  walk_at "dl"
  intro p3 g3 hp3 s3 e3
  have n1 : p1 ≠ t := tp.ne1 hp1
  have n2 : p2 ≠ t := (tp.sub s1).ne1 hp2
  have n3 : p3 ≠ t := ((tp.sub s1).sub s2).ne1 hp3
  have s13 := s1.trans (s2.trans s3)
  walk_at "dl"
  refine ⟨t, c, 16, n, rfl, tp.sub s13, by omega, by decide, by decide, fun v g4 v0 v1 tp4 o4 => ?_⟩
  have e34 := o4 _ _ n3 e3
  have e14 := o4 _ _ n1 (s3 _ _ (s2 _ _ e1))
  have e24 := o4 _ _ n2 (s3 _ _ e2)
  walk_at "dl"
  obtain ⟨d, hd, hd2⟩ := atI_lt (l := [DV.non, .bl true, .bl false, .int 0, .int 1, .int (-1), .int 100, .int (-100), .int 10, .str "", .str "a", .str "sum", .str "part", .tup [], .ref p1, .ref p2]) v0 (by exact v1)
  refine s_ixL e34 hd ?_
  refine q d g4 ?_ tp4 (s13.old.trans o4)
  have hm := List.mem_of_getElem? hd2
  simp only [List.mem_cons, List.not_mem_nil, or_false] at hm
  rcases hm with rfl | rfl | rfl | rfl | rfl | rfl | rfl | rfl | rfl | rfl | rfl | rfl | rfl | rfl | rfl | rfl
  · exact .non
  · exact .bl _
  · exact .bl _
  · exact .i (by decide)
  · exact .i (by decide)
  · exact .i (by decide)
  · exact .i (by decide)
  · exact .i (by decide)
  · exact .i (by decide)
  · exact .str _
  · exact .str _
  · exact .str _
  · exact .str _
  · exact .tup (by simp) (by decide)
  · exact .lst e14 n1
  · exact .dic e24 n2
abbrev s_law_bent : Stmt := top 9
theorem sc_law_bent : FnScope ["_law_tape_here", "_law_thing", "_law_at", "_law_way", "_law_more"] ["_law_tape_here", "_law_thing"] (defScope s_law_bent) := ⟨rfl, rfl, rfl, by decide +kernel, rfl, by decide +kernel, by decide +kernel⟩
/- law_bent : 0 _law_tape_here, 1 _law_thing, 2 _law_at, 3 _law_way, 4 _law_more -/
theorem st_law_bent (x0 x1 : DV) : start0 5 [x0, x1] = [some x0, some x1, none, none, none] := rfl
def w_law_bent (self : DF) : DS := (wSeq (wIfS (wAndT (wTst (wCB dIsi (wCons (wVar 1) (wCons (wC (.ty "tuple")) wNil)))) (wAndT (wTst (wOp dGt (wCB dLen (wCons (wVar 1) wNil)) (wC (.int 0)))) (wTst (wOp dGt (wCall d_law_draw (wCons (wVar 0) (wCons (wC (.int 4)) wNil))) (wC (.int 0))))))
  (wSeq (wSet 2 (wCall d_law_draw (wCons (wVar 0) (wCons (wCB dLen (wCons (wVar 1) wNil)) wNil))))
  (wRet (wOp dAdd (wOp dAdd (wSl dSl (wVar 1) wNoPart (wPart (wVar 2))) (wTup (wCons (wCall self (wCons (wVar 0) (wCons (wOp dIx (wVar 1) (wVar 2)) wNil))) wNil))) (wSl dSl (wVar 1) (wPart (wOp dAdd (wVar 2) (wC (.int 1)))) wNoPart))))
  wNext)
  (wSeq (wSet 3 (wCall d_law_draw (wCons (wVar 0) (wCons (wC (.int 8)) wNil))))
  (wSeq (wIfS (wAndT (wTst (wCB dIsi (wCons (wVar 1) (wCons (wC (.ty "tuple")) wNil)))) (wTst (wOp dLt (wVar 3) (wC (.int 5)))))
  (wSeq (wSet 2 (wCall d_law_draw (wCons (wVar 0) (wCons (wOp dAdd (wCB dLen (wCons (wVar 1) wNil)) (wC (.int 1))) wNil))))
  (wSeq (wSet 4 (wOp dAdd (wOp dAdd (wSl dSl (wVar 1) wNoPart (wPart (wVar 2))) (wSl dSl (wOp dAdd (wVar 1) (wTup (wCons (wC (.int 0)) wNil))) wNoPart (wPart (wC (.int 1))))) (wSl dSl (wVar 1) (wPart (wVar 2)) wNoPart)))
  (wRet (wOp dIx (wLst (wCons (wCB dList (wCons (wVar 1) wNil)) (wCons (wSl dSl (wVar 1) wNoPart (wPart (wVar 2))) (wCons (wVar 4) (wCons (wRev (wVar 1)) (wCons (wOp dAdd (wSl dSl (wVar 1) wNoPart (wPart (wVar 2))) (wSl dSl (wVar 1) (wPart (wOp dAdd (wVar 2) (wC (.int 1)))) wNoPart)) wNil)))))) (wVar 3)))))
  wNext)
  (wSeq (wIfS (wAndT (wTst (wCB dIsi (wCons (wVar 1) (wCons (wC (.ty "int")) wNil)))) (wTst (wOp dLt (wVar 3) (wC (.int 6)))))
  (wRet (wOp dIx (wLst (wCons (wOp dAdd (wVar 1) (wC (.int 1))) (wCons (wOp dSub (wVar 1) (wC (.int 1))) (wCons (wOp (dEq false) (wVar 1) (wC (.int 1))) (wCons (wCB dStr (wCons (wVar 1) wNil)) (wCons (wOp dSub (wC (.int 0)) (wVar 1)) (wCons (wOp dMul (wVar 1) (wC (.int 100))) wNil))))))) (wVar 3)))
  wNext)
  (wRet (wCall d_law_odd (wCons (wVar 0) wNil)))))))

/-- a tree of numbers and texts -/
inductive Sd : Nat → DV → Prop
  | int {n : Nat} {x : Int} (h : x.natAbs ≤ 1000000) : Sd n (.int x)
  | str {n : Nat} {z : Str} : Sd n (.str z)
  | tup {n : Nat} {l : List DV} (h : ∀ d ∈ l, Sd n d) (hl : l.length ≤ 300) : Sd (n + 1) (.tup l)
theorem Sd.tm {t : Addr} {G : Gh} {n : Nat} {d : DV} (h : Sd n d) : Tm t G d := by
  induction h with
  | int h => exact .i (by omega)
  | str => exact .str _
  | tup _ hl ih => exact .tup ih (by omega)
def r_law_bent (k : Nat) : DF := fun ds G Q _ => ∃ (t c : Addr) (n : Nat) (d : DV) (j : Nat), ds = [.ref t, d] ∧ TapeAt G t c n ∧ Sd j d ∧ j < k ∧ n + 10 * k ≤ 900000000000 ∧ ∀ d' G', Tm t G' d' → TapeAt G' t c (n + 10 * k) → Old t G G' → Q d' G'
theorem len_law_bent : ∀ n ds G Q Y, r_law_bent (n + 1) ds G Q Y → ds.length = 2 := by
  rintro k ds G Q Y ⟨t, c, n, d, j, rfl, _⟩; rfl
abbrev d_law_bent : DF := r_law_bent 5
theorem no_law_bent : ∀ ds G Q Y, r_law_bent 0 ds G Q Y → False := by
  rintro ds G Q Y ⟨t, c, n, d, j, _, _, _, h, _⟩; omega
theorem tm_app {t : Addr} {G : Gh} {a b : List DV} (ha : ∀ d ∈ a, Tm t G d) (hb : ∀ d ∈ b, Tm t G d) : ∀ d ∈ a ++ b, Tm t G d := fun d hd => by
  rcases List.mem_append.mp hd with h | h
  · exact ha d h
  · exact hb d h
theorem ok_law_bent : ∀ n ds G Q Y, r_law_bent (n + 1) ds G Q Y → w_law_bent (r_law_bent n) (bodyEnds Q Y) (start0 5 ds) G := by
  rintro k ds G Q Y ⟨t, c, n, d, j, rfl, tp, sd, hj, hn, q⟩
  rw [st_law_bent]
  unfold w_law_bent
  have fin : ∀ G1 (n1 : Nat), TapeAt G1 t c n1 → n1 + 1 ≤ n + 10 * (k + 1) → Old t G G1 → d_law_odd [.ref t] G1 (bodyEnds Q Y).rt Y := fun G1 n1 h1 h2 h3 =>
    ⟨t, c, n1, rfl, h1, by omega, fun d G2 hd h4 h5 => q d G2 hd (h4.mono (by omega)) (h3.trans h5)⟩
  cases sd with
  | @int _ x hx =>
    walk_at "dl"
    walk_at "if"
    refine ⟨t, c, 8, n, rfl, tp, by omega, by decide, by decide, fun v g2 v0 v1 tp2 o2 => ?_⟩
    walk_at "dl"
    walk_at "if"
    walk_at "if"
    refine s_ite (fun h => ?_) (fun h => ?_)
    · walk_at "dl"
      refine ⟨log2_small (Nat.lt_of_le_of_lt hx (by decide)), ?_⟩
      walk_at "dl"
      refine s_mul (MulOk.of (a := 30) (b := 10) (by omega) (by decide) (by decide) (by decide) (by decide)) ?_
      walk_at "dl"
      intro p g3 hp s3 e3
      walk_at "dl"
      obtain ⟨d, hd, hd2⟩ := atI_lt (l := [DV.int (x + 1), .int (x - 1), .bl (decide (x = 1)), .str (Str.ofString (toString x)), .int (0 - x), .int (x * 100)]) v0 (by exact h)
      refine s_ixL e3 hd ?_
      refine q d g3 ?_ ((tp2.sub s3).mono (by omega)) (o2.sub s3)
      have hm := List.mem_of_getElem? hd2
      simp only [List.mem_cons, List.not_mem_nil, or_false] at hm
      rcases hm with rfl | rfl | rfl | rfl | rfl | rfl
      · exact .i (by omega)
      · exact .i (by omega)
      · exact .bl _
      · exact .str _
      · exact .i (by omega)
      · exact .i (by omega)
    · walk_at "dl"
      exact fin _ _ tp2 (by omega) o2
  | @str _ z =>
    walk_at "dl"
    walk_at "if"
    refine ⟨t, c, 8, n, rfl, tp, by omega, by decide, by decide, fun v g2 v0 v1 tp2 o2 => ?_⟩
    walk_at "dl"
    walk_at "if"
    walk_at "if"
    exact fin _ _ tp2 (by omega) o2
  | @tup j l hi hl =>
    have him : ∀ (G' : Gh), ∀ d ∈ l, Tm t G' d := fun G' d hd => (hi d hd).tm
    have rest : ∀ g1 n1, TapeAt g1 t c n1 → Old t G g1 → n1 ≤ n + 1 → wSeq (wSet 3 (wCall d_law_draw (wCons (wVar 0) (wCons (wC (.int 8)) wNil))))
        (wSeq (wIfS (wAndT (wTst (wCB dIsi (wCons (wVar 1) (wCons (wC (.ty "tuple")) wNil)))) (wTst (wOp dLt (wVar 3) (wC (.int 5)))))
        (wSeq (wSet 2 (wCall d_law_draw (wCons (wVar 0) (wCons (wOp dAdd (wCB dLen (wCons (wVar 1) wNil)) (wC (.int 1))) wNil))))
        (wSeq (wSet 4 (wOp dAdd (wOp dAdd (wSl dSl (wVar 1) wNoPart (wPart (wVar 2))) (wSl dSl (wOp dAdd (wVar 1) (wTup (wCons (wC (.int 0)) wNil))) wNoPart (wPart (wC (.int 1))))) (wSl dSl (wVar 1) (wPart (wVar 2)) wNoPart)))
        (wRet (wOp dIx (wLst (wCons (wCB dList (wCons (wVar 1) wNil)) (wCons (wSl dSl (wVar 1) wNoPart (wPart (wVar 2))) (wCons (wVar 4) (wCons (wRev (wVar 1)) (wCons (wOp dAdd (wSl dSl (wVar 1) wNoPart (wPart (wVar 2))) (wSl dSl (wVar 1) (wPart (wOp dAdd (wVar 2) (wC (.int 1)))) wNoPart)) wNil)))))) (wVar 3)))))
        wNext)
        (wSeq (wIfS (wAndT (wTst (wCB dIsi (wCons (wVar 1) (wCons (wC (.ty "int")) wNil)))) (wTst (wOp dLt (wVar 3) (wC (.int 6)))))
        (wRet (wOp dIx (wLst (wCons (wOp dAdd (wVar 1) (wC (.int 1))) (wCons (wOp dSub (wVar 1) (wC (.int 1))) (wCons (wOp (dEq false) (wVar 1) (wC (.int 1))) (wCons (wCB dStr (wCons (wVar 1) wNil)) (wCons (wOp dSub (wC (.int 0)) (wVar 1)) (wCons (wOp dMul (wVar 1) (wC (.int 100))) wNil))))))) (wVar 3)))
        wNext)
        (wRet (wCall d_law_odd (wCons (wVar 0) wNil))))) (bodyEnds Q Y) [some (.ref t), some (.tup l), none, none, none] g1 := by
      intro g1 n1 tp1 o1 hn1
      walk_at "dl"
      refine ⟨t, c, 8, n1, rfl, tp1, by omega, by decide, by decide, fun v g2 v0 v1 tp2 o2 => ?_⟩
      walk_at "dl"
      walk_at "if"
      refine s_ite (fun h => ?_) (fun h => ?_)
      · walk_at "dl"
        refine ⟨t, c, (l.length : Int) + 1, _, rfl, tp2, by omega, by omega, by omega, fun w g3 w0 w1 tp3 o3 => ?_⟩
        obtain ⟨w, rfl⟩ := Int.eq_ofNat_of_zero_le w0
        have hw : w ≤ l.length := by omega
        have c1 : cutL l none (some (w : Int)) = l.take w := by rw [cut_to (by omega)]; rfl
        have c2 : cutL l (some (w : Int)) none = l.drop w := by rw [cut_from (by omega)]; rfl
        have c3 : cutL l (some ((w : Int) + 1)) none = l.drop (w + 1) := by rw [cut_from (by omega)]; rfl
        walk_at "dl"
        rw [c1]
        refine s_addT (by rw [List.length_singleton, sizeLine_eq]; omega) ?_
        walk_at "dl"
        have c4 : cutL (l ++ [DV.int 0]) none (some 1) = (l ++ [DV.int 0]).take 1 := by rw [cut_to (by decide)]; rfl
        rw [c4]
        refine s_addT (by rw [List.length_take, List.length_take, sizeLine_eq]; omega) ?_
        walk_at "dl"
        rw [c2]
        refine s_addT (by rw [List.length_append, List.length_take, List.length_take, List.length_drop, sizeLine_eq]; omega) ?_
        walk_at "dl"
        intro p4 g4 hp4 s4 e4
        walk_at "dl"
        rw [c1]
        walk_at "dl"
        rw [c3]
        refine s_addT (by rw [List.length_take, List.length_drop, sizeLine_eq]; omega) ?_
        walk_at "dl"
        intro p5 g5 hp5 s5 e5
        walk_at "dl"
        have n4 : p4 ≠ t := tp3.ne1 hp4
        have e45 := s5 _ _ e4
        obtain ⟨d, hd, hd2⟩ := atI_lt (l := [DV.ref p4, .tup (l.take w), .tup (l.take w ++ (l ++ [DV.int 0]).take 1 ++ l.drop w), .tup l.reverse, .tup (l.take w ++ l.drop (w + 1))]) v0 (by exact h)
        refine s_ixL e5 hd ?_
        refine q d g5 ?_ (((tp3.sub s4).sub s5).mono (by omega)) (o1.trans (o2.trans (o3.sub (s4.trans s5))))
        have hm := List.mem_of_getElem? hd2
        simp only [List.mem_cons, List.not_mem_nil, or_false] at hm
        have ht := him g5
        have h1 : ∀ d ∈ l.take w, Tm t g5 d := fun d hd => ht d (List.mem_of_mem_take hd)
        have h2 : ∀ d ∈ l.drop w, Tm t g5 d := fun d hd => ht d (List.mem_of_mem_drop hd)
        have h3 : ∀ d ∈ l.drop (w + 1), Tm t g5 d := fun d hd => ht d (List.mem_of_mem_drop hd)
        have h4 : ∀ d ∈ (l ++ [DV.int 0]).take 1, Tm t g5 d := fun d hd => by
          rcases List.mem_append.mp (List.mem_of_mem_take hd) with h | h
          · exact ht d h
          · rw [show d = .int 0 by simpa using h]; exact .i (by decide)
        rcases hm with rfl | rfl | rfl | rfl | rfl
        · exact .lst e45 n4
        · exact .tup h1 (by rw [List.length_take]; omega)
        · exact .tup (tm_app (tm_app h1 h4) h2) (by rw [List.length_append, List.length_append, List.length_take, List.length_take, List.length_drop]; omega)
        · exact .tup (fun d hd => ht d (List.mem_reverse.mp hd)) (by rw [List.length_reverse]; omega)
        · exact .tup (tm_app h1 h3) (by rw [List.length_append, List.length_take, List.length_drop]; omega)
      · walk_at "dl"
        walk_at "if"
        exact fin _ _ tp2 (by omega) (o1.trans o2)
    walk_at "if"
    refine s_ite (fun h => ?_) (fun h => ?_)
    · have hl0 : 0 < l.length := by omega
      walk_at "dl"
      refine ⟨t, c, 4, n, rfl, tp, by omega, by decide, by decide, fun v g2 v0 v1 tp2 o2 => ?_⟩
      walk_at "dl"
      refine s_ite (fun h => ?_) (fun h => ?_)
      · walk_at "dl"
        refine ⟨t, c, l.length, _, rfl, tp2, by omega, by omega, by omega, fun w g3 w0 w1 tp3 o3 => ?_⟩
        obtain ⟨w, rfl⟩ := Int.eq_ofNat_of_zero_le w0
        have hw : w < l.length := by omega
        have c1 : cutL l none (some (w : Int)) = l.take w := by rw [cut_to (by omega)]; rfl
        have c3 : cutL l (some ((w : Int) + 1)) none = l.drop (w + 1) := by rw [cut_from (by omega)]; rfl
        walk_at "dl"
        rw [c1]
        have hat : L2.atI l (w : Int) = some l[w] := L2.atI_nat (List.getElem?_eq_getElem hw)
        refine s_ixT hat ?_
        walk_at "dl"
        have hji := hi _ (List.getElem_mem hw)
        refine ⟨t, c, n + 1 + 1, l[w], j, rfl, tp3, hji, by omega, by omega, fun d' g4 hd tp4 o4 => ?_⟩
        walk_at "dl"
        refine s_addT (by rw [List.length_take, List.length_singleton, sizeLine_eq]; omega) ?_
        walk_at "dl"
        rw [c3]
        refine s_addT (by rw [List.length_append, List.length_take, List.length_drop, List.length_singleton, sizeLine_eq]; omega) ?_
        refine q _ g4 ?_ (tp4.mono (by omega)) (o2.trans (o3.trans o4))
        have ht := him g4
        refine .tup (tm_app (tm_app (fun d hd => ht d (List.mem_of_mem_take hd)) fun d h => ?_) fun d hd => ht d (List.mem_of_mem_drop hd)) (by rw [List.length_append, List.length_append, List.length_take, List.length_drop, List.length_singleton]; omega)
        rw [show d = d' by simpa using h]; exact hd
      · exact rest g2 (n + 1) tp2 o2 (by omega)
    · exact rest G n tp Old.refl (by omega)

abbrev s_law_others : Stmt := top 14
theorem sc_law_others : FnScope ["_law_tape_here", "_law_weights", "_law_many", "_law_some", "_law_k", "_law_times"] ["_law_tape_here", "_law_weights", "_law_many"] (defScope s_law_others) := ⟨rfl, rfl, rfl, by decide +kernel, rfl, by decide +kernel, by decide +kernel⟩
/- law_others : 0 _law_tape_here, 1 _law_weights, 2 _law_many, 3 _law_some, 4 _law_k, 5 _law_times -/
theorem st_law_others (x0 x1 x2 : DV) : start0 6 [x0, x1, x2] = [some x0, some x1, some x2, none, none, none] := rfl
def w_law_others : DS := (wSeq (wSet 3 (wLst (wCons (wOp dAdd (wVar 1) (wSl dSl (wVar 1) wNoPart (wPart (wC (.int 1))))) (wCons (wRev (wVar 1)) (wCons (wSl dSl (wVar 1) (wPart (wC (.int 1))) wNoPart) (wCons (wOp dAdd (wVar 1) (wTup (wCons (wTup (wCons (wVar 2) (wCons (wC (.int 1)) wNil))) wNil))) (wCons (wOp dAdd (wTup (wCons (wTup (wCons (wNeg (wC (.int 1))) (wCons (wC (.int 1)) wNil))) wNil)) (wVar 1)) (wCons (wTup wNil) wNil))))))))
  (wSeq (wSet 3 (wOp dAdd (wVar 3) (wLst (wCons (wCB dTuple (wCons (wLc [4, 5] (wiSeq (wVar 1)) (wgTup (wgCons (wgName 4) (wgCons (wgName 5) wgNil))) wYes (wTup (wCons (wVar 4) (wCons (wOp dMul (wC (.int 2)) (wVar 5)) wNil)))) wNil)) (wCons (wCB dTuple (wCons (wLc [4, 5] (wiSeq (wVar 1)) (wgTup (wgCons (wgName 4) (wgCons (wgName 5) wgNil))) wYes (wTup (wCons (wVar 4) (wCons (wC (.bl true)) wNil)))) wNil)) wNil)))))
  (wSeq (wSet 3 (wOp dAdd (wVar 3) (wLst (wCons (wCB dTuple (wCons (wLc [4, 5] (wiSeq (wVar 1)) (wgTup (wgCons (wgName 4) (wgCons (wgName 5) wgNil))) wYes (wTup (wCons (wVar 4) (wCons (wC (.int 0)) wNil)))) wNil)) (wCons (wCB dTuple (wCons (wLc [4, 5] (wiSeq (wVar 1)) (wgTup (wgCons (wgName 4) (wgCons (wgName 5) wgNil))) wYes (wLst (wCons (wVar 4) (wCons (wVar 5) wNil)))) wNil)) wNil)))))
  (wSeq (wSet 3 (wOp dAdd (wVar 3) (wLst (wCons (wCB dTuple (wCons (wLc [4, 5] (wiSeq (wVar 1)) (wgTup (wgCons (wgName 4) (wgCons (wgName 5) wgNil))) wYes (wTup (wCons (wOp dAdd (wVar 4) (wC (.int 1))) (wCons (wVar 5) wNil)))) wNil)) (wCons (wCB dList (wCons (wVar 1) wNil)) (wCons (wCall d_law_odd (wCons (wVar 0) wNil)) wNil))))))
  (wRet (wOp dAdd (wVar 3) (wLst (wCons (wCall d_law_bent (wCons (wVar 0) (wCons (wVar 1) wNil))) (wCons (wCall d_law_bent (wCons (wVar 0) (wCons (wVar 1) wNil))) wNil)))))))))

theorem tmw {t : Addr} {G : Gh} {ws : List (Nat × Int)} (h1 : ∀ w ∈ ws, w.1 ≤ 1000 ∧ w.2.natAbs ≤ 1000) : ∀ d ∈ ws.map wdv, Tm t G d := fun d hd => by
  obtain ⟨w, hw, rfl⟩ := List.mem_map.mp hd
  have := h1 w hw
  refine .tup (fun d hd => ?_) (by simp)
  simp only [List.mem_cons, List.not_mem_nil, or_false] at hd
  rcases hd with rfl | rfl
  · exact .i (by omega)
  · exact .i (by omega)
def d_law_others : DF := fun ds G Q _ => ∃ (t c : Addr) (ws : List (Nat × Int)) (m n : Nat), ds = [.ref t, .tup (ws.map wdv), .int m] ∧ TapeAt G t c n ∧ n ≤ 800000000000 ∧ WsB ws ∧ m ≤ 1000 ∧
  ∀ (p : Addr) (l : List DV) G', G' p = some (.lst l) → p ≠ t → l.length = 15 → (∀ d ∈ l, Tm t G' d) → TapeAt G' t c (n + 200) → Old t G G' → Q (.ref p) G'
theorem len_law_others : ∀ ds G Q Y, d_law_others ds G Q Y → ds.length = 3 := by
  rintro ds G Q Y ⟨t, c, ws, m, n, rfl, _⟩; rfl
theorem WsB.sd {ws : List (Nat × Int)} (h : WsB ws) : Sd 2 (.tup (ws.map wdv)) := .tup (fun d hd => by
  obtain ⟨w, hw, rfl⟩ := List.mem_map.mp hd
  have h1 := h.ix w hw
  have h2 := h.sm w hw
  refine .tup (fun d hd => ?_) (by simp)
  simp only [List.mem_cons, List.not_mem_nil, or_false] at hd
  rcases hd with rfl | rfl
  · exact .int (by omega)
  · exact .int (by omega)) (by rw [List.length_map]; have := h.few; omega)
theorem ok_law_others : ∀ ds G Q Y, d_law_others ds G Q Y → w_law_others (bodyEnds Q Y) (start0 6 ds) G := by
  rintro ds G Q Y ⟨t, c, ws, m, n, rfl, tp, hn, W, hm, q⟩
  rw [st_law_others]
  unfold w_law_others
  have few := W.few
  have hb : ∀ w ∈ ws, w.1 ≤ 1000 ∧ w.2.natAbs ≤ 1000 := fun w h => ⟨by have := W.ix w h; omega, by have := W.sm w h; omega⟩
  walk_at "dl"
  have c1 : cutL (ws.map wdv) none (some 1) = (ws.take 1).map wdv := by rw [cut_to (by decide), List.map_take]; rfl
  have c2 : cutL (ws.map wdv) (some 1) none = (ws.drop 1).map wdv := by rw [cut_from (by decide), List.map_drop]; rfl
  rw [c1]
  refine s_addT (by rw [List.length_map, List.length_map, List.length_take, sizeLine_eq]; omega) ?_
  walk_at "dl"
  rw [c2]
  refine s_addT (by rw [List.length_map, List.length_singleton, sizeLine_eq]; omega) ?_
  walk_at "dl"
  refine s_addT (by rw [List.length_map, List.length_singleton, sizeLine_eq]; omega) ?_
  walk_at "dl"
  intro p1 g1 hp1 s1 e1
  have hA : ∀ d ∈ [DV.tup (ws.map wdv ++ (ws.take 1).map wdv), .tup (ws.map wdv).reverse, .tup ((ws.drop 1).map wdv), .tup (ws.map wdv ++ [.tup [.int m, .int 1]]), .tup ([.tup [.int (-1), .int 1]] ++ ws.map wdv), .tup []], ∀ G', Tm t G' d := by
    intro d hd G'
    have h0 := tmw (t := t) (G := G') hb
    have h1 : ∀ d ∈ (ws.take 1).map wdv, Tm t G' d := tmw fun w h => hb w (List.mem_of_mem_take h)
    have h2 : ∀ d ∈ (ws.drop 1).map wdv, Tm t G' d := tmw fun w h => hb w (List.mem_of_mem_drop h)
    have hp : ∀ x y : Int, x.natAbs ≤ 1000 → y.natAbs ≤ 1000 → ∀ d ∈ [DV.tup [.int x, .int y]], Tm t G' d := fun x y hx hy d hd => by
      rw [show d = .tup [.int x, .int y] by simpa using hd]
      refine .tup (fun d hd => ?_) (by simp)
      simp only [List.mem_cons, List.not_mem_nil, or_false] at hd
      rcases hd with rfl | rfl
      · exact .i (by omega)
      · exact .i (by omega)
    simp only [List.mem_cons, List.not_mem_nil, or_false] at hd
    rcases hd with rfl | rfl | rfl | rfl | rfl | rfl
    · exact .tup (tm_app h0 h1) (by rw [List.length_append, List.length_map, List.length_map, List.length_take]; omega)
    · exact .tup (fun d hd => h0 d (List.mem_reverse.mp hd)) (by rw [List.length_reverse, List.length_map]; omega)
    · exact .tup h2 (by rw [List.length_map, List.length_drop]; omega)
    · exact .tup (tm_app h0 (hp _ _ (by omega) (by decide))) (by rw [List.length_append, List.length_map, List.length_singleton]; omega)
    · exact .tup (tm_app (hp _ _ (by decide) (by decide)) h0) (by rw [List.length_append, List.length_map, List.length_singleton]; omega)
    · exact .tup (by simp) (by simp)
  have hAl : [DV.tup (ws.map wdv ++ (ws.take 1).map wdv), .tup (ws.map wdv).reverse, .tup ((ws.drop 1).map wdv), .tup (ws.map wdv ++ [.tup [.int m, .int 1]]), .tup ([.tup [.int (-1), .int 1]] ++ ws.map wdv), .tup []].length = 6 := rfl
  generalize [DV.tup (ws.map wdv ++ (ws.take 1).map wdv), .tup (ws.map wdv).reverse, .tup ((ws.drop 1).map wdv), .tup (ws.map wdv ++ [.tup [.int m, .int 1]]), .tup ([.tup [.int (-1), .int 1]] ++ ws.map wdv), .tup []] = A at *
  walk_at "dl"
  refine lcT_map wdv (fun w => .tup [.int w.1, .int (2 * w.2)]) (fun _ g' => Sub g1 g') Sub.refl (fun _ _ _ => trivial) (by rw [sizeLine_eq]; omega) (fun i w g3 K3 K4 ew mw r3 k3 => ?_) (fun g2 r2 p2 g3 hp2 s3 e3 => ?_)
  · have := hb w mw
    simp only [wdv]
    walk_at "dl"
    refine s_mul (MulOk.of (a := 10) (b := 20) (by decide) (by omega) (by decide) (by decide) (by decide)) ?_
    walk_at "dl"
    exact k3 _ r3
  walk_at "dl"
  refine lcT_map wdv (fun w => .tup [.int w.1, .bl true]) (fun _ g' => Sub g3 g') Sub.refl (fun _ _ _ => trivial) (by rw [sizeLine_eq]; omega) (fun i w g3 K3 K4 ew mw r3 k3 => ?_) (fun g4 r4 p4 g5 hp4 s5 e5 => ?_)
  · simp only [wdv]
    walk_at "dl"
    exact k3 _ r3
  walk_at "dl"
  intro p6 g6 hp6 s6 e6
  have s16 := r2.trans (s3.trans (r4.trans (s5.trans s6)))
  refine x_addL (s16 _ _ e1) e6 (by rw [hAl, sizeLine_eq]; exact Nat.le_of_ble_eq_true rfl) fun p7 g7 hp7 s7 e7 => ?_
  have tp2 : ∀ (x y : Nat × Int → DV), (∀ w ∈ ws, (∀ G', Tm t G' (x w)) ∧ ∀ G', Tm t G' (y w)) → ∀ G', Tm t G' (.tup (ws.map fun w => .tup [x w, y w])) := fun x y h G' => .tup (fun d hd => by
    obtain ⟨w, hw, rfl⟩ := List.mem_map.mp hd
    refine .tup (fun d hd => ?_) (by simp)
    simp only [List.mem_cons, List.not_mem_nil, or_false] at hd
    rcases hd with rfl | rfl
    · exact (h w hw).1 G'
    · exact (h w hw).2 G') (by rw [List.length_map]; omega)
  have hB : ∀ d ∈ A ++ [DV.tup (ws.map fun w => .tup [.int w.1, .int (2 * w.2)]), .tup (ws.map fun w => .tup [.int w.1, .bl true])], ∀ G', Tm t G' d := by
    intro d hd
    rcases List.mem_append.mp hd with h | h
    · exact hA d h
    · simp only [List.mem_cons, List.not_mem_nil, or_false] at h
      rcases h with rfl | rfl
      · exact tp2 (fun w => .int w.1) (fun w => .int (2 * w.2)) fun w hw => ⟨fun _ => .i (by have := hb w hw; omega), fun _ => .i (by have := hb w hw; omega)⟩
      · exact tp2 (fun w => .int w.1) (fun w => .bl true) fun w hw => ⟨fun _ => .i (by have := hb w hw; omega), fun _ => .bl _⟩
  have hBl : (A ++ [DV.tup (ws.map fun w => .tup [.int w.1, .int (2 * w.2)]), .tup (ws.map fun w => .tup [.int w.1, .bl true])]).length = 8 := by rw [List.length_append, hAl]; rfl
  generalize A ++ [DV.tup (ws.map fun w => .tup [.int w.1, .int (2 * w.2)]), .tup (ws.map fun w => .tup [.int w.1, .bl true])] = B at *
  walk_at "dl"
  refine lcT_map wdv (fun w => .tup [.int w.1, .int 0]) (fun _ g' => Sub g7 g') Sub.refl (fun _ _ _ => trivial) (by rw [sizeLine_eq]; omega) (fun i w g3 K3 K4 ew mw r3 k3 => ?_) (fun g8 r8 p8 g9 hp8 s9 e9 => ?_)
  · simp only [wdv]
    walk_at "dl"
    exact k3 _ r3
  walk_at "dl"
  have tp9 : TapeAt g9 t c n := ((((tp.sub s1).sub s16).sub s7).sub r8).sub s9
  refine lcL_inv (fun i acc g => Sub g9 g ∧ acc.length = i ∧ ∀ d ∈ acc, Tm t g d) ⟨Sub.refl, rfl, by simp⟩ (fun i acc g _ h => trivial) (fun i d acc g K e hi ⟨sg, ea, ht⟩ k => ?_) (fun acc g ⟨sg, ea, ht⟩ p10 hp10 => ?_)
  · obtain ⟨w, e', rfl⟩ := map_get e
    rw [List.length_map] at hi
    simp only [wdv]
    walk_at "dl"
    intro pp g' hpp s' e'
    refine ⟨by rw [ea, sizeLine_eq]; omega, k _ _ ⟨sg.trans s', by simp [ea], fun d hd => ?_⟩⟩
    rcases List.mem_append.mp hd with h | h
    · exact (ht d h).sub s'
    · rw [show d = .ref pp by simpa using h]
      exact .lst e' ((tp9.sub sg).ne1 hpp)
  rw [List.length_map] at ea
  have s10 := Sub.new (c := .lst acc) hp10
  generalize hg10 : gup g p10 (.lst acc) = g10 at *
  have e10 : g10 p10 = some (.lst acc) := by rw [← hg10]; exact gup_same
  walk_at "dl"
  intro p11 g11 hp11 s11 e11
  have s711 := r8.trans (s9.trans (sg.trans (s10.trans s11)))
  refine x_addL (s711 _ _ e7) e11 (by rw [hBl, sizeLine_eq]; exact Nat.le_of_ble_eq_true rfl) fun p12 g12 hp12 s12 e12 => ?_
  have hC : ∀ d ∈ B ++ [DV.tup (ws.map fun w => .tup [.int w.1, .int 0]), .tup acc], Tm t g12 d := by
    intro d hd
    rcases List.mem_append.mp hd with h | h
    · exact hB d h _
    · simp only [List.mem_cons, List.not_mem_nil, or_false] at h
      rcases h with rfl | rfl
      · exact tp2 (fun w => .int w.1) (fun w => .int 0) (fun w hw => ⟨fun _ => .i (by have := hb w hw; omega), fun _ => .i (by decide)⟩) _
      · exact .tup (fun d hd => (ht d hd).sub (s10.trans (s11.trans s12))) (by omega)
  have hCl : (B ++ [DV.tup (ws.map fun w => .tup [.int w.1, .int 0]), .tup acc]).length = 10 := by rw [List.length_append, hBl]; rfl
  generalize B ++ [DV.tup (ws.map fun w => .tup [.int w.1, .int 0]), .tup acc] = C at *
  have tp12 : TapeAt g12 t c n := (((tp9.sub sg).sub s10).sub s11).sub s12
  walk_at "dl"
  refine lcT_map wdv (fun w => .tup [.int ((w.1 : Int) + 1), .int w.2]) (fun _ g' => Sub g12 g') Sub.refl (fun _ _ _ => trivial) (by rw [sizeLine_eq]; omega) (fun i w g3 K3 K4 ew mw r3 k3 => ?_) (fun g13 r13 p13 g14 hp13 s14 e14 => ?_)
  · simp only [wdv]
    walk_at "dl"
    exact k3 _ r3
  walk_at "dl"
  intro p15 g15 hp15 s15 e15
  have tp15 := ((tp12.sub r13).sub s14).sub s15
  have n15 : p15 ≠ t := ((tp12.sub r13).sub s14).ne1 hp15
  walk_at "dl"
  refine ⟨t, c, _, rfl, tp15, by omega, fun od g16 hod tp16 o16 => ?_⟩
  have n12 : p12 ≠ t := ((((tp9.sub sg).sub s10).sub s11)).ne1 hp12
  have e12' := o16 _ _ n12 (s15 _ _ (s14 _ _ (r13 _ _ e12)))
  have e15' := o16 _ _ n15 e15
  have oo16 : Old t g12 g16 := (r13.trans (s14.trans s15)).old.trans o16
  walk_at "dl"
  intro p17 g17 hp17 s17 e17
  refine x_addL (s17 _ _ e12') e17 (by rw [hCl, sizeLine_eq]; exact Nat.le_of_ble_eq_true rfl) fun p18 g18 hp18 s18 e18 => ?_
  have o18 : Old t g12 g18 := (oo16.sub s17).sub s18
  have hD : ∀ d ∈ C ++ [DV.tup (ws.map fun w => .tup [.int ((w.1 : Int) + 1), .int w.2]), .ref p15, od], Tm t g18 d := by
    intro d hd
    rcases List.mem_append.mp hd with h | h
    · exact (hC d h).old o18
    · simp only [List.mem_cons, List.not_mem_nil, or_false] at h
      rcases h with rfl | rfl | rfl
      · exact tp2 (fun w => .int ((w.1 : Int) + 1)) (fun w => .int w.2) (fun w hw => ⟨fun _ => .i (by have := hb w hw; omega), fun _ => .i (by have := hb w hw; omega)⟩) _
      · exact .lst (s18 _ _ (s17 _ _ e15')) n15
      · exact hod.sub (s17.trans s18)
  have hDl : (C ++ [DV.tup (ws.map fun w => .tup [.int ((w.1 : Int) + 1), .int w.2]), .ref p15, od]).length = 13 := by rw [List.length_append, hCl]; rfl
  generalize C ++ [DV.tup (ws.map fun w => .tup [.int ((w.1 : Int) + 1), .int w.2]), .ref p15, od] = D at *
  have tp18 := (tp16.sub s17).sub s18
  have n18 : p18 ≠ t := (tp16.sub s17).ne1 hp18
  walk_at "dl"
  refine ⟨t, c, _, _, 2, rfl, tp18, W.sd, by omega, by omega, fun b1 g19 hb1 tp19 o19 => ?_⟩
  walk_at "dl"
  refine ⟨t, c, _, _, 2, rfl, tp19, W.sd, by omega, by omega, fun b2 g20 hb2 tp20 o20 => ?_⟩
  walk_at "dl"
  intro p21 g21 hp21 s21 e21
  have e18' := s21 _ _ (o20 _ _ n18 (o19 _ _ n18 e18))
  refine x_addL e18' e21 (by rw [hDl, sizeLine_eq]; exact Nat.le_of_ble_eq_true rfl) fun p22 g22 hp22 s22 e22 => ?_
  have o22 : Old t g18 g22 := ((o19.trans o20).sub s21).sub s22
  refine q p22 _ g22 e22 ((tp20.sub s21).ne1 hp22) (by rw [List.length_append, hDl]; rfl) (fun d hd => ?_) (((tp20.sub s21).sub s22).mono (by omega)) ?_
  · rcases List.mem_append.mp hd with h | h
    · exact (hD d h).old o22
    · simp only [List.mem_cons, List.not_mem_nil, or_false] at h
      rcases h with rfl | rfl
      · exact hb1.old ((o20.sub s21).sub s22)
      · exact hb2.sub (s21.trans s22)
  · have s112 := s16.trans (s7.trans (r8.trans (s9.trans (sg.trans (s10.trans (s11.trans s12))))))
    exact (s1.trans s112).old.trans (o18.trans o22)

abbrev s_law : Stmt := top 15
theorem sc_law : FnScope ["_law_script", "_law_tape_here", "_law_k", "_law_inputs", "_law_sorts", "_law_forms", "_law_j", "_law_weights", "_law_kept", "_law_thing", "_law_found"] ["_law_script"] (defScope s_law) := ⟨rfl, rfl, rfl, by decide +kernel, rfl, by decide +kernel, by decide +kernel⟩
/- law : 0 _law_script, 1 _law_tape_here, 2 _law_k, 3 _law_inputs, 4 _law_sorts, 5 _law_forms, 6 _law_j, 7 _law_weights, 8 _law_kept, 9 _law_thing, 10 _law_found -/
theorem st_law (x0 : DV) : start0 11 [x0] = [some x0, none, none, none, none, none, none, none, none, none, none] := rfl
def w_law : DS := (wSeq (wSet 1 (wCall d_law_tape (wCons (wVar 0) wNil)))
  (wSeq (wFor (wiRange1 (wCons (wC (.int 5)) wNil)) (wgName 2)
  (wSeq (wSet 3 (wCall d_law_draw (wCons (wVar 1) (wCons (wC (.int 4)) wNil))))
  (wSeq (wSet 4 (wOp dAdd (wC (.int 1)) (wCall d_law_draw (wCons (wVar 1) (wCons (wC (.int 5)) wNil)))))
  (wSeq (wSet 5 (wLc [6] (wiRange1 (wCons (wOp dAdd (wC (.int 1)) (wCall d_law_draw (wCons (wVar 1) (wCons (wC (.int 6)) wNil)))) wNil)) (wgName 6) wYes (wCall d_law_small_form (wCons (wVar 1) (wCons (wVar 3) (wCons (wVar 4) wNil))))))
  (wSeq (wSet 7 (wTup (wCons (wTup (wCons (wC (.int 0)) (wCons (wC (.int 1)) wNil))) wNil)))
  (wSeq (wIfS (wTst (wOp dGt (wCall d_law_draw (wCons (wVar 1) (wCons (wC (.int 6)) wNil))) (wC (.int 0))))
  (wAsg (wCall d_law_closed (wCons (wVar 1) (wCons (wVar 5) wNil))) (wgTup (wgCons (wgName 5) (wgCons (wgName 7) wgNil))))
  wNext)
  (wSeq (wSet 8 (wCB dRepr (wCons (wVar 5) wNil)))
  (wFor (wiSeq (wOp dAdd (wLst (wCons (wVar 7) wNil)) (wCall d_law_others (wCons (wVar 1) (wCons (wVar 7) (wCons (wCB dLen (wCons (wVar 5) wNil)) wNil)))))) (wgName 9)
  (wSeq (wSet 10 (wCall d_shuts (wCons (wVar 5) (wCons (wVar 9) wNil))))
  (wIfS (wOrT (wNotT (wTst (wCB dIsi (wCons (wVar 10) (wCons (wC (.ty "bool")) wNil))))) (wOrT (wTst (wOp (dEq true) (wVar 10) (wCall d_law_shut (wCons (wVar 5) (wCons (wVar 9) wNil))))) (wTst (wOp (dEq true) (wCB dRepr (wCons (wVar 5) wNil)) (wVar 8)))))
  (wRet (wC (.bl false)))
  wNext))))))))))
  (wRet (wC (.bl true)))))

theorem len_lawD : ∀ ds G Q Y, lawD ds G Q Y → ds.length = 1 := by
  rintro ds G Q Y ⟨ns, rfl, _⟩; rfl
theorem fms_reads {G : Gh} {e : Addr} {fs : List Fm} (he : G e = some (.lst (fs.map Fm.dv))) : DR G (.ref e) (.list (fs.map Fm.pd)) := by
  refine .ref he ?_
  have := drs_pure (G := G) (l := fs.map Fm.dv) (by rw [List.all_map, List.all_eq_true]; intro x _; exact Fm.dv_pure)
  have e2 : (fs.map Fm.dv).map DV.pd = fs.map Fm.pd := by rw [List.map_map]; congr 1; funext x; exact Fm.dv_pd
  rw [e2] at this
  exact this
theorem fms_ok {fs : List Fm} {nb ns B : Nat} (h : ∀ f ∈ fs, FmB f nb ns B) (h1 : nb ≤ 10) (h2 : ns ≤ 10) (hB : B ≤ 1000) : FmsOk fs nb ns where
  lb f hf := (h f hf).lb
  ls f hf := (h f hf).ls
  sb f hf := Sm.of (h f hf).b (Nat.lt_of_le_of_lt hB (by decide))
  ss f hf := Sm.of (h f hf).s (Nat.lt_of_le_of_lt hB (by decide))
  sp f hf := Nat.lt_of_le_of_lt (Nat.le_trans (h f hf).p hB) (by decide)
  nb := by omega
  ns := by omega
theorem fms_fair {fs : List Fm} {nb ns B : Nat} (h : ∀ f ∈ fs, FmB f nb ns B) (h1 : nb ≤ 8) (h2 : ns ≤ 8) (hB : B ≤ 1000) (hl : fs.length ≤ 7) : Fair (.list (fs.map Fm.pd)) := by
  refine (Fr.lst (FrL.all (n := 20) (k := 2) (m := 7) (fun d hd => ?_) (by rw [List.length_map]; exact hl))).fair
  obtain ⟨f, hf, rfl⟩ := List.mem_map.mp hd
  have := h f hf
  exact Fm.fr20 (by have := this.lb; omega) (by have := this.ls; omega) (fun x hx => Nat.lt_of_le_of_lt (Nat.le_trans (this.b x hx) hB) (by decide)) (fun x hx => Nat.lt_of_le_of_lt (Nat.le_trans (this.s x hx) hB) (by decide)) (Nat.lt_of_le_of_lt (Nat.le_trans this.p hB) (by decide))
theorem ok_law : ∀ ds G Q Y, lawD ds G Q Y → w_law (bodyEnds Q Y) (start0 11 ds) G := by
  rintro ds G Q Y ⟨ns, rfl, h63, rfl, q⟩
  rw [st_law]
  unfold w_law
  walk_at "dl"
  refine ⟨ns, rfl, ?_⟩
  intro t c G1 _ _ tp
  walk_at "dl"
  refine s_seq (s_for ?_)
  walk_at "dl"
  refine forR (fun i e g => TapeAt g t c (i * 10000) ∧ ∃ a2 a3 a4 a5 a6 a7 a8 a9 a10, e = [some (.ro (ns.map .int)), some (.ref t), a2, a3, a4, a5, a6, a7, a8, a9, a10]) ⟨tp.mono (Nat.zero_le _), _, _, _, _, _, _, _, _, _, rfl⟩ (fun _ _ _ _ => trivial) ?_ ?_
  · rintro i e g K hi ⟨tp1, a2, a3, a4, a5, a6, a7, a8, a9, a10, rfl⟩ k
    have hi' : i < 5 := hi
    walk_at "dl"
    refine ⟨t, c, 4, _, rfl, tp1, by omega, by decide, by decide, fun nb g2 m0 m1 tp2 o2 => ?_⟩
    obtain ⟨nb, rfl⟩ := Int.eq_ofNat_of_zero_le m0
    walk_at "dl"
    refine ⟨t, c, 5, _, rfl, tp2, by omega, by decide, by decide, fun u g3 u0 u1 tp3 o3 => ?_⟩
    walk_at "dl"
    obtain ⟨sn, hsn⟩ : ∃ sn : Nat, 1 + u = sn := ⟨(1 + u).toNat, by omega⟩
    rw [hsn]
    refine ⟨t, c, 6, _, rfl, tp3, by omega, by decide, by decide, fun v g4 v0 v1 tp4 o4 => ?_⟩
    walk_at "dl"
    refine s_rng1 (by omega) ?_
    refine lcR_all Fm.dv (fun f => FmB f nb sn 4) (fun j g' => TapeAt g' t c (i * 10000 + 3 + 50 * j) ∧ Old t g4 g') ⟨tp4, Old.refl⟩ (fun _ _ _ => trivial) (by omega) (fun j g5 K K2 hj r k => ?_) (fun g5 fs r5 hl hP pf g6 hpf s6 e6 => ?_)
    · walk_at "dl"
      exact ⟨t, c, nb, sn, _, rfl, r.1, by omega, by omega, by omega, fun f g' hf tp' o' => k _ _ hf ⟨tp'.mono (by omega), r.2.trans o'⟩⟩
    have hfl : 0 < fs.length ∧ fs.length ≤ 6 := by omega
    have tp6 := r5.1.sub s6
    have nf : pf ≠ t := r5.1.ne1 hpf
    walk_at "dl"
    refine s_join (fun e g => TapeAt g t c (i * 10000 + 1000) ∧ ∃ (pf : Addr) (fs : List Fm) (ws : List (Nat × Int)) (a6 a8 a9 a10 : Option DV), g pf = some (.lst (fs.map Fm.dv)) ∧ (∀ f ∈ fs, FmB f nb sn 1000) ∧ 0 < fs.length ∧ fs.length ≤ 7 ∧ pf ≠ t ∧ WsB ws ∧
      e = [some (.ro (ns.map .int)), some (.ref t), some (.int (0 + (i : Int))), some (.int nb), some (.int sn), some (.ref pf), a6, some (.tup (ws.map wdv)), a8, a9, a10]) (fun K hK => ?_) ?_
    · walk_at "if"
      refine ⟨t, c, 6, _, rfl, tp6, by omega, by decide, by decide, fun w g7 w0 w1 tp7 o7 => ?_⟩
      have e7 := o7 _ _ nf e6
      walk_at "dl"
      refine s_ite (fun h => ?_) (fun h => ?_)
      · walk_at "dl"
        refine ⟨t, c, pf, fs, nb, sn, _, rfl, tp7, by omega, nf, e7, hP, hfl.1, hfl.2, by omega, by omega, fun p fs' ws g8 e8 hfs h1 h2 hpt W tp8 o8 => ?_⟩
        walk_at "dl"
        exact hK _ _ ⟨tp8.mono (by omega), p, fs', ws, _, _, _, _, e8, hfs, h1, h2, hpt, W, rfl⟩
      · walk_at "dl"
        have big : ∀ f ∈ fs, FmB f nb sn 1000 := fun f hf => by
          have h := hP f hf
          exact ⟨h.lb, h.ls, fun x hx => Nat.le_trans (h.b x hx) (by decide), fun x hx => Nat.le_trans (h.s x hx) (by decide), Nat.le_trans h.p (by decide)⟩
        exact hK _ _ ⟨tp7.mono (by omega), pf, fs, [(0, 1)], _, _, _, _, e7, big, hfl.1, by omega, nf, ⟨by decide, by decide, by decide⟩, rfl⟩
    rintro e g8 ⟨tp8, pf, fs, ws, a6, a8, a9, a10, e8, hfs, h1, h2, nf, W, rfl⟩
    have hfair := fms_fair hfs (by omega) (by omega) (by decide) h2
    have hok := fms_ok hfs (by omega) (by omega) (by decide)
    walk_at "dl"
    refine s_repr (fms_reads e8) hfair ?_
    walk_at "dl"
    intro p9 g9 hp9 s9 e9
    have e89 := s9 _ _ e8
    walk_at "dl"
    rw [List.length_map]
    have n9 : p9 ≠ t := tp8.ne1 hp9
    refine ⟨t, c, ws, fs.length, _, rfl, tp8.sub s9, by omega, W, by omega, fun po l g10 e10 npo hll ht tp10 o10 => ?_⟩
    have e910 := o10 _ _ n9 e9
    have e810 := o10 _ _ nf e89
    refine x_addL e910 e10 (by rw [hll, sizeLine_eq]; exact Nat.le_of_ble_eq_true rfl) fun pa g11 hpa s11 e11 => ?_
    have hall : ∀ d ∈ [DV.tup (ws.map wdv)] ++ l, Tm t g11 d := fun d hd => by
      rcases List.mem_append.mp hd with h | h
      · rw [show d = .tup (ws.map wdv) by simpa using h]; exact W.sd.tm
      · exact (ht d h).sub s11
    have e811 := s11 _ _ e810
    generalize [DV.tup (ws.map wdv)] ++ l = L at *
    walk_at "dl"
    have e0 : L = L.map id := by simp
    rw [e0] at e11 ⊢
    refine forT id (fun j e g' => Sub g11 g' ∧ ∃ a9 a10, e = [some (.ro (ns.map .int)), some (.ref t), some (.int (0 + (i : Int))), some (.int nb), some (.int sn), some (.ref pf), a6, some (.tup (ws.map wdv)), some (.str (PyData.list (fs.map Fm.pd)).shown), a9, a10]) ⟨Sub.refl, _, _, rfl⟩ (fun _ _ _ h => h.1 _ _ e11) ?_ ?_
    · rintro j d e g' K ex mem ⟨sg, a9, a10, rfl⟩ k
      have hd := (hall d mem).sub sg
      have e8' := sg _ _ e811
      show wgName 9 d _ _ _
      walk_at "dl"
      refine ⟨t, _, d, fs, nb, sn, rfl, .r e8', hok, hd, fun g3 s3 => ?_⟩
      walk_at "dl"
      walk_at "if"
      refine ⟨t, _, d, fs, nb, sn, rfl, .r (s3 _ _ e8'), hok, h1, by omega, hd.sub s3, fun g4 s4 => ?_⟩
      walk_at "dl"
      refine s_noN rfl ?_
      walk_at "dl"
      refine s_repr (fms_reads (s4 _ _ (s3 _ _ e8'))) hfair ?_
      walk_at "dl"
      refine s_noN rfl ?_
      walk_at "dl"
      exact k _ _ ⟨sg.trans (s3.trans s4), _, _, rfl⟩
    · rintro e g' ⟨sg, a9, a10, rfl⟩
      exact k _ _ ⟨((tp10.sub s11).sub sg).mono (by omega), _, _, _, _, _, _, _, _, _, rfl⟩
  · rintro e g ⟨tp1, a2, a3, a4, a5, a6, a7, a8, a9, a10, rfl⟩
    walk_at "dl"
    exact q _

theorem f_form_weighed {P : Program} {w : World} {K : PySem.W.Frag} {mg : Str → Option Value} {base : Heap} (Z : BI mg bins) (D : DefAt K mg "form_weighed" s_form_weighed ["forms", "weights"]) : Has P w K mg base 1 "form_weighed" ["forms", "weights"] d_form_weighed :=
  D.has fun f fd F => fg_of (k := 0) (wb := w_form_weighed) F sc_form_weighed len_form_weighed (fun cdv A outer s H E hgd hr =>
  (qss_cons (qs_setLc 2 (own := [("one", 3)]) rfl sc_form_weighed.nd (qi_seq (q_ix o_ix (q_ix o_ix (q_var 0) q_int) q_int)) rfl (fun _ _ _ _ _ => (qg_name 3 sc_form_weighed.nd).pg) gok_name (fun _ _ _ _ _ => qts_nil) (fun _ _ _ _ _ => q_int))
  (qss_cons (qs_setLc 4 (own := [("one", 3)]) rfl sc_form_weighed.nd (qi_seq (q_ix o_ix (q_ix o_ix (q_var 0) q_int) q_int)) rfl (fun _ _ _ _ _ => (qg_name 3 sc_form_weighed.nd).pg) gok_name (fun _ _ _ _ _ => qts_nil) (fun _ _ _ _ _ => q_int))
  (qss_cons (qs_set 5 sc_form_weighed.nd q_int)
  (qss_cons (qs_for (passes_of rfl) rfl (qi_seq (q_var 1)) (qg_tupN rfl (qgs_cons (qg_name 6 sc_form_weighed.nd) (qgs_cons (qg_name 7 sc_form_weighed.nd) qgs_nil)) (lenG_cons liveG_name (lenG_cons liveG_name lenG_nil)))
  (qss_cons (qs_set 8 sc_form_weighed.nd (q_ix o_ix (q_var 0) (q_var 6)))
  (qss_cons (qs_setLc 2 (own := [("one", 3), ("more", 9)]) rfl sc_form_weighed.nd (qi_zip2 (Z.at "zip") (qa_cons (q_var 2) (qa_cons (q_ix o_ix (q_var 8) q_int) qa_nil))) rfl (fun _ _ _ _ _ => (qg_tupN rfl (qgs_cons (qg_name 3 sc_form_weighed.nd) (qgs_cons (qg_name 9 sc_form_weighed.nd) qgs_nil)) (lenG_cons liveG_name (lenG_cons liveG_name lenG_nil))).pg) (gok_tup (gsok_cons gok_name (gsok_cons gok_name gsok_nil liveG_name) liveG_name)) (fun _ _ _ _ _ => qts_nil) (fun _ _ _ _ _ => (q_op o_add (q_var 3) (q_op o_mul (q_var 7) (q_var 9)))))
  (qss_cons (qs_setLc 4 (own := [("one", 3), ("more", 9)]) rfl sc_form_weighed.nd (qi_zip2 (Z.at "zip") (qa_cons (q_var 4) (qa_cons (q_ix o_ix (q_var 8) q_int) qa_nil))) rfl (fun _ _ _ _ _ => (qg_tupN rfl (qgs_cons (qg_name 3 sc_form_weighed.nd) (qgs_cons (qg_name 9 sc_form_weighed.nd) qgs_nil)) (lenG_cons liveG_name (lenG_cons liveG_name lenG_nil))).pg) (gok_tup (gsok_cons gok_name (gsok_cons gok_name gsok_nil liveG_name) liveG_name)) (fun _ _ _ _ _ => qts_nil) (fun _ _ _ _ _ => (q_op o_add (q_var 3) (q_op o_mul (q_var 7) (q_var 9)))))
  (qss_one (qs_set 5 sc_form_weighed.nd (q_op o_add (q_var 5) (q_op o_mul (q_var 7) (q_ix o_ix (q_var 8) q_int)))))))))
  (qss_one (qs_ret (q_tup (qa_cons (q_callTy (c_tuple rfl) (Z.at "tuple") (qa_cons (q_var 2) qa_nil)) (qa_cons (q_callTy (c_tuple rfl) (Z.at "tuple") (qa_cons (q_var 4) qa_nil)) (qa_cons (q_var 5) qa_nil))))))))))) ok_form_weighed

theorem f_is_whole_from {P : Program} {w : World} {K : PySem.W.Frag} {mg : Str → Option Value} {base : Heap} (Z : BI mg bins) (D : DefAt K mg "is_whole_from" s_is_whole_from ["thing", "least"]) : Has P w K mg base 1 "is_whole_from" ["thing", "least"] d_is_whole_from :=
  D.has fun f fd F => fg_of (k := 0) (wb := w_is_whole_from) F sc_is_whole_from len_is_whole_from (fun cdv A outer s H E hgd hr =>
  (qss_one (qs_ret (q_and (q_callB c_isi (Z.at "isinstance") (qa_cons (q_var 0) (qa_cons (q_bty (n := "int") (u := .type "int") (Z.at "int")) qa_nil))) (q_and (q_not (q_callB c_isi (Z.at "isinstance") (qa_cons (q_var 0) (qa_cons (q_bty (n := "bool") (u := .type "bool") (Z.at "bool")) qa_nil)))) (q_one (q_cmp o_ge (q_var 0) (q_var 1)))))))) ok_is_whole_from

theorem f_is_weights {P : Program} {w : World} {K : PySem.W.Frag} {mg : Str → Option Value} {base : Heap} (Z : BI mg bins) (h_is_whole_from : Has P w K mg base 1 "is_whole_from" ["thing", "least"] d_is_whole_from) (D : DefAt K mg "is_weights" s_is_weights ["thing"]) : Has P w K mg base 2 "is_weights" ["thing"] d_is_weights :=
  D.has fun f fd F => fg_of (k := 1) (wb := w_is_weights) F sc_is_weights len_is_weights (fun cdv A outer s H E hgd hr =>
  (qss_cons (qs_if (qt_not (qt_val (q_callB c_isi (Z.at "isinstance") (qa_cons (q_var 0) (qa_cons (q_bty (n := "tuple") (u := .type "tuple") (Z.at "tuple")) qa_nil)))))
  (qss_one (qs_ret q_bl))
  qss_nil)
  (qss_cons (qs_set 1 sc_is_weights.nd (q_neg q_int))
  (qss_cons (qs_for (passes_of rfl) rfl (qi_seq (q_var 0)) (qg_name 2 sc_is_weights.nd)
  (qss_cons (qs_if (qt_w (qw_or (qt_not (qt_val (q_callB c_isi (Z.at "isinstance") (qa_cons (q_var 2) (qa_cons (q_bty (n := "tuple") (u := .type "tuple") (Z.at "tuple")) qa_nil))))) (qw_or1 (qt_cmp (o_ne (room_u hr)) (q_callB c_len (Z.at "len") (qa_cons (q_var 2) qa_nil)) q_int))))
  (qss_one (qs_ret q_bl))
  qss_nil)
  (qss_cons (qs_if (qt_w (qw_or (qt_not (qt_val (q_callH h_is_whole_from hgd hr (takes_of rfl rfl rfl rfl) (qa_cons (q_ix o_ix (q_var 2) q_int) (qa_cons (q_op o_add (q_var 1) q_int) qa_nil)) (by decide)))) (qw_or1 (qt_not (qt_val (q_callH h_is_whole_from hgd hr (takes_of rfl rfl rfl rfl) (qa_cons (q_ix o_ix (q_var 2) q_int) (qa_cons q_int qa_nil)) (by decide)))))))
  (qss_one (qs_ret q_bl))
  qss_nil)
  (qss_one (qs_set 1 sc_is_weights.nd (q_ix o_ix (q_var 2) q_int))))))
  (qss_one (qs_ret q_bl)))))) ok_is_weights

theorem f_shuts {P : Program} {w : World} {K : PySem.W.Frag} {mg : Str → Option Value} {base : Heap} (Z : BI mg bins) (h_is_weights : Has P w K mg base 2 "is_weights" ["thing"] d_is_weights) (h_form_weighed : Has P w K mg base 1 "form_weighed" ["forms", "weights"] d_form_weighed) (D : DefAt K mg "shuts" s_shuts ["forms", "thing"]) : Has P w K mg base 3 "shuts" ["forms", "thing"] d_shuts :=
  D.has fun f fd F => fg_of (k := 2) (wb := w_shuts) F sc_shuts len_shuts (fun cdv A outer s H E hgd hr =>
  (qss_cons (qs_if (qt_w (qw_or (qt_not (qt_val (q_callH h_is_weights hgd hr (takes_of rfl rfl rfl rfl) (qa_cons (q_var 1) qa_nil) (by decide)))) (qw_or (qt_cmp (o_eq (room_u hr)) (q_callB c_len (Z.at "len") (qa_cons (q_var 1) qa_nil)) q_int) (qw_or1 (qt_cmp o_ge (q_ix o_ix (q_ix o_ix (q_var 1) (q_neg q_int)) q_int) (q_callB c_len (Z.at "len") (qa_cons (q_var 0) qa_nil)))))))
  (qss_one (qs_ret q_bl))
  qss_nil)
  (qss_cons (qs_asg (q_callH h_form_weighed hgd hr (takes_of rfl rfl rfl rfl) (qa_cons (q_var 0) (qa_cons (q_var 1) qa_nil)) (by decide)) (qg_tupN rfl (qgs_cons (qg_name 2 sc_shuts.nd) (qgs_cons (qg_name 3 sc_shuts.nd) (qgs_cons (qg_name 4 sc_shuts.nd) qgs_nil))) (lenG_cons liveG_name (lenG_cons liveG_name (lenG_cons liveG_name lenG_nil)))))
  (qss_one (qs_ret (q_and (q_cmp o_lt (q_var 4) q_int) (q_one (q_callB (c_all rfl) (Z.at "all") (qa_cons (q_lc (own := [("one", 5)]) rfl sc_shuts.nd (qi_seq (q_op o_add (q_var 2) (q_var 3))) rfl (fun _ _ _ _ _ => (qg_name 5 sc_shuts.nd).pg) gok_name (fun _ _ _ _ _ => qts_nil) (fun _ _ _ _ _ => (q_cmp (o_eq (room_u hr)) (q_var 5) q_int))) qa_nil))))))))) ok_shuts

theorem f_law_tape {P : Program} {w : World} {K : PySem.W.Frag} {mg : Str → Option Value} {base : Heap} (Z : BI mg bins) (D : DefAt K mg "_law_tape" s_law_tape ["_law_script"]) : Has P w K mg base 1 "_law_tape" ["_law_script"] d_law_tape :=
  D.has fun f fd F => fg_of (k := 0) (wb := w_law_tape) F sc_law_tape len_law_tape (fun cdv A outer s H E hgd hr =>
  (qss_one (qs_ret (q_lst (qa_cons (q_slice o_sl (q_var 0) qo_none (qo_some q_int)) (qa_cons q_int (qa_cons q_int qa_nil))))))) ok_law_tape

theorem f_law_draw {P : Program} {w : World} {K : PySem.W.Frag} {mg : Str → Option Value} {base : Heap} (Z : BI mg bins) (D : DefAt K mg "_law_draw" s_law_draw ["_law_tape_here", "_law_many"]) : Has P w K mg base 1 "_law_draw" ["_law_tape_here", "_law_many"] d_law_draw :=
  D.has fun f fd F => fg_of (k := 0) (wb := w_law_draw) F sc_law_draw len_law_draw (fun cdv A outer s H E hgd hr =>
  (qss_cons (qs_asg (q_op o_add (q_ix o_ix (q_var 0) q_int) q_int) (qg_sub' (W := W0) (q_var 0) q_int o_set))
  (qss_cons (qs_if (qt_cmp (o_eq (room_u hr)) (q_ix o_ix (q_var 0) q_int) q_int)
  (qss_cons (qs_set 2 sc_law_draw.nd q_int)
  (qss_cons (qs_if (qt_cmp o_gt (q_callB c_len (Z.at "len") (qa_cons (q_ix o_ix (q_var 0) q_int) qa_nil)) q_int)
  (qss_one (qs_set 2 sc_law_draw.nd (q_ix o_ix (q_ix o_ix (q_var 0) q_int) (q_op o_mod (q_ix o_ix (q_var 0) q_int) (q_callB c_len (Z.at "len") (qa_cons (q_ix o_ix (q_var 0) q_int) qa_nil))))))
  qss_nil)
  (qss_cons (qs_if (qt_cmp o_lt (q_var 2) (q_op o_pow q_int q_int))
  (qss_cons (qs_set 3 sc_law_draw.nd (q_op o_mod (q_op o_add (q_op o_add (q_op o_mul (q_op o_mod (q_var 2) q_int) q_int) (q_op o_mul (q_ix o_ix (q_var 0) q_int) q_int)) q_int) q_int))
  (qss_cons (qs_set 3 sc_law_draw.nd (q_op o_mod (q_op o_mul (q_var 3) (q_op o_add (q_var 3) q_int)) q_int))
  (qss_one (qs_ret (q_op o_mod (q_op o_mod (q_op o_mul (q_var 3) q_int) q_int) (q_var 1))))))
  qss_nil)
  (qss_one (qs_asg (q_op o_sub (q_var 2) (q_op o_pow q_int q_int)) (qg_sub' (W := W0) (q_var 0) q_int o_set))))))
  qss_nil)
  (qss_cons (qs_set 4 sc_law_draw.nd (q_op o_mod (q_ix o_ix (q_var 0) q_int) (q_var 1)))
  (qss_cons (qs_asg (q_op o_fdiv (q_ix o_ix (q_var 0) q_int) (q_var 1)) (qg_sub' (W := W0) (q_var 0) q_int o_set))
  (qss_one (qs_ret (q_var 4)))))))) ok_law_draw

theorem f_law_odd {P : Program} {w : World} {K : PySem.W.Frag} {mg : Str → Option Value} {base : Heap} (Z : BI mg bins) (h_law_draw : Has P w K mg base 1 "_law_draw" ["_law_tape_here", "_law_many"] d_law_draw) (D : DefAt K mg "_law_odd" s_law_odd ["_law_tape_here"]) : Has P w K mg base 2 "_law_odd" ["_law_tape_here"] d_law_odd :=
  D.has fun f fd F => fg_of (k := 1) (wb := w_law_odd) F sc_law_odd len_law_odd (fun cdv A outer s H E hgd hr =>
  (qss_cons (qs_set 1 sc_law_odd.nd (q_lst (qa_cons q_non (qa_cons q_bl (qa_cons q_bl (qa_cons q_int (qa_cons q_int (qa_cons (q_neg q_int) (qa_cons q_int (qa_cons (q_neg q_int) (qa_cons q_int (qa_cons q_str (qa_cons q_str (qa_cons q_str (qa_cons q_str (qa_cons (q_tup qa_nil) (qa_cons (q_lst qa_nil) (qa_cons q_dnew qa_nil))))))))))))))))))
  (qss_one (qs_ret (q_ix o_ix (q_var 1) (q_callH h_law_draw hgd hr (takes_of rfl rfl rfl rfl) (qa_cons (q_var 0) (qa_cons q_int qa_nil)) (by decide))))))) ok_law_odd

theorem g_law_bent {P : Program} {w : World} {K : PySem.W.Frag} {mg : Str → Option Value} {base : Heap} (Z : BI mg bins) (h_law_draw : Has P w K mg base 1 "_law_draw" ["_law_tape_here", "_law_many"] d_law_draw) (h_law_odd : Has P w K mg base 2 "_law_odd" ["_law_tape_here"] d_law_odd) (D : DefAt K mg "_law_bent" s_law_bent ["_law_tape_here", "_law_thing"]) : ∀ n : Nat, Has P w K mg base (3 + n) "_law_bent" ["_law_tape_here", "_law_thing"] (r_law_bent n)
  | 0 => D.has fun f fd F => FG.no no_law_bent
  | n + 1 => by
    have h_law_bent := g_law_bent (P := P) (w := w) (base := base) Z h_law_draw h_law_odd  D n
    exact D.has fun f fd F => fg_of (k := 3 + n) (wb := w_law_bent (r_law_bent n)) F sc_law_bent (len_law_bent n) (fun cdv A outer s H E hgd hr =>
  (qss_cons (qs_if (qt_w (qw_and (qt_val (q_callB c_isi (Z.at "isinstance") (qa_cons (q_var 1) (qa_cons (q_bty (n := "tuple") (u := .type "tuple") (Z.at "tuple")) qa_nil)))) (qw_and (qt_cmp o_gt (q_callB c_len (Z.at "len") (qa_cons (q_var 1) qa_nil)) q_int) (qw_and1 (qt_cmp o_gt (q_callH h_law_draw hgd hr (takes_of rfl rfl rfl rfl) (qa_cons (q_var 0) (qa_cons q_int qa_nil)) (by omega)) q_int)))))
  (qss_cons (qs_set 2 sc_law_bent.nd (q_callH h_law_draw hgd hr (takes_of rfl rfl rfl rfl) (qa_cons (q_var 0) (qa_cons (q_callB c_len (Z.at "len") (qa_cons (q_var 1) qa_nil)) qa_nil)) (by omega)))
  (qss_one (qs_ret (q_op o_add (q_op o_add (q_slice o_sl (q_var 1) qo_none (qo_some (q_var 2))) (q_tup (qa_cons (q_callH h_law_bent hgd hr (takes_of rfl rfl rfl rfl) (qa_cons (q_var 0) (qa_cons (q_ix o_ix (q_var 1) (q_var 2)) qa_nil)) (by omega)) qa_nil))) (q_slice o_sl (q_var 1) (qo_some (q_op o_add (q_var 2) q_int)) qo_none)))))
  qss_nil)
  (qss_cons (qs_set 3 sc_law_bent.nd (q_callH h_law_draw hgd hr (takes_of rfl rfl rfl rfl) (qa_cons (q_var 0) (qa_cons q_int qa_nil)) (by omega)))
  (qss_cons (qs_if (qt_w (qw_and (qt_val (q_callB c_isi (Z.at "isinstance") (qa_cons (q_var 1) (qa_cons (q_bty (n := "tuple") (u := .type "tuple") (Z.at "tuple")) qa_nil)))) (qw_and1 (qt_cmp o_lt (q_var 3) q_int))))
  (qss_cons (qs_set 2 sc_law_bent.nd (q_callH h_law_draw hgd hr (takes_of rfl rfl rfl rfl) (qa_cons (q_var 0) (qa_cons (q_op o_add (q_callB c_len (Z.at "len") (qa_cons (q_var 1) qa_nil)) q_int) qa_nil)) (by omega)))
  (qss_cons (qs_set 4 sc_law_bent.nd (q_op o_add (q_op o_add (q_slice o_sl (q_var 1) qo_none (qo_some (q_var 2))) (q_slice o_sl (q_op o_add (q_var 1) (q_tup (qa_cons q_int qa_nil))) qo_none (qo_some q_int))) (q_slice o_sl (q_var 1) (qo_some (q_var 2)) qo_none)))
  (qss_one (qs_ret (q_ix o_ix (q_lst (qa_cons (q_callTy (c_list rfl) (Z.at "list") (qa_cons (q_var 1) qa_nil)) (qa_cons (q_slice o_sl (q_var 1) qo_none (qo_some (q_var 2))) (qa_cons (q_var 4) (qa_cons (q_rev (q_var 1)) (qa_cons (q_op o_add (q_slice o_sl (q_var 1) qo_none (qo_some (q_var 2))) (q_slice o_sl (q_var 1) (qo_some (q_op o_add (q_var 2) q_int)) qo_none)) qa_nil)))))) (q_var 3))))))
  qss_nil)
  (qss_cons (qs_if (qt_w (qw_and (qt_val (q_callB c_isi (Z.at "isinstance") (qa_cons (q_var 1) (qa_cons (q_bty (n := "int") (u := .type "int") (Z.at "int")) qa_nil)))) (qw_and1 (qt_cmp o_lt (q_var 3) q_int))))
  (qss_one (qs_ret (q_ix o_ix (q_lst (qa_cons (q_op o_add (q_var 1) q_int) (qa_cons (q_op o_sub (q_var 1) q_int) (qa_cons (q_cmp (o_eq (room_u hr)) (q_var 1) q_int) (qa_cons (q_callTy c_str (Z.at "str") (qa_cons (q_var 1) qa_nil)) (qa_cons (q_op o_sub q_int (q_var 1)) (qa_cons (q_op o_mul (q_var 1) q_int) qa_nil))))))) (q_var 3))))
  qss_nil)
  (qss_one (qs_ret (q_callH h_law_odd hgd hr (takes_of rfl rfl rfl rfl) (qa_cons (q_var 0) qa_nil) (by omega))))))))) (ok_law_bent n)
theorem f_law_bent {P : Program} {w : World} {K : PySem.W.Frag} {mg : Str → Option Value} {base : Heap} (Z : BI mg bins) (h_law_draw : Has P w K mg base 1 "_law_draw" ["_law_tape_here", "_law_many"] d_law_draw) (h_law_odd : Has P w K mg base 2 "_law_odd" ["_law_tape_here"] d_law_odd) (D : DefAt K mg "_law_bent" s_law_bent ["_law_tape_here", "_law_thing"]) : Has P w K mg base 8 "_law_bent" ["_law_tape_here", "_law_thing"] d_law_bent :=
  g_law_bent Z h_law_draw h_law_odd  D 5

theorem f_law_small_form {P : Program} {w : World} {K : PySem.W.Frag} {mg : Str → Option Value} {base : Heap} (Z : BI mg bins) (h_law_draw : Has P w K mg base 1 "_law_draw" ["_law_tape_here", "_law_many"] d_law_draw) (D : DefAt K mg "_law_small_form" s_law_small_form ["_law_tape_here", "_law_inputs", "_law_sorts"]) : Has P w K mg base 2 "_law_small_form" ["_law_tape_here", "_law_inputs", "_law_sorts"] d_law_small_form :=
  D.has fun f fd F => fg_of (k := 1) (wb := w_law_small_form) F sc_law_small_form len_law_small_form (fun cdv A outer s H E hgd hr =>
  (qss_cons (qs_set 3 sc_law_small_form.nd (q_callTy (c_tuple rfl) (Z.at "tuple") (qa_cons (q_lc (own := [("_law_k", 4)]) rfl sc_law_small_form.nd (qi_range1 (Z.at "range") (qa_cons (q_var 1) qa_nil)) rfl (fun _ _ _ _ _ => (qg_name 4 sc_law_small_form.nd).pg) gok_name (fun _ _ _ _ _ => qts_nil) (fun _ _ _ _ _ => (q_ix o_ix (q_lst (qa_cons q_int (qa_cons q_int (qa_cons q_int (qa_cons (q_neg q_int) (qa_cons q_int qa_nil)))))) (q_callH h_law_draw hgd hr takes0 (qa_cons (q_var 0) (qa_cons q_int qa_nil)) (by decide))))) qa_nil)))
  (qss_one (qs_ret (q_tup (qa_cons (q_var 3) (qa_cons (q_callTy (c_tuple rfl) (Z.at "tuple") (qa_cons (q_lc (own := [("_law_k", 4)]) rfl sc_law_small_form.nd (qi_range1 (Z.at "range") (qa_cons (q_var 2) qa_nil)) rfl (fun _ _ _ _ _ => (qg_name 4 sc_law_small_form.nd).pg) gok_name (fun _ _ _ _ _ => qts_nil) (fun _ _ _ _ _ => (q_ix o_ix (q_lst (qa_cons q_int (qa_cons q_int (qa_cons q_int (qa_cons (q_neg q_int) (qa_cons q_int qa_nil)))))) (q_callH h_law_draw hgd hr takes0 (qa_cons (q_var 0) (qa_cons q_int qa_nil)) (by decide))))) qa_nil)) (qa_cons (q_op o_sub (q_callH h_law_draw hgd hr (takes_of rfl rfl rfl rfl) (qa_cons (q_var 0) (qa_cons q_int qa_nil)) (by decide)) q_int) qa_nil)))))))) ok_law_small_form

theorem f_law_closed {P : Program} {w : World} {K : PySem.W.Frag} {mg : Str → Option Value} {base : Heap} (Z : BI mg bins) (h_law_draw : Has P w K mg base 1 "_law_draw" ["_law_tape_here", "_law_many"] d_law_draw) (D : DefAt K mg "_law_closed" s_law_closed ["_law_tape_here", "_law_forms"]) : Has P w K mg base 2 "_law_closed" ["_law_tape_here", "_law_forms"] d_law_closed :=
  D.has fun f fd F => fg_of (k := 1) (wb := w_law_closed) F sc_law_closed len_law_closed (fun cdv A outer s H E hgd hr =>
  (qss_cons (qs_set 2 sc_law_closed.nd (q_op o_add q_int (q_callH h_law_draw hgd hr (takes_of rfl rfl rfl rfl) (qa_cons (q_var 0) (qa_cons q_int qa_nil)) (by decide))))
  (qss_cons (qs_set 3 sc_law_closed.nd (q_lc (own := [("_law_form", 4)]) rfl sc_law_closed.nd (qi_seq (q_var 1)) rfl (fun _ _ _ _ _ => (qg_name 4 sc_law_closed.nd).pg) gok_name (fun _ _ _ _ _ => qts_nil) (fun _ _ _ _ _ => (q_op o_mul (q_callH h_law_draw hgd hr takes0 (qa_cons (q_var 0) (qa_cons q_int qa_nil)) (by decide)) (q_var 2)))))
  (qss_cons (qs_set 5 sc_law_closed.nd (q_lst qa_nil))
  (qss_cons (qs_for (passes_of rfl) rfl (qi_seq (q_lst (qa_cons q_int (qa_cons q_int qa_nil)))) (qg_name 6 sc_law_closed.nd)
  (qss_cons (qs_set 7 sc_law_closed.nd (q_callB c_len (Z.at "len") (qa_cons (q_ix o_ix (q_ix o_ix (q_var 1) q_int) (q_var 6)) qa_nil)))
  (qss_one (qs_expr (q_bm PySem.F.plainAttrs_list PySem.F.slot_list_append PySem.F.type_list_append m_append (q_var 5) (qa_cons (q_lc (own := [("_law_j", 9)]) rfl sc_law_closed.nd (qi_range1 (Z.at "range") (qa_cons (q_var 7) qa_nil)) rfl (fun _ _ _ _ _ => (qg_name 9 sc_law_closed.nd).pg) gok_name (fun _ _ _ _ _ => qts_nil) (fun _ _ _ _ _ => (q_callB (c_sum rfl) (Z.at "sum") (qa_cons (q_lc (own := [("_law_k", 8)]) rfl sc_law_closed.nd (qi_range1 (Z.at "range") (qa_cons (q_callB c_len (Z.at "len") (qa_cons (q_var 1) qa_nil)) qa_nil)) rfl (fun _ _ _ _ _ => (qg_name 8 sc_law_closed.nd).pg) gok_name (fun _ _ _ _ _ => qts_nil) (fun _ _ _ _ _ => (q_op o_mul (q_ix o_ix (q_var 3) (q_var 8)) (q_ix o_ix (q_ix o_ix (q_ix o_ix (q_var 1) (q_var 8)) (q_var 6)) (q_var 9))))) qa_nil)))) qa_nil))))))
  (qss_cons (qs_set 10 sc_law_closed.nd (q_callB (c_sum rfl) (Z.at "sum") (qa_cons (q_lc (own := [("_law_k", 8)]) rfl sc_law_closed.nd (qi_range1 (Z.at "range") (qa_cons (q_callB c_len (Z.at "len") (qa_cons (q_var 1) qa_nil)) qa_nil)) rfl (fun _ _ _ _ _ => (qg_name 8 sc_law_closed.nd).pg) gok_name (fun _ _ _ _ _ => qts_nil) (fun _ _ _ _ _ => (q_op o_mul (q_ix o_ix (q_var 3) (q_var 8)) (q_ix o_ix (q_ix o_ix (q_var 1) (q_var 8)) q_int)))) qa_nil)))
  (qss_cons (qs_set 11 sc_law_closed.nd (q_tup (qa_cons (q_callTy (c_tuple rfl) (Z.at "tuple") (qa_cons (q_lc (own := [("_law_one", 12)]) rfl sc_law_closed.nd (qi_seq (q_ix o_ix (q_var 5) q_int)) rfl (fun _ _ _ _ _ => (qg_name 12 sc_law_closed.nd).pg) gok_name (fun _ _ _ _ _ => qts_nil) (fun _ _ _ _ _ => (q_op o_sub q_int (q_op o_fdiv (q_var 12) (q_var 2))))) qa_nil)) (qa_cons (q_callTy (c_tuple rfl) (Z.at "tuple") (qa_cons (q_lc (own := [("_law_one", 12)]) rfl sc_law_closed.nd (qi_seq (q_ix o_ix (q_var 5) q_int)) rfl (fun _ _ _ _ _ => (qg_name 12 sc_law_closed.nd).pg) gok_name (fun _ _ _ _ _ => qts_nil) (fun _ _ _ _ _ => (q_op o_sub q_int (q_op o_fdiv (q_var 12) (q_var 2))))) qa_nil)) qa_nil))))
  (qss_cons (qs_set 13 sc_law_closed.nd (q_op o_add (q_var 11) (q_tup (qa_cons (q_op o_sub (q_op o_add (q_op o_sub q_int (q_op o_fdiv (q_var 10) (q_var 2))) (q_callH h_law_draw hgd hr (takes_of rfl rfl rfl rfl) (qa_cons (q_var 0) (qa_cons q_int qa_nil)) (by decide))) q_int) qa_nil))))
  (qss_cons (qs_set 14 sc_law_closed.nd (q_callH h_law_draw hgd hr (takes_of rfl rfl rfl rfl) (qa_cons (q_var 0) (qa_cons (q_op o_add (q_callB c_len (Z.at "len") (qa_cons (q_var 1) qa_nil)) q_int) qa_nil)) (by decide)))
  (qss_cons (qs_expr (q_bm PySem.F.plainAttrs_list PySem.F.slot_list_insert PySem.F.type_list_insert m_insert (q_var 3) (qa_cons (q_var 14) (qa_cons (q_var 2) qa_nil))))
  (qss_cons (qs_set 15 sc_law_closed.nd (q_callTy (c_tuple rfl) (Z.at "tuple") (qa_cons (q_lc (own := [("_law_k", 8)]) rfl sc_law_closed.nd (qi_range1 (Z.at "range") (qa_cons (q_callB c_len (Z.at "len") (qa_cons (q_var 3) qa_nil)) qa_nil)) rfl (fun _ _ _ _ _ => (qg_name 8 sc_law_closed.nd).pg) gok_name (fun _ _ _ _ _ => (qts_one (qt_cmp o_gt (q_ix o_ix (q_var 3) (q_var 8)) q_int))) (fun _ _ _ _ _ => (q_tup (qa_cons (q_var 8) (qa_cons (q_ix o_ix (q_var 3) (q_var 8)) qa_nil))))) qa_nil)))
  (qss_one (qs_ret (q_tup (qa_cons (q_op o_add (q_op o_add (q_slice o_sl (q_var 1) qo_none (qo_some (q_var 14))) (q_lst (qa_cons (q_var 13) qa_nil))) (q_slice o_sl (q_var 1) (qo_some (q_var 14)) qo_none)) (qa_cons (q_var 15) qa_nil)))))))))))))))) ok_law_closed

theorem f_law_is_weights {P : Program} {w : World} {K : PySem.W.Frag} {mg : Str → Option Value} {base : Heap} (Z : BI mg bins) (D : DefAt K mg "_law_is_weights" s_law_is_weights ["_law_thing", "_law_many"]) : Has P w K mg base 1 "_law_is_weights" ["_law_thing", "_law_many"] d_law_is_weights :=
  D.has fun f fd F => fg_of (k := 0) (wb := w_law_is_weights) F sc_law_is_weights len_law_is_weights (fun cdv A outer s H E hgd hr =>
  (qss_cons (qs_if (qt_not (qt_val (q_callB c_isi (Z.at "isinstance") (qa_cons (q_var 0) (qa_cons (q_bty (n := "tuple") (u := .type "tuple") (Z.at "tuple")) qa_nil)))))
  (qss_one (qs_ret q_bl))
  qss_nil)
  (qss_cons (qs_set 2 sc_law_is_weights.nd (q_neg q_int))
  (qss_cons (qs_for (passes_of rfl) rfl (qi_seq (q_var 0)) (qg_name 3 sc_law_is_weights.nd)
  (qss_cons (qs_if (qt_w (qw_or (qt_not (qt_val (q_callB c_isi (Z.at "isinstance") (qa_cons (q_var 3) (qa_cons (q_bty (n := "tuple") (u := .type "tuple") (Z.at "tuple")) qa_nil))))) (qw_or1 (qt_cmp (o_ne (room_u hr)) (q_callB c_len (Z.at "len") (qa_cons (q_var 3) qa_nil)) q_int))))
  (qss_one (qs_ret q_bl))
  qss_nil)
  (qss_cons (qs_if (qt_cmp (o_neNil (room_u hr)) (q_lc (own := [("_law_part", 4)]) rfl sc_law_is_weights.nd (qi_seq (q_var 3)) rfl (fun _ _ _ _ _ => (qg_name 4 sc_law_is_weights.nd).pg) gok_name (fun _ _ _ _ _ => (qts_one (qt_w (qw_or (qt_not (qt_val (q_callB c_isi (Z.at "isinstance") (qa_cons (q_var 4) (qa_cons (q_bty (n := "int") (u := .type "int") (Z.at "int")) qa_nil))))) (qw_or1 (qt_val (q_callB c_isi (Z.at "isinstance") (qa_cons (q_var 4) (qa_cons (q_bty (n := "bool") (u := .type "bool") (Z.at "bool")) qa_nil))))))))) (fun _ _ _ _ _ => (q_var 4))) (q_lst qa_nil))
  (qss_one (qs_ret q_bl))
  qss_nil)
  (qss_cons (qs_if (qt_w (qw_or (qt_cmp o_le (q_ix o_ix (q_var 3) q_int) (q_var 2)) (qw_or (qt_cmp o_ge (q_ix o_ix (q_var 3) q_int) (q_var 1)) (qw_or1 (qt_cmp o_lt (q_ix o_ix (q_var 3) q_int) q_int)))))
  (qss_one (qs_ret q_bl))
  qss_nil)
  (qss_one (qs_set 2 sc_law_is_weights.nd (q_ix o_ix (q_var 3) q_int)))))))
  (qss_one (qs_ret q_bl)))))) ok_law_is_weights

theorem f_law_shut {P : Program} {w : World} {K : PySem.W.Frag} {mg : Str → Option Value} {base : Heap} (Z : BI mg bins) (h_law_is_weights : Has P w K mg base 1 "_law_is_weights" ["_law_thing", "_law_many"] d_law_is_weights) (D : DefAt K mg "_law_shut" s_law_shut ["_law_forms", "_law_thing"]) : Has P w K mg base 2 "_law_shut" ["_law_forms", "_law_thing"] d_law_shut :=
  D.has fun f fd F => fg_of (k := 1) (wb := w_law_shut) F sc_law_shut len_law_shut (fun cdv A outer s H E hgd hr =>
  (qss_cons (qs_if (qt_not (qt_val (q_callH h_law_is_weights hgd hr (takes_of rfl rfl rfl rfl) (qa_cons (q_var 1) (qa_cons (q_callB c_len (Z.at "len") (qa_cons (q_var 0) qa_nil)) qa_nil)) (by decide))))
  (qss_one (qs_ret q_bl))
  qss_nil)
  (qss_cons (qs_for (passes_of rfl) rfl (qi_seq (q_lst (qa_cons q_int (qa_cons q_int qa_nil)))) (qg_name 2 sc_law_shut.nd)
  (qss_one (qs_for (passes_of rfl) rfl (qi_range1 (Z.at "range") (qa_cons (q_callB c_len (Z.at "len") (qa_cons (q_ix o_ix (q_ix o_ix (q_var 0) q_int) (q_var 2)) qa_nil)) qa_nil)) (qg_name 3 sc_law_shut.nd)
  (qss_one (qs_if (qt_cmp (o_ne (room_u hr)) (q_callB (c_sum rfl) (Z.at "sum") (qa_cons (q_lc (own := [("_law_k", 4), ("_law_times", 5)]) rfl sc_law_shut.nd (qi_seq (q_var 1)) rfl (fun _ _ _ _ _ => (qg_tupN rfl (qgs_cons (qg_name 4 sc_law_shut.nd) (qgs_cons (qg_name 5 sc_law_shut.nd) qgs_nil)) (lenG_cons liveG_name (lenG_cons liveG_name lenG_nil))).pg) (gok_tup (gsok_cons gok_name (gsok_cons gok_name gsok_nil liveG_name) liveG_name)) (fun _ _ _ _ _ => qts_nil) (fun _ _ _ _ _ => (q_op o_mul (q_var 5) (q_ix o_ix (q_ix o_ix (q_ix o_ix (q_var 0) (q_var 4)) (q_var 2)) (q_var 3))))) qa_nil)) q_int)
  (qss_one (qs_ret q_bl))
  qss_nil)))))
  (qss_one (qs_ret (q_cmp o_lt (q_callB (c_sum rfl) (Z.at "sum") (qa_cons (q_lc (own := [("_law_k", 4), ("_law_times", 5)]) rfl sc_law_shut.nd (qi_seq (q_var 1)) rfl (fun _ _ _ _ _ => (qg_tupN rfl (qgs_cons (qg_name 4 sc_law_shut.nd) (qgs_cons (qg_name 5 sc_law_shut.nd) qgs_nil)) (lenG_cons liveG_name (lenG_cons liveG_name lenG_nil))).pg) (gok_tup (gsok_cons gok_name (gsok_cons gok_name gsok_nil liveG_name) liveG_name)) (fun _ _ _ _ _ => qts_nil) (fun _ _ _ _ _ => (q_op o_mul (q_var 5) (q_ix o_ix (q_ix o_ix (q_var 0) (q_var 4)) q_int)))) qa_nil)) q_int)))))) ok_law_shut

theorem f_law_others {P : Program} {w : World} {K : PySem.W.Frag} {mg : Str → Option Value} {base : Heap} (Z : BI mg bins) (h_law_odd : Has P w K mg base 2 "_law_odd" ["_law_tape_here"] d_law_odd) (h_law_bent : Has P w K mg base 8 "_law_bent" ["_law_tape_here", "_law_thing"] d_law_bent) (D : DefAt K mg "_law_others" s_law_others ["_law_tape_here", "_law_weights", "_law_many"]) : Has P w K mg base 9 "_law_others" ["_law_tape_here", "_law_weights", "_law_many"] d_law_others :=
  D.has fun f fd F => fg_of (k := 8) (wb := w_law_others) F sc_law_others len_law_others (fun cdv A outer s H E hgd hr =>
  (qss_cons (qs_set 3 sc_law_others.nd (q_lst (qa_cons (q_op o_add (q_var 1) (q_slice o_sl (q_var 1) qo_none (qo_some q_int))) (qa_cons (q_rev (q_var 1)) (qa_cons (q_slice o_sl (q_var 1) (qo_some q_int) qo_none) (qa_cons (q_op o_add (q_var 1) (q_tup (qa_cons (q_tup (qa_cons (q_var 2) (qa_cons q_int qa_nil))) qa_nil))) (qa_cons (q_op o_add (q_tup (qa_cons (q_tup (qa_cons (q_neg q_int) (qa_cons q_int qa_nil))) qa_nil)) (q_var 1)) (qa_cons (q_tup qa_nil) qa_nil))))))))
  (qss_cons (qs_set 3 sc_law_others.nd (q_op o_add (q_var 3) (q_lst (qa_cons (q_callTy (c_tuple rfl) (Z.at "tuple") (qa_cons (q_lc (own := [("_law_k", 4), ("_law_times", 5)]) rfl sc_law_others.nd (qi_seq (q_var 1)) rfl (fun _ _ _ _ _ => (qg_tupN rfl (qgs_cons (qg_name 4 sc_law_others.nd) (qgs_cons (qg_name 5 sc_law_others.nd) qgs_nil)) (lenG_cons liveG_name (lenG_cons liveG_name lenG_nil))).pg) (gok_tup (gsok_cons gok_name (gsok_cons gok_name gsok_nil liveG_name) liveG_name)) (fun _ _ _ _ _ => qts_nil) (fun _ _ _ _ _ => (q_tup (qa_cons (q_var 4) (qa_cons (q_op o_mul q_int (q_var 5)) qa_nil))))) qa_nil)) (qa_cons (q_callTy (c_tuple rfl) (Z.at "tuple") (qa_cons (q_lc (own := [("_law_k", 4), ("_law_times", 5)]) rfl sc_law_others.nd (qi_seq (q_var 1)) rfl (fun _ _ _ _ _ => (qg_tupN rfl (qgs_cons (qg_name 4 sc_law_others.nd) (qgs_cons (qg_name 5 sc_law_others.nd) qgs_nil)) (lenG_cons liveG_name (lenG_cons liveG_name lenG_nil))).pg) (gok_tup (gsok_cons gok_name (gsok_cons gok_name gsok_nil liveG_name) liveG_name)) (fun _ _ _ _ _ => qts_nil) (fun _ _ _ _ _ => (q_tup (qa_cons (q_var 4) (qa_cons q_bl qa_nil))))) qa_nil)) qa_nil)))))
  (qss_cons (qs_set 3 sc_law_others.nd (q_op o_add (q_var 3) (q_lst (qa_cons (q_callTy (c_tuple rfl) (Z.at "tuple") (qa_cons (q_lc (own := [("_law_k", 4), ("_law_times", 5)]) rfl sc_law_others.nd (qi_seq (q_var 1)) rfl (fun _ _ _ _ _ => (qg_tupN rfl (qgs_cons (qg_name 4 sc_law_others.nd) (qgs_cons (qg_name 5 sc_law_others.nd) qgs_nil)) (lenG_cons liveG_name (lenG_cons liveG_name lenG_nil))).pg) (gok_tup (gsok_cons gok_name (gsok_cons gok_name gsok_nil liveG_name) liveG_name)) (fun _ _ _ _ _ => qts_nil) (fun _ _ _ _ _ => (q_tup (qa_cons (q_var 4) (qa_cons q_int qa_nil))))) qa_nil)) (qa_cons (q_callTy (c_tuple rfl) (Z.at "tuple") (qa_cons (q_lc (own := [("_law_k", 4), ("_law_times", 5)]) rfl sc_law_others.nd (qi_seq (q_var 1)) rfl (fun _ _ _ _ _ => (qg_tupN rfl (qgs_cons (qg_name 4 sc_law_others.nd) (qgs_cons (qg_name 5 sc_law_others.nd) qgs_nil)) (lenG_cons liveG_name (lenG_cons liveG_name lenG_nil))).pg) (gok_tup (gsok_cons gok_name (gsok_cons gok_name gsok_nil liveG_name) liveG_name)) (fun _ _ _ _ _ => qts_nil) (fun _ _ _ _ _ => (q_lst (qa_cons (q_var 4) (qa_cons (q_var 5) qa_nil))))) qa_nil)) qa_nil)))))
  (qss_cons (qs_set 3 sc_law_others.nd (q_op o_add (q_var 3) (q_lst (qa_cons (q_callTy (c_tuple rfl) (Z.at "tuple") (qa_cons (q_lc (own := [("_law_k", 4), ("_law_times", 5)]) rfl sc_law_others.nd (qi_seq (q_var 1)) rfl (fun _ _ _ _ _ => (qg_tupN rfl (qgs_cons (qg_name 4 sc_law_others.nd) (qgs_cons (qg_name 5 sc_law_others.nd) qgs_nil)) (lenG_cons liveG_name (lenG_cons liveG_name lenG_nil))).pg) (gok_tup (gsok_cons gok_name (gsok_cons gok_name gsok_nil liveG_name) liveG_name)) (fun _ _ _ _ _ => qts_nil) (fun _ _ _ _ _ => (q_tup (qa_cons (q_op o_add (q_var 4) q_int) (qa_cons (q_var 5) qa_nil))))) qa_nil)) (qa_cons (q_callTy (c_list rfl) (Z.at "list") (qa_cons (q_var 1) qa_nil)) (qa_cons (q_callH h_law_odd hgd hr (takes_of rfl rfl rfl rfl) (qa_cons (q_var 0) qa_nil) (by decide)) qa_nil))))))
  (qss_one (qs_ret (q_op o_add (q_var 3) (q_lst (qa_cons (q_callH h_law_bent hgd hr (takes_of rfl rfl rfl rfl) (qa_cons (q_var 0) (qa_cons (q_var 1) qa_nil)) (by decide)) (qa_cons (q_callH h_law_bent hgd hr (takes_of rfl rfl rfl rfl) (qa_cons (q_var 0) (qa_cons (q_var 1) qa_nil)) (by decide)) qa_nil))))))))))) ok_law_others

theorem law_fg {P : Program} {w : World} {K : PySem.W.Frag} {mg : Str → Option Value} {base : Heap} {f : Addr} {fd : FuncData} (Z : BI mg bins) (h_law_tape : Has P w K mg base 1 "_law_tape" ["_law_script"] d_law_tape) (h_law_draw : Has P w K mg base 1 "_law_draw" ["_law_tape_here", "_law_many"] d_law_draw) (h_law_small_form : Has P w K mg base 2 "_law_small_form" ["_law_tape_here", "_law_inputs", "_law_sorts"] d_law_small_form) (h_law_closed : Has P w K mg base 2 "_law_closed" ["_law_tape_here", "_law_forms"] d_law_closed) (h_law_others : Has P w K mg base 9 "_law_others" ["_law_tape_here", "_law_weights", "_law_many"] d_law_others) (h_shuts : Has P w K mg base 3 "shuts" ["forms", "thing"] d_shuts) (h_law_shut : Has P w K mg base 2 "_law_shut" ["_law_forms", "_law_thing"] d_law_shut) (F : L2.Fun K "law" "law" s_law f fd) : FG P w K mg base 10 f fd ["_law_script"] lawD :=
  fg_of (k := 9) (wb := w_law) F sc_law len_lawD (fun cdv A outer s H E hgd hr =>
  (qss_cons (qs_set 1 sc_law.nd (q_callH h_law_tape hgd hr (takes_of rfl rfl rfl rfl) (qa_cons (q_var 0) qa_nil) (by decide)))
  (qss_cons (qs_for (passes_of rfl) rfl (qi_range1 (Z.at "range") (qa_cons q_int qa_nil)) (qg_name 2 sc_law.nd)
  (qss_cons (qs_set 3 sc_law.nd (q_callH h_law_draw hgd hr (takes_of rfl rfl rfl rfl) (qa_cons (q_var 1) (qa_cons q_int qa_nil)) (by decide)))
  (qss_cons (qs_set 4 sc_law.nd (q_op o_add q_int (q_callH h_law_draw hgd hr (takes_of rfl rfl rfl rfl) (qa_cons (q_var 1) (qa_cons q_int qa_nil)) (by decide))))
  (qss_cons (qs_setLc 5 (own := [("_law_j", 6)]) rfl sc_law.nd (qi_range1 (Z.at "range") (qa_cons (q_op o_add q_int (q_callH h_law_draw hgd hr (takes_of rfl rfl rfl rfl) (qa_cons (q_var 1) (qa_cons q_int qa_nil)) (by decide))) qa_nil)) rfl (fun _ _ _ _ _ => (qg_name 6 sc_law.nd).pg) gok_name (fun _ _ _ _ _ => qts_nil) (fun _ _ _ _ _ => (q_callH h_law_small_form hgd hr takes0 (qa_cons (q_var 1) (qa_cons (q_var 3) (qa_cons (q_var 4) qa_nil))) (by decide))))
  (qss_cons (qs_set 7 sc_law.nd (q_tup (qa_cons (q_tup (qa_cons q_int (qa_cons q_int qa_nil))) qa_nil)))
  (qss_cons (qs_if (qt_cmp o_gt (q_callH h_law_draw hgd hr (takes_of rfl rfl rfl rfl) (qa_cons (q_var 1) (qa_cons q_int qa_nil)) (by decide)) q_int)
  (qss_one (qs_asg (q_callH h_law_closed hgd hr (takes_of rfl rfl rfl rfl) (qa_cons (q_var 1) (qa_cons (q_var 5) qa_nil)) (by decide)) (qg_tupN rfl (qgs_cons (qg_name 5 sc_law.nd) (qgs_cons (qg_name 7 sc_law.nd) qgs_nil)) (lenG_cons liveG_name (lenG_cons liveG_name lenG_nil)))))
  qss_nil)
  (qss_cons (qs_set 8 sc_law.nd (q_callB (c_repr hgd (room_u hr)) (Z.at "repr") (qa_cons (q_var 5) qa_nil)))
  (qss_one (qs_for (passes_of rfl) rfl (qi_seq (q_op o_add (q_lst (qa_cons (q_var 7) qa_nil)) (q_callH h_law_others hgd hr (takes_of rfl rfl rfl rfl) (qa_cons (q_var 1) (qa_cons (q_var 7) (qa_cons (q_callB c_len (Z.at "len") (qa_cons (q_var 5) qa_nil)) qa_nil))) (by decide)))) (qg_name 9 sc_law.nd)
  (qss_cons (qs_set 10 sc_law.nd (q_callH h_shuts hgd hr (takes_of rfl rfl rfl rfl) (qa_cons (q_var 5) (qa_cons (q_var 9) qa_nil)) (by decide)))
  (qss_one (qs_if (qt_w (qw_or (qt_not (qt_val (q_callB c_isi (Z.at "isinstance") (qa_cons (q_var 10) (qa_cons (q_bty (n := "bool") (u := .type "bool") (Z.at "bool")) qa_nil))))) (qw_or (qt_cmp (o_ne (room_u hr)) (q_var 10) (q_callH h_law_shut hgd hr (takes_of rfl rfl rfl rfl) (qa_cons (q_var 5) (qa_cons (q_var 9) qa_nil)) (by decide))) (qw_or1 (qt_cmp (o_ne (room_u hr)) (q_callB (c_repr hgd (room_u hr)) (Z.at "repr") (qa_cons (q_var 5) qa_nil)) (q_var 8))))))
  (qss_one (qs_ret q_bl))
  qss_nil))))))))))))
  (qss_one (qs_ret q_bl))))) ok_law
theorem all_mk {w : World} {K : PySem.W.Frag} {h : Heap} {mg : Str → Option Value} {fa : Addr} (X : K.In h) (G : h.Ns mainGlobals mg) (hfa : mg "law" = some (.ref fa))
    {f1 : Addr} {od1 an1 : Option Addr} {sl1 : Array (Option Value)} {oc1 kV1 dc1 pm1 cd1 ct1 : Value}
    (a1 : PySem.W.nsIn K mainGlobals "_law_tape" = some (some (.ref f1))) (l1 : K.lookup f1 = some ⟨oc1, od1, .func (PySem.W.fnOf "_law_tape" "_law_tape" (defArgs s_law_tape) (defBody s_law_tape) (defScope s_law_tape) .none kV1 dc1 pm1 an1 cd1 ct1), sl1⟩) (c1 : PySem.W.codeIn K cd1 "_law_tape" = true) (k1 : PySem.W.keepIn K (.ref f1) = true)
    {f2 : Addr} {od2 an2 : Option Addr} {sl2 : Array (Option Value)} {oc2 kV2 dc2 pm2 cd2 ct2 : Value}
    (a2 : PySem.W.nsIn K mainGlobals "_law_draw" = some (some (.ref f2))) (l2 : K.lookup f2 = some ⟨oc2, od2, .func (PySem.W.fnOf "_law_draw" "_law_draw" (defArgs s_law_draw) (defBody s_law_draw) (defScope s_law_draw) .none kV2 dc2 pm2 an2 cd2 ct2), sl2⟩) (c2 : PySem.W.codeIn K cd2 "_law_draw" = true) (k2 : PySem.W.keepIn K (.ref f2) = true)
    {f3 : Addr} {od3 an3 : Option Addr} {sl3 : Array (Option Value)} {oc3 kV3 dc3 pm3 cd3 ct3 : Value}
    (a3 : PySem.W.nsIn K mainGlobals "_law_small_form" = some (some (.ref f3))) (l3 : K.lookup f3 = some ⟨oc3, od3, .func (PySem.W.fnOf "_law_small_form" "_law_small_form" (defArgs s_law_small_form) (defBody s_law_small_form) (defScope s_law_small_form) .none kV3 dc3 pm3 an3 cd3 ct3), sl3⟩) (c3 : PySem.W.codeIn K cd3 "_law_small_form" = true) (k3 : PySem.W.keepIn K (.ref f3) = true)
    {f4 : Addr} {od4 an4 : Option Addr} {sl4 : Array (Option Value)} {oc4 kV4 dc4 pm4 cd4 ct4 : Value}
    (a4 : PySem.W.nsIn K mainGlobals "_law_closed" = some (some (.ref f4))) (l4 : K.lookup f4 = some ⟨oc4, od4, .func (PySem.W.fnOf "_law_closed" "_law_closed" (defArgs s_law_closed) (defBody s_law_closed) (defScope s_law_closed) .none kV4 dc4 pm4 an4 cd4 ct4), sl4⟩) (c4 : PySem.W.codeIn K cd4 "_law_closed" = true) (k4 : PySem.W.keepIn K (.ref f4) = true)
    {f5 : Addr} {od5 an5 : Option Addr} {sl5 : Array (Option Value)} {oc5 kV5 dc5 pm5 cd5 ct5 : Value}
    (a5 : PySem.W.nsIn K mainGlobals "_law_odd" = some (some (.ref f5))) (l5 : K.lookup f5 = some ⟨oc5, od5, .func (PySem.W.fnOf "_law_odd" "_law_odd" (defArgs s_law_odd) (defBody s_law_odd) (defScope s_law_odd) .none kV5 dc5 pm5 an5 cd5 ct5), sl5⟩) (c5 : PySem.W.codeIn K cd5 "_law_odd" = true) (k5 : PySem.W.keepIn K (.ref f5) = true)
    {f6 : Addr} {od6 an6 : Option Addr} {sl6 : Array (Option Value)} {oc6 kV6 dc6 pm6 cd6 ct6 : Value}
    (a6 : PySem.W.nsIn K mainGlobals "_law_bent" = some (some (.ref f6))) (l6 : K.lookup f6 = some ⟨oc6, od6, .func (PySem.W.fnOf "_law_bent" "_law_bent" (defArgs s_law_bent) (defBody s_law_bent) (defScope s_law_bent) .none kV6 dc6 pm6 an6 cd6 ct6), sl6⟩) (c6 : PySem.W.codeIn K cd6 "_law_bent" = true) (k6 : PySem.W.keepIn K (.ref f6) = true)
    {f7 : Addr} {od7 an7 : Option Addr} {sl7 : Array (Option Value)} {oc7 kV7 dc7 pm7 cd7 ct7 : Value}
    (a7 : PySem.W.nsIn K mainGlobals "_law_others" = some (some (.ref f7))) (l7 : K.lookup f7 = some ⟨oc7, od7, .func (PySem.W.fnOf "_law_others" "_law_others" (defArgs s_law_others) (defBody s_law_others) (defScope s_law_others) .none kV7 dc7 pm7 an7 cd7 ct7), sl7⟩) (c7 : PySem.W.codeIn K cd7 "_law_others" = true) (k7 : PySem.W.keepIn K (.ref f7) = true)
    {f8 : Addr} {od8 an8 : Option Addr} {sl8 : Array (Option Value)} {oc8 kV8 dc8 pm8 cd8 ct8 : Value}
    (a8 : PySem.W.nsIn K mainGlobals "is_whole_from" = some (some (.ref f8))) (l8 : K.lookup f8 = some ⟨oc8, od8, .func (PySem.W.fnOf "is_whole_from" "is_whole_from" (defArgs s_is_whole_from) (defBody s_is_whole_from) (defScope s_is_whole_from) .none kV8 dc8 pm8 an8 cd8 ct8), sl8⟩) (c8 : PySem.W.codeIn K cd8 "is_whole_from" = true) (k8 : PySem.W.keepIn K (.ref f8) = true)
    {f9 : Addr} {od9 an9 : Option Addr} {sl9 : Array (Option Value)} {oc9 kV9 dc9 pm9 cd9 ct9 : Value}
    (a9 : PySem.W.nsIn K mainGlobals "is_weights" = some (some (.ref f9))) (l9 : K.lookup f9 = some ⟨oc9, od9, .func (PySem.W.fnOf "is_weights" "is_weights" (defArgs s_is_weights) (defBody s_is_weights) (defScope s_is_weights) .none kV9 dc9 pm9 an9 cd9 ct9), sl9⟩) (c9 : PySem.W.codeIn K cd9 "is_weights" = true) (k9 : PySem.W.keepIn K (.ref f9) = true)
    {f10 : Addr} {od10 an10 : Option Addr} {sl10 : Array (Option Value)} {oc10 kV10 dc10 pm10 cd10 ct10 : Value}
    (a10 : PySem.W.nsIn K mainGlobals "form_weighed" = some (some (.ref f10))) (l10 : K.lookup f10 = some ⟨oc10, od10, .func (PySem.W.fnOf "form_weighed" "form_weighed" (defArgs s_form_weighed) (defBody s_form_weighed) (defScope s_form_weighed) .none kV10 dc10 pm10 an10 cd10 ct10), sl10⟩) (c10 : PySem.W.codeIn K cd10 "form_weighed" = true) (k10 : PySem.W.keepIn K (.ref f10) = true)
    {f11 : Addr} {od11 an11 : Option Addr} {sl11 : Array (Option Value)} {oc11 kV11 dc11 pm11 cd11 ct11 : Value}
    (a11 : PySem.W.nsIn K mainGlobals "shuts" = some (some (.ref f11))) (l11 : K.lookup f11 = some ⟨oc11, od11, .func (PySem.W.fnOf "shuts" "shuts" (defArgs s_shuts) (defBody s_shuts) (defScope s_shuts) .none kV11 dc11 pm11 an11 cd11 ct11), sl11⟩) (c11 : PySem.W.codeIn K cd11 "shuts" = true) (k11 : PySem.W.keepIn K (.ref f11) = true)
    {f12 : Addr} {od12 an12 : Option Addr} {sl12 : Array (Option Value)} {oc12 kV12 dc12 pm12 cd12 ct12 : Value}
    (a12 : PySem.W.nsIn K mainGlobals "_law_is_weights" = some (some (.ref f12))) (l12 : K.lookup f12 = some ⟨oc12, od12, .func (PySem.W.fnOf "_law_is_weights" "_law_is_weights" (defArgs s_law_is_weights) (defBody s_law_is_weights) (defScope s_law_is_weights) .none kV12 dc12 pm12 an12 cd12 ct12), sl12⟩) (c12 : PySem.W.codeIn K cd12 "_law_is_weights" = true) (k12 : PySem.W.keepIn K (.ref f12) = true)
    {f13 : Addr} {od13 an13 : Option Addr} {sl13 : Array (Option Value)} {oc13 kV13 dc13 pm13 cd13 ct13 : Value}
    (a13 : PySem.W.nsIn K mainGlobals "_law_shut" = some (some (.ref f13))) (l13 : K.lookup f13 = some ⟨oc13, od13, .func (PySem.W.fnOf "_law_shut" "_law_shut" (defArgs s_law_shut) (defBody s_law_shut) (defScope s_law_shut) .none kV13 dc13 pm13 an13 cd13 ct13), sl13⟩) (c13 : PySem.W.codeIn K cd13 "_law_shut" = true) (k13 : PySem.W.keepIn K (.ref f13) = true)
    {f14 : Addr} {od14 an14 : Option Addr} {sl14 : Array (Option Value)} {oc14 kV14 dc14 pm14 cd14 ct14 : Value}
    (a14 : PySem.W.nsIn K mainGlobals "law" = some (some (.ref f14))) (l14 : K.lookup f14 = some ⟨oc14, od14, .func (PySem.W.fnOf "law" "law" (defArgs s_law) (defBody s_law) (defScope s_law) .none kV14 dc14 pm14 an14 cd14 ct14), sl14⟩) (c14 : PySem.W.codeIn K cd14 "law" = true) (k14 : PySem.W.keepIn K (.ref f14) = true)
    (z1 : PySem.W.nsIn K mainGlobals "all" = some none)
    (z2 : PySem.W.nsIn K mainGlobals "bool" = some none)
    (z3 : PySem.W.nsIn K mainGlobals "int" = some none)
    (z4 : PySem.W.nsIn K mainGlobals "isinstance" = some none)
    (z5 : PySem.W.nsIn K mainGlobals "len" = some none)
    (z6 : PySem.W.nsIn K mainGlobals "list" = some none)
    (z7 : PySem.W.nsIn K mainGlobals "range" = some none)
    (z8 : PySem.W.nsIn K mainGlobals "repr" = some none)
    (z9 : PySem.W.nsIn K mainGlobals "str" = some none)
    (z10 : PySem.W.nsIn K mainGlobals "sum" = some none)
    (z11 : PySem.W.nsIn K mainGlobals "tuple" = some none)
    (z12 : PySem.W.nsIn K mainGlobals "zip" = some none)
    : ∃ fd : FuncData, (∀ (s : Shared) (v : Value), BindsTo s fd ⟨[v], []⟩ [("_law_script", v)]) ∧ ∀ base : Heap, K.In base → base.Ns mainGlobals mg → FG PySem.Challenge.rw_dropsums_k27_what_shuts.prog w K mg base 10 fa fd ["_law_script"] lawD := by
  have e := hfa.symm.trans (PySem.W.mg_of X G a14)
  cases e
  have F1 := fun_mk (st := s_law_tape) l1 c1 k1
  have D1 : DefAt K mg "_law_tape" s_law_tape ["_law_script"] := ⟨_, _, F1, F1.binds fun _ _ _ _ _ _ us hl => match us, hl with | [_], _ => rfl, PySem.W.mg_of X G a1⟩
  have F2 := fun_mk (st := s_law_draw) l2 c2 k2
  have D2 : DefAt K mg "_law_draw" s_law_draw ["_law_tape_here", "_law_many"] := ⟨_, _, F2, F2.binds fun _ _ _ _ _ _ us hl => match us, hl with | [_, _], _ => rfl, PySem.W.mg_of X G a2⟩
  have F3 := fun_mk (st := s_law_small_form) l3 c3 k3
  have D3 : DefAt K mg "_law_small_form" s_law_small_form ["_law_tape_here", "_law_inputs", "_law_sorts"] := ⟨_, _, F3, F3.binds fun _ _ _ _ _ _ us hl => match us, hl with | [_, _, _], _ => rfl, PySem.W.mg_of X G a3⟩
  have F4 := fun_mk (st := s_law_closed) l4 c4 k4
  have D4 : DefAt K mg "_law_closed" s_law_closed ["_law_tape_here", "_law_forms"] := ⟨_, _, F4, F4.binds fun _ _ _ _ _ _ us hl => match us, hl with | [_, _], _ => rfl, PySem.W.mg_of X G a4⟩
  have F5 := fun_mk (st := s_law_odd) l5 c5 k5
  have D5 : DefAt K mg "_law_odd" s_law_odd ["_law_tape_here"] := ⟨_, _, F5, F5.binds fun _ _ _ _ _ _ us hl => match us, hl with | [_], _ => rfl, PySem.W.mg_of X G a5⟩
  have F6 := fun_mk (st := s_law_bent) l6 c6 k6
  have D6 : DefAt K mg "_law_bent" s_law_bent ["_law_tape_here", "_law_thing"] := ⟨_, _, F6, F6.binds fun _ _ _ _ _ _ us hl => match us, hl with | [_, _], _ => rfl, PySem.W.mg_of X G a6⟩
  have F7 := fun_mk (st := s_law_others) l7 c7 k7
  have D7 : DefAt K mg "_law_others" s_law_others ["_law_tape_here", "_law_weights", "_law_many"] := ⟨_, _, F7, F7.binds fun _ _ _ _ _ _ us hl => match us, hl with | [_, _, _], _ => rfl, PySem.W.mg_of X G a7⟩
  have F8 := fun_mk (st := s_is_whole_from) l8 c8 k8
  have D8 : DefAt K mg "is_whole_from" s_is_whole_from ["thing", "least"] := ⟨_, _, F8, F8.binds fun _ _ _ _ _ _ us hl => match us, hl with | [_, _], _ => rfl, PySem.W.mg_of X G a8⟩
  have F9 := fun_mk (st := s_is_weights) l9 c9 k9
  have D9 : DefAt K mg "is_weights" s_is_weights ["thing"] := ⟨_, _, F9, F9.binds fun _ _ _ _ _ _ us hl => match us, hl with | [_], _ => rfl, PySem.W.mg_of X G a9⟩
  have F10 := fun_mk (st := s_form_weighed) l10 c10 k10
  have D10 : DefAt K mg "form_weighed" s_form_weighed ["forms", "weights"] := ⟨_, _, F10, F10.binds fun _ _ _ _ _ _ us hl => match us, hl with | [_, _], _ => rfl, PySem.W.mg_of X G a10⟩
  have F11 := fun_mk (st := s_shuts) l11 c11 k11
  have D11 : DefAt K mg "shuts" s_shuts ["forms", "thing"] := ⟨_, _, F11, F11.binds fun _ _ _ _ _ _ us hl => match us, hl with | [_, _], _ => rfl, PySem.W.mg_of X G a11⟩
  have F12 := fun_mk (st := s_law_is_weights) l12 c12 k12
  have D12 : DefAt K mg "_law_is_weights" s_law_is_weights ["_law_thing", "_law_many"] := ⟨_, _, F12, F12.binds fun _ _ _ _ _ _ us hl => match us, hl with | [_, _], _ => rfl, PySem.W.mg_of X G a12⟩
  have F13 := fun_mk (st := s_law_shut) l13 c13 k13
  have D13 : DefAt K mg "_law_shut" s_law_shut ["_law_forms", "_law_thing"] := ⟨_, _, F13, F13.binds fun _ _ _ _ _ _ us hl => match us, hl with | [_, _], _ => rfl, PySem.W.mg_of X G a13⟩
  have F14 := fun_mk (st := s_law) l14 c14 k14
  have D14 : DefAt K mg "law" s_law ["_law_script"] := ⟨_, _, F14, F14.binds fun _ _ _ _ _ _ us hl => match us, hl with | [_], _ => rfl, PySem.W.mg_of X G a14⟩
  have Z : BI mg bins := by
    intro x hx
    simp only [bins, List.mem_cons, List.not_mem_nil, or_false] at hx
    rcases hx with rfl | rfl | rfl | rfl | rfl | rfl | rfl | rfl | rfl | rfl | rfl | rfl
    · exact PySem.W.mg_none_of X G z1
    · exact PySem.W.mg_none_of X G z2
    · exact PySem.W.mg_none_of X G z3
    · exact PySem.W.mg_none_of X G z4
    · exact PySem.W.mg_none_of X G z5
    · exact PySem.W.mg_none_of X G z6
    · exact PySem.W.mg_none_of X G z7
    · exact PySem.W.mg_none_of X G z8
    · exact PySem.W.mg_none_of X G z9
    · exact PySem.W.mg_none_of X G z10
    · exact PySem.W.mg_none_of X G z11
    · exact PySem.W.mg_none_of X G z12
  refine ⟨PySem.W.fnOf "law" "law" (defArgs s_law) (defBody s_law) (defScope s_law) .none kV14 dc14 pm14 an14 cd14 ct14, fun s v => .of_eq rfl, fun base _ _ => ?_⟩
  have h_law_tape := f_law_tape (P := PySem.Challenge.rw_dropsums_k27_what_shuts.prog) (w := w) (base := base) Z   D1
  have h_law_draw := f_law_draw (P := PySem.Challenge.rw_dropsums_k27_what_shuts.prog) (w := w) (base := base) Z   D2
  have h_law_small_form := f_law_small_form (P := PySem.Challenge.rw_dropsums_k27_what_shuts.prog) (w := w) (base := base) Z h_law_draw  D3
  have h_law_closed := f_law_closed (P := PySem.Challenge.rw_dropsums_k27_what_shuts.prog) (w := w) (base := base) Z h_law_draw  D4
  have h_law_odd := f_law_odd (P := PySem.Challenge.rw_dropsums_k27_what_shuts.prog) (w := w) (base := base) Z h_law_draw  D5
  have h_law_bent := f_law_bent (P := PySem.Challenge.rw_dropsums_k27_what_shuts.prog) (w := w) (base := base) Z h_law_draw h_law_odd  D6
  have h_law_others := f_law_others (P := PySem.Challenge.rw_dropsums_k27_what_shuts.prog) (w := w) (base := base) Z h_law_odd h_law_bent  D7
  have h_is_whole_from := f_is_whole_from (P := PySem.Challenge.rw_dropsums_k27_what_shuts.prog) (w := w) (base := base) Z   D8
  have h_is_weights := f_is_weights (P := PySem.Challenge.rw_dropsums_k27_what_shuts.prog) (w := w) (base := base) Z h_is_whole_from  D9
  have h_form_weighed := f_form_weighed (P := PySem.Challenge.rw_dropsums_k27_what_shuts.prog) (w := w) (base := base) Z   D10
  have h_shuts := f_shuts (P := PySem.Challenge.rw_dropsums_k27_what_shuts.prog) (w := w) (base := base) Z h_is_weights h_form_weighed  D11
  have h_law_is_weights := f_law_is_weights (P := PySem.Challenge.rw_dropsums_k27_what_shuts.prog) (w := w) (base := base) Z   D12
  have h_law_shut := f_law_shut (P := PySem.Challenge.rw_dropsums_k27_what_shuts.prog) (w := w) (base := base) Z h_law_is_weights  D13
  exact law_fg Z h_law_tape h_law_draw h_law_small_form h_law_closed h_law_others h_shuts h_law_shut  F14
end DL
open PySem PySem.W PyProof.Rows
set_option maxRecDepth 100000 in
set_option maxHeartbeats 0 in
theorem PySem.Challenge.cw_dropsums_k27_what_shuts_holds : PySem.Challenge.rw_dropsums_k27_what_shuts.Holds := by
  w_on; o_law; k_head; (case hw => w_witness2)
  k_fill
  refine DL.law_walk (l := PySem.Challenge.rw_dropsums_k27_what_shuts) (k := 10) (x := "_law_script") rfl rfl ⟨rfl, by decide, by decide⟩ (fun w h Y => PySem.W.kIn_of Y) ?F
  case F =>
    intro w mg fa h KX G hmg
    refine' DL.all_mk KX G hmg ?a1 ?l1 ?c1 ?k1 ?a2 ?l2 ?c2 ?k2 ?a3 ?l3 ?c3 ?k3 ?a4 ?l4 ?c4 ?k4 ?a5 ?l5 ?c5 ?k5 ?a6 ?l6 ?c6 ?k6 ?a7 ?l7 ?c7 ?k7 ?a8 ?l8 ?c8 ?k8 ?a9 ?l9 ?c9 ?k9 ?a10 ?l10 ?c10 ?k10 ?a11 ?l11 ?c11 ?k11 ?a12 ?l12 ?c12 ?k12 ?a13 ?l13 ?c13 ?k13 ?a14 ?l14 ?c14 ?k14 ?z1 ?z2 ?z3 ?z4 ?z5 ?z6 ?z7 ?z8 ?z9 ?z10 ?z11 ?z12
    (case a1 => k_is)
    (case l1 => k_is)
    (case c1 => k_is)
    (case k1 => k_is)
    (case a2 => k_is)
    (case l2 => k_is)
    (case c2 => k_is)
    (case k2 => k_is)
    (case a3 => k_is)
    (case l3 => k_is)
    (case c3 => k_is)
    (case k3 => k_is)
    (case a4 => k_is)
    (case l4 => k_is)
    (case c4 => k_is)
    (case k4 => k_is)
    (case a5 => k_is)
    (case l5 => k_is)
    (case c5 => k_is)
    (case k5 => k_is)
    (case a6 => k_is)
    (case l6 => k_is)
    (case c6 => k_is)
    (case k6 => k_is)
    (case a7 => k_is)
    (case l7 => k_is)
    (case c7 => k_is)
    (case k7 => k_is)
    (case a8 => k_is)
    (case l8 => k_is)
    (case c8 => k_is)
    (case k8 => k_is)
    (case a9 => k_is)
    (case l9 => k_is)
    (case c9 => k_is)
    (case k9 => k_is)
    (case a10 => k_is)
    (case l10 => k_is)
    (case c10 => k_is)
    (case k10 => k_is)
    (case a11 => k_is)
    (case l11 => k_is)
    (case c11 => k_is)
    (case k11 => k_is)
    (case a12 => k_is)
    (case l12 => k_is)
    (case c12 => k_is)
    (case k12 => k_is)
    (case a13 => k_is)
    (case l13 => k_is)
    (case c13 => k_is)
    (case k13 => k_is)
    (case a14 => k_is)
    (case l14 => k_is)
    (case c14 => k_is)
    (case k14 => k_is)
    (case z1 => k_is)
    (case z2 => k_is)
    (case z3 => k_is)
    (case z4 => k_is)
    (case z5 => k_is)
    (case z6 => k_is)
    (case z7 => k_is)
    (case z8 => k_is)
    (case z9 => k_is)
    (case z10 => k_is)
    (case z11 => k_is)
    (case z12 => k_is)

