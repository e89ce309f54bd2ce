import PyProof.Rows.All
import Wide.All
import OpenK.AllK
import Wide.FinOn
import HandS.ForMost
import HandS.ForExc
import HandS.Deep
import HandS.IsInst
import HandS.Zip
import HandS.More
import HandS.RaiseMore
import HandS.Wide
import HandS.Ends
import HandS.Words
import HandS.WordsExc
import HandS.ExcCtx
import KE.GoesEnum
import HandS.TupAny
import HandS.TupMul
import HandS.Conv
import PyProof.ReprBulk
import KE.GoesNew
import KE.GoesMore
import HandS.Dict
import HandS.Small
import HandS.WordsDict
import KE.SortData
import HandS.Style
import PyProof.NeData
import HandS.TupLe
import HandS.SetFor
import HandS.ExcInit
import HandS.ExcField
import HandS.ClsMeth
import HandS.ExcIs
import HandS.HotCalls
import KE.KDictDisplayH
import HandS.NoneIn
import KE.KDictKeyed
import HandS.Text
import PyProof.StrBlock2
import PyProof.FitsInt
import KE.IntTextLaws
import HandS.Iter
import HandS.SortKw
import KE.KMinKey
import HandS.Strs
import PySem.Challenge.RW_dropsums_k01_names_and_pots
set_option Elab.async false
set_option linter.all false
set_option maxRecDepth 100000
set_option maxHeartbeats 4000000
set_option exponentiation.threshold 200000
/-! The data level: values without addresses for what never changes, a small heap for what does. -/
namespace L2
open PySem PySem.Spec
/-- an error that was caught, known by its class and its dict -/
def excO (a C d : Addr) : HO := .ext fun h => ∃ ob : Obj, h.get? a = some ob ∧ Zc (.ref C) (some d) ob ∧ ∃ fl, ob.data = .fields fl
end L2
namespace DL
open PySem PySem.Spec L2

/-- a value: tuples by what they hold, lists by their address; ro: a list that nobody changes; kt: a tuple of the module's own -/
inductive DV where
  | non | bl (b : Bool) | int (i : Int) | str (s : Str) | tup (l : List DV) | ref (a : Addr) | ro (l : List DV) | ty (n : String) | exc (a d C : Addr) (ks : List Str) (l : List DV) | kt (l : List DV)
deriving Inhabited
/-- what may change -/
inductive Cell where
  | lst (l : List DV)
  | dic (l : List (Key × DV))
  | ins (C : Addr) (fs : List (Str × DV))
  | dt (l : List (List Key × DV))
  | fz (o : Obj) (xs : List (Key × V)) (l : List (Key × DV))
  | fzt (o : Obj) (xs : List (List Key × V)) (l : List (List Key × DV))
abbrev Gh := Addr → Option Cell
def gup (G : Gh) (a : Addr) (c : Cell) : Gh := fun b => if b = a then some c else G b
theorem gup_same {G : Gh} {a : Addr} {c : Cell} : gup G a c a = some c := by simp [gup]
theorem gup_ne {G : Gh} {a b : Addr} {c : Cell} (h : b ≠ a) : gup G a c b = G b := by simp [gup, h]
theorem gup_gup {G : Gh} {a : Addr} {c d : Cell} : gup (gup G a c) a d = gup G a d := by
  funext b; simp only [gup]; split <;> rfl
theorem ne_gone {G : Gh} {a b : Addr} {c : Cell} (h : G a = some c) (h' : G b = none) : a ≠ b := by
  rintro rfl; rw [h] at h'; cases h'

/-- a list that is known to the object, or one of the module's own -/
def RoL (K : PySem.W.Frag) (H : Hp) (a : Addr) (xs : List V) : Prop := (∃ o, H a = some (.frz o (.lst xs))) ∨ SqL K (fun _ => none) a xs
theorem RoL.sq {K : PySem.W.Frag} {H : Hp} {a : Addr} {xs : List V} (h : RoL K H a xs) : SqL K H a xs := by
  rcases h with h | h
  · exact .inl (.inr h)
  · rcases h with h | h
    · rcases h with h | ⟨o, h⟩ <;> cases h
    · exact .inr h
/-- a tuple that is known to the object, or one of the module's own -/
def KtL (K : PySem.W.Frag) (H : Hp) (a : Addr) (xs : List V) : Prop := (∃ o, H a = some (.frz o (.tup xs)) ∧ o.cls = .type "tuple" ∧ o.dict = none) ∨ (SqT K (fun _ => none) a xs ∧ ∃ o, K.lookup a = some o ∧ o.cls = .type "tuple" ∧ o.dict = none)
theorem KtL.sq {K : PySem.W.Frag} {H : Hp} {a : Addr} {xs : List V} (h : KtL K H a xs) : SqT K H a xs := by
  rcases h with ⟨o, h, _⟩ | ⟨h, _⟩
  · exact .inl (.inr ⟨o, h⟩)
  · rcases h with h | h
    · rcases h with h | ⟨o, h⟩ <;> cases h
    · exact .inr h
mutual
inductive VR (K : PySem.W.Frag) (H : Hp) : V → DV → Prop
  | non : VR K H .non .non
  | bl (b : Bool) : VR K H (.bl b) (.bl b)
  | int (i : Int) : VR K H (.int i) (.int i)
  | str (x : Str) : VR K H (.str x) (.str x)
  | ty (n : String) : VR K H (.ty n) (.ty n)
  | ref (a : Addr) : VR K H (.ref a) (.ref a)
  | tup {a : Addr} {xs : List V} {ds : List DV} : H a = some (.tup xs) → VRs K H xs ds → VR K H (.ref a) (.tup ds)
  | kt {a : Addr} {xs : List V} {ds : List DV} : KtL K H a xs → VRs K H xs ds → VR K H (.ref a) (.kt ds)
  | ro {a : Addr} {xs : List V} {ds : List DV} : RoL K H a xs → VRs K H xs ds → VR K H (.ref a) (.ro ds)
  | exc {a d C : Addr} {ks : List Str} {xs : List V} {ds : List DV} : H a = some (excO a C d) → H d = some (.xd (ks.zip xs)) → VRs K H xs ds → VR K H (.ref a) (.exc a d C ks ds)
inductive VRs (K : PySem.W.Frag) (H : Hp) : List V → List DV → Prop
  | nil : VRs K H [] []
  | cons {v : V} {vs : List V} {d : DV} {ds : List DV} : VR K H v d → VRs K H vs ds → VRs K H (v :: vs) (d :: ds)
end

section
variable {K : PySem.W.Frag} {H H' : Hp} {G G' : Gh} {v : V} {vs ws : List V} {d : DV} {ds es : List DV}
theorem VRs.len : ∀ {vs : List V} {ds : List DV}, VRs K H vs ds → vs.length = ds.length
  | _, _, .nil => rfl
  | _, _, .cons _ t => by simp [t.len]
theorem VRs.get : ∀ {vs : List V} {ds : List DV} {i : Nat} {d : DV}, VRs K H vs ds → ds[i]? = some d → ∃ v, vs[i]? = some v ∧ VR K H v d
  | _, _, _, _, .nil, e => by simp at e
  | _, _, 0, _, .cons r _, e => by simp at e; subst e; exact ⟨_, rfl, r⟩
  | _, _, i + 1, d, .cons _ t, e => by
    obtain ⟨v, h1, h2⟩ := t.get (i := i) (d := d) (by simpa using e)
    exact ⟨v, by simpa using h1, h2⟩
theorem VRs.getV : ∀ {vs : List V} {ds : List DV} {i : Nat} {v : V}, VRs K H vs ds → vs[i]? = some v → ∃ d, ds[i]? = some d ∧ VR K H v d
  | _, _, _, _, .nil, e => by simp at e
  | _, _, 0, _, .cons r _, e => by simp at e; subst e; exact ⟨_, rfl, r⟩
  | _, _, i + 1, v, .cons _ t, e => by
    obtain ⟨d, h1, h2⟩ := t.getV (i := i) (v := v) (by simpa using e)
    exact ⟨d, by simpa using h1, h2⟩
theorem VRs.app : ∀ {vs ws : List V} {ds es : List DV}, VRs K H vs ds → VRs K H ws es → VRs K H (vs ++ ws) (ds ++ es)
  | _, _, _, _, .nil, s => s
  | _, _, _, _, .cons r t, s => .cons r (t.app s)
theorem VRs.one (h : VR K H v d) : VRs K H [v] [d] := .cons h .nil
theorem VRs.set (r : VR K H v d) : ∀ {vs : List V} {ds : List DV} (i : Nat), VRs K H vs ds → VRs K H (vs.set i v) (ds.set i d)
  | _, _, _, .nil => .nil
  | _, _, 0, .cons _ t => .cons r t
  | _, _, i + 1, .cons q t => .cons q (t.set r i)
theorem VRs.take : ∀ {vs : List V} {ds : List DV} (n : Nat), VRs K H vs ds → VRs K H (vs.take n) (ds.take n)
  | _, _, 0, _ => .nil
  | _, _, _ + 1, .nil => .nil
  | _, _, n + 1, .cons r t => .cons r (t.take n)
theorem VRs.drop : ∀ {vs : List V} {ds : List DV} (n : Nat), VRs K H vs ds → VRs K H (vs.drop n) (ds.drop n)
  | _, _, 0, r => r
  | _, _, _ + 1, .nil => .nil
  | _, _, n + 1, .cons _ t => t.drop n
theorem VRs.rev : ∀ {vs : List V} {ds : List DV}, VRs K H vs ds → VRs K H vs.reverse ds.reverse
  | _, _, .nil => .nil
  | _, _, .cons r t => by
    rw [List.reverse_cons, List.reverse_cons]
    exact t.rev.app (.cons r .nil)
theorem VRs.eraseIdx : ∀ {vs : List V} {ds : List DV} (n : Nat), VRs K H vs ds → VRs K H (vs.eraseIdx n) (ds.eraseIdx n)
  | _, _, _, .nil => .nil
  | _, _, 0, .cons _ t => t
  | _, _, n + 1, .cons r t => .cons r (t.eraseIdx n)
theorem VRs.dropLast {vs : List V} {ds : List DV} (h : VRs K H vs ds) : VRs K H vs.dropLast ds.dropLast := by
  rw [List.dropLast_eq_take, List.dropLast_eq_take, h.len]
  exact h.take _
theorem VRs.rep (r : VR K H v d) : ∀ n : Nat, VRs K H (List.replicate n v) (List.replicate n d)
  | 0 => .nil
  | n + 1 => .cons r (VRs.rep r n)
theorem VRs.ints : ∀ ns : List Int, VRs K H (ns.map V.int) (ns.map DV.int)
  | [] => .nil
  | n :: r => .cons (.int n) (VRs.ints r)
theorem VRs.strs : ∀ ns : List Str, VRs K H (ns.map V.str) (ns.map DV.str)
  | [] => .nil
  | n :: r => .cons (.str n) (VRs.strs r)
theorem VRs.bls : ∀ ns : List Bool, VRs K H (ns.map V.bl) (ns.map DV.bl)
  | [] => .nil
  | n :: r => .cons (.bl n) (VRs.bls r)
theorem VRs.ofInts : ∀ {ns : List Int} {vs : List V}, VRs K H vs (ns.map DV.int) → vs = ns.map V.int
  | [], _, .nil => rfl
  | _ :: _, _, .cons r t => by cases r; rw [VRs.ofInts t]; rfl
theorem VRs.ofStrs : ∀ {ns : List Str} {vs : List V}, VRs K H vs (ns.map DV.str) → vs = ns.map V.str
  | [], _, .nil => rfl
  | _ :: _, _, .cons r t => by cases r; rw [VRs.ofStrs t]; rfl
theorem VRs.ofBls : ∀ {ns : List Bool} {vs : List V}, VRs K H vs (ns.map DV.bl) → vs = ns.map V.bl
  | [], _, .nil => rfl
  | _ :: _, _, .cons r t => by cases r; rw [VRs.ofBls t]; rfl

/-- a dict's entries -/
inductive KR (K : PySem.W.Frag) (H : Hp) {κ : Type} : List (κ × V) → List (κ × DV) → Prop
  | nil : KR K H [] []
  | cons {k : κ} {v : V} {d : DV} {xs : List (κ × V)} {ys : List (κ × DV)} : VR K H v d → KR K H xs ys → KR K H ((k, v) :: xs) ((k, d) :: ys)
/-- an object's attributes -/
inductive FR (K : PySem.W.Frag) (H : Hp) : List (Str × V) → List (Str × DV) → Prop
  | nil : FR K H [] []
  | cons {k : Str} {v : V} {d : DV} {xs : List (Str × V)} {ys : List (Str × DV)} : VR K H v d → FR K H xs ys → FR K H ((k, v) :: xs) ((k, d) :: ys)

/-- a cell stands in the tracked heap -/
def CellOk (K : PySem.W.Frag) (H : Hp) (a : Addr) : Cell → Prop
  | .lst l => ∃ xs, H a = some (.lst xs) ∧ VRs K H xs l
  | .dic l => ∃ xs, H a = some (.dK xs) ∧ KR K H xs l
  | .dt l => ∃ xs, H a = some (.dT xs) ∧ KR K H xs l
  | .ins C fs => ∃ dx xs, H a = some (.ins C dx xs) ∧ H dx = some (.own a) ∧ FR K H xs fs
  | .fz o xs l => H a = some (.frz o (.dK xs)) ∧ KR K H xs l
  | .fzt o xs l => H a = some (.frz o (.dT xs)) ∧ KR K H xs l
def WG (K : PySem.W.Frag) (G : Gh) (H : Hp) : Prop := ∀ a c, G a = some c → CellOk K H a c
/-- what is tracked and no cell stays as it is, and becomes none -/
def Ext (G : Gh) (H : Hp) (G' : Gh) (H' : Hp) : Prop := ∀ a o, H a = some o → G a = none → H' a = some o ∧ G' a = none
theorem Ext.refl : Ext G H G H := fun _ _ e n => ⟨e, n⟩
theorem Ext.trans {G1 G2 G3 : Gh} {H1 H2 H3 : Hp} (x : Ext G1 H1 G2 H2) (y : Ext G2 H2 G3 H3) : Ext G1 H1 G3 H3 := fun a o e n => by
  obtain ⟨e2, n2⟩ := x a o e n
  exact y a o e2 n2
theorem WG.notTup (w : WG K G H) {a : Addr} {xs : List V} (e : H a = some (.tup xs)) : G a = none := by
  cases q : G a with
  | none => rfl
  | some c =>
    have z := w a c q
    cases c <;> (simp only [CellOk] at z; obtain ⟨_, z⟩ := z; simp_all)
theorem WG.notFrz (w : WG K G H) {a : Addr} {o : Obj} {u : HO} (e : H a = some (.frz o u)) (hu : ∀ xs, u ≠ .dK xs) (hv : ∀ xs, u ≠ .dT xs) : G a = none := by
  cases q : G a with
  | none => rfl
  | some c =>
    have z := w a c q
    cases c with
    | fz o2 xs l =>
      have z1 : H a = some (.frz o2 (.dK xs)) := z.1
      rw [e] at z1
      injection z1 with z2
      injection z2 with _ z3
      exact absurd z3 (hu xs)
    | fzt o2 xs l =>
      have z1 : H a = some (.frz o2 (.dT xs)) := z.1
      rw [e] at z1
      injection z1 with z2
      injection z2 with _ z3
      exact absurd z3 (hv xs)
    | _ => simp only [CellOk] at z; obtain ⟨_, z⟩ := z; simp_all
theorem WG.notOwn (w : WG K G H) {a x : Addr} (e : H a = some (.own x)) : G a = none := by
  cases q : G a with
  | none => rfl
  | some c =>
    have z := w a c q
    cases c <;> (simp only [CellOk] at z; obtain ⟨_, z⟩ := z; simp_all)
theorem WG.notXd (w : WG K G H) {a : Addr} {x : List (Str × V)} (e : H a = some (.xd x)) : G a = none := by
  cases q : G a with
  | none => rfl
  | some c =>
    have z := w a c q
    cases c <;> (simp only [CellOk] at z; obtain ⟨_, z⟩ := z; simp_all)
theorem WG.notExt (w : WG K G H) {a : Addr} {C d : Addr} (e : H a = some (excO a C d)) : G a = none := by
  unfold excO at e
  cases q : G a with
  | none => rfl
  | some c =>
    have z := w a c q
    cases c <;> (simp only [CellOk] at z; obtain ⟨_, z⟩ := z; simp_all)
theorem sqT_ext {a : Addr} {xs : List V} (h : SqT K H a xs) (w : WG K G H) (x : Ext G H G' H') : SqT K H' a xs := by
  rcases h with h | h
  · rcases h with h | ⟨o, h⟩
    · exact .inl (.inl (x a _ h (w.notTup h)).1)
    · exact .inl (.inr ⟨o, (x a _ h (w.notFrz h (fun _ z => nomatch z) fun _ z => nomatch z)).1⟩)
  · exact .inr h
theorem KtL.ext {a : Addr} {xs : List V} (h : KtL K H a xs) (w : WG K G H) (x : Ext G H G' H') : KtL K H' a xs := by
  rcases h with ⟨o, h, r⟩ | h
  · exact .inl ⟨o, (x a _ h (w.notFrz h (fun _ z => nomatch z) fun _ z => nomatch z)).1, r⟩
  · exact .inr h
theorem RoL.ext {a : Addr} {xs : List V} (h : RoL K H a xs) (w : WG K G H) (x : Ext G H G' H') : RoL K H' a xs := by
  rcases h with ⟨o, h⟩ | h
  · exact .inl ⟨o, (x a _ h (w.notFrz h (fun _ z => nomatch z) fun _ z => nomatch z)).1⟩
  · exact .inr h
mutual
theorem VR.ext (w : WG K G H) (x : Ext G H G' H') : ∀ {v : V} {d : DV}, VR K H v d → VR K H' v d
  | _, _, .non => .non
  | _, _, .bl b => .bl b
  | _, _, .int i => .int i
  | _, _, .str i => .str i
  | _, _, .ty i => .ty i
  | _, _, .ref a => .ref a
  | _, _, .tup h t => .tup (x _ _ h (w.notTup h)).1 (VRs.ext w x t)
  | _, _, .kt h t => .kt (h.ext w x) (VRs.ext w x t)
  | _, _, .ro h t => .ro (h.ext w x) (VRs.ext w x t)
  | _, _, .exc ho h t => .exc (x _ _ ho (w.notExt ho)).1 (x _ _ h (w.notXd h)).1 (VRs.ext w x t)
theorem VRs.ext (w : WG K G H) (x : Ext G H G' H') : ∀ {vs : List V} {ds : List DV}, VRs K H vs ds → VRs K H' vs ds
  | _, _, .nil => .nil
  | _, _, .cons r t => .cons (r.ext w x) (VRs.ext w x t)
end
theorem KR.ext {κ : Type} (w : WG K G H) (x : Ext G H G' H') : ∀ {xs : List (κ × V)} {ys : List (κ × DV)}, KR K H xs ys → KR K H' xs ys
  | _, _, .nil => .nil
  | _, _, .cons r t => .cons (r.ext w x) (KR.ext w x t)
theorem FR.ext (w : WG K G H) (x : Ext G H G' H') : ∀ {xs : List (Str × V)} {ys : List (Str × DV)}, FR K H xs ys → FR K H' xs ys
  | _, _, .nil => .nil
  | _, _, .cons r t => .cons (r.ext w x) (FR.ext w x t)
/-- a place that may be written: new, or a cell's -/
def Put (G : Gh) (H : Hp) (a : Addr) : Prop := H a = none ∨ ∃ c, G a = some c
theorem WG.non (w : WG K G H) {a : Addr} (e : H a = none) : G a = none := by
  cases q : G a with
  | none => rfl
  | some c =>
    have z := w a c q
    cases c <;> (simp only [CellOk] at z; obtain ⟨_, z⟩ := z; simp_all)
theorem Put.ext (p : Put G H a) {c : Cell} {o : HO} : Ext G H (gup G a c) (upd H a o) := fun b u e n => by
  have hb : b ≠ a := by
    rintro rfl
    rcases p with p | ⟨c, p⟩
    · rw [e] at p; cases p
    · rw [n] at p; cases p
  exact ⟨by rw [upd_ne hb]; exact e, by rw [gup_ne hb]; exact n⟩
theorem Put.notOwn (w : WG K G H) (p : Put G H a) {b x : Addr} (e : H b = some (.own x)) : b ≠ a := by
  rintro rfl
  rcases p with p | ⟨c, p⟩
  · rw [e] at p; cases p
  · rw [w.notOwn e] at p; cases p
theorem CellOk.move (w : WG K G H) (x : Ext G H G' H') {b : Addr} {c : Cell} (h : CellOk K H b c) (hb : H' b = H b) (ho : ∀ d y, H d = some (.own y) → H' d = H d) : CellOk K H' b c := by
  cases c with
  | lst l => obtain ⟨xs, e, r⟩ := h; exact ⟨xs, hb.trans e, r.ext w x⟩
  | dic l => obtain ⟨xs, e, r⟩ := h; exact ⟨xs, hb.trans e, r.ext w x⟩
  | dt l => obtain ⟨xs, e, r⟩ := h; exact ⟨xs, hb.trans e, r.ext w x⟩
  | ins C fs => obtain ⟨dx, xs, e, o, r⟩ := h; exact ⟨dx, xs, hb.trans e, (ho _ _ o).trans o, r.ext w x⟩
  | fz o xs l => exact ⟨hb.trans h.1, h.2.ext w x⟩
  | fzt o xs l => exact ⟨hb.trans h.1, h.2.ext w x⟩
theorem WG.put (w : WG K G H) (p : Put G H a) {c : Cell} {o : HO} (new : CellOk K (upd H a o) a c) : WG K (gup G a c) (upd H a o) := fun b c' e => by
  by_cases hb : b = a
  · subst hb
    rw [gup_same] at e; cases e; exact new
  · rw [gup_ne hb] at e
    exact (w b c' e).move w (p.ext (c := c)) (upd_ne hb) fun d y q => upd_ne (p.notOwn w q)
theorem Ext.new {p : Addr} (n : H p = none) {o : HO} : Ext G H G (upd H p o) := fun b u e g => by
  have hb : b ≠ p := by rintro rfl; rw [e] at n; cases n
  exact ⟨by rw [upd_ne hb]; exact e, g⟩
theorem WG.new (w : WG K G H) {p : Addr} (n : H p = none) {o : HO} : WG K G (upd H p o) := fun b c' e => by
  have hb : b ≠ p := by rintro rfl; rw [w.non n] at e; cases e
  exact (w b c' e).move w (Ext.new n) (upd_ne hb) fun d y q => upd_ne (by rintro rfl; rw [q] at n; cases n)
theorem WG.newL (w : WG K G H) {p : Addr} (n : H p = none) {xs : List V} {ds : List DV} (r : VRs K H xs ds) : WG K (gup G p (.lst ds)) (upd H p (.lst xs)) :=
  w.put (.inl n) ⟨xs, upd_same, r.ext w (Ext.new n)⟩
theorem VR.newT (w : WG K G H) {p : Addr} (n : H p = none) {xs : List V} {ds : List DV} (r : VRs K H xs ds) : VR K (upd H p (.tup xs)) (.ref p) (.tup ds) :=
  .tup upd_same (r.ext w (Ext.new n))
theorem WG.setL (w : WG K G H) {p : Addr} {l : List DV} (e : G p = some (.lst l)) {xs : List V} {ds : List DV} (r : VRs K H xs ds) : WG K (gup G p (.lst ds)) (upd H p (.lst xs)) :=
  w.put (.inr ⟨_, e⟩) ⟨xs, upd_same, r.ext w (Put.ext (c := .lst ds) (.inr ⟨_, e⟩))⟩
theorem Ext.setC {p : Addr} {c c' : Cell} (e : G p = some c) {o : HO} : Ext G H (gup G p c') (upd H p o) := Put.ext (.inr ⟨_, e⟩)
theorem Ext.newC {p : Addr} {c' : Cell} (e : H p = none) {o : HO} : Ext G H (gup G p c') (upd H p o) := Put.ext (.inl e)
/-- forgetting cells -/
theorem WG.less (w : WG K G H) (h : ∀ a c, G' a = some c → G a = some c) : WG K G' H := fun a c e => w a c (h a c e)

/-- slots: none forgets -/
inductive ER (K : PySem.W.Frag) (H : Hp) : St → List (Option DV) → Prop
  | nil : ER K H [] []
  | skip (o : Option V) {xs : St} {ys : List (Option DV)} : ER K H xs ys → ER K H (o :: xs) (none :: ys)
  | cons {v : V} {d : DV} {xs : St} {ys : List (Option DV)} : VR K H v d → ER K H xs ys → ER K H (some v :: xs) (some d :: ys)
theorem ER.ext (w : WG K G H) (x : Ext G H G' H') : ∀ {xs : St} {ys : List (Option DV)}, ER K H xs ys → ER K H' xs ys
  | _, _, .nil => .nil
  | _, _, .skip o t => .skip o (ER.ext w x t)
  | _, _, .cons r t => .cons (r.ext w x) (ER.ext w x t)
theorem ER.get : ∀ {xs : St} {ys : List (Option DV)} {i : Nat} {d : DV}, ER K H xs ys → ys[i]? = some (some d) → ∃ v, xs[i]? = some (some v) ∧ VR K H v d
  | _, _, _, _, .nil, e => by simp at e
  | _, _, 0, _, .skip o t, e => by simp at e
  | _, _, i + 1, d, .skip o t, e => by
    obtain ⟨v, h1, h2⟩ := t.get (i := i) (d := d) (by simpa using e)
    exact ⟨v, by simpa using h1, h2⟩
  | _, _, 0, _, .cons r t, e => by simp at e; subst e; exact ⟨_, rfl, r⟩
  | _, _, i + 1, d, .cons r t, e => by
    obtain ⟨v, h1, h2⟩ := t.get (i := i) (d := d) (by simpa using e)
    exact ⟨v, by simpa using h1, h2⟩
theorem ER.set (r : VR K H v d) : ∀ {xs : St} {ys : List (Option DV)} (i : Nat), ER K H xs ys → ER K H (xs.set i (some v)) (ys.set i (some d))
  | _, _, _, .nil => .nil
  | _, _, 0, .skip _ t => .cons r t
  | _, _, i + 1, .skip o t => .skip o (ER.set r i t)
  | _, _, 0, .cons _ t => .cons r t
  | _, _, i + 1, .cons q t => .cons q (ER.set r i t)
theorem ER.setNone : ∀ {xs : St} {ys : List (Option DV)} (i : Nat) (o : Option V), ER K H xs ys → ER K H (xs.set i o) (ys.set i none)
  | _, _, _, _, .nil => .nil
  | _, _, 0, _, .skip _ t => .skip _ t
  | _, _, i + 1, o', .skip o t => .skip o (ER.setNone i o' t)
  | _, _, 0, _, .cons _ t => .skip _ t
  | _, _, i + 1, o', .cons q t => .cons q (ER.setNone i o' t)
def wipeD (ys : List (Option DV)) : List Nat → List (Option DV)
  | [] => ys
  | i :: r => (wipeD ys r).set i none
theorem ER.wipe {xs : St} {ys : List (Option DV)} (h : ER K H xs ys) : ∀ vs : List Nat, ER K H (L2.wipe xs vs) (wipeD ys vs)
  | [] => h
  | i :: r => ER.setNone i none (ER.wipe h r)
theorem ER.start : ∀ {vs : List V} {ds : List DV}, VRs K H vs ds → ∀ n : Nat, ER K H (vs.map some ++ List.replicate n none) (ds.map some ++ List.replicate n none)
  | _, _, .nil, 0 => .nil
  | _, _, .nil, n + 1 => .skip none (ER.start .nil n)
  | _, _, .cons r t, n => .cons r (ER.start t n)
end
end DL

namespace DL
open PySem PySem.Spec L2

/-! ### readings at the data level -/
abbrev Dv := List (Option DV)
/-- what is wanted of an exception: its class, its fields -/
abbrev DX := Addr → List (Str × DV) → Gh → Prop
abbrev DE := DX → Dv → Gh → (DV → Gh → Prop) → Prop
abbrev DT := DX → Dv → Gh → (Bool → Gh → Prop) → Prop
abbrev DA := DX → Dv → Gh → (List DV → Gh → Prop) → Prop
structure DEnds where
  nx : Dv → Gh → Prop
  rt : DV → Gh → Prop
  bk : Dv → Gh → Prop := fun _ _ => False
  ct : Dv → Gh → Prop := fun _ _ => False
  ex : Addr → List (Str × DV) → Dv → Gh → Prop := fun _ _ _ _ => False
abbrev DS := DEnds → Dv → Gh → Prop

/-- an exception's wish is kept -/
def XLe (K : PySem.W.Frag) (G : Gh) (H : Hp) (Y : DX) (W : Value → Option Addr → Hp → Prop) : Prop :=
  ∀ C fs G' d xs H', Y C fs G' → H' d = some (.xd xs) → FR K H' xs fs → WG K G' H' → Ext G H G' H' → W (.ref C) (some d) H'
theorem XLe.step {K : PySem.W.Frag} {G G1 : Gh} {H H1 : Hp} {Y : DX} {W : Value → Option Addr → Hp → Prop} (h : XLe K G H Y W) (x : Ext G H G1 H1) : XLe K G1 H1 Y W :=
  fun C fs G' d xs H' y e f w x' => h C fs G' d xs H' y e f w (x.trans x')

def TEl (K : PySem.W.Frag) (W : WX) (w : DE) : TE := fun σ H Q => ∃ (Y : DX) (env : Dv) (G : Gh) (P : DV → Gh → Prop), ER K H σ env ∧ WG K G H ∧ w Y env G P ∧
  (∀ d G' v H', P d G' → WG K G' H' → Ext G H G' H' → VR K H' v d → Q v H') ∧ XLe K G H Y fun c d => W c d σ
def TTl (K : PySem.W.Frag) (W : WX) (w : DT) : TT := fun σ H Q => ∃ (Y : DX) (env : Dv) (G : Gh) (P : Bool → Gh → Prop), ER K H σ env ∧ WG K G H ∧ w Y env G P ∧
  (∀ b G' H', P b G' → WG K G' H' → Ext G H G' H' → Q b H') ∧ XLe K G H Y fun c d => W c d σ
def TAl (K : PySem.W.Frag) (W : WX) (w : DA) : TA := fun σ H Q => ∃ (Y : DX) (env : Dv) (G : Gh) (P : List DV → Gh → Prop), ER K H σ env ∧ WG K G H ∧ w Y env G P ∧
  (∀ d G' v H', P d G' → WG K G' H' → Ext G H G' H' → VRs K H' v d → Q v H') ∧ XLe K G H Y fun c d => W c d σ
structure LeE (K : PySem.W.Frag) (W : WX) (G : Gh) (H : Hp) (De : DEnds) (D : Ends) : Prop where
  nx : ∀ env G' σ H', De.nx env G' → ER K H' σ env → WG K G' H' → Ext G H G' H' → D.nx σ H'
  bk : ∀ env G' σ H', De.bk env G' → ER K H' σ env → WG K G' H' → Ext G H G' H' → D.bk σ H'
  ct : ∀ env G' σ H', De.ct env G' → ER K H' σ env → WG K G' H' → Ext G H G' H' → D.ct σ H'
  rt : ∀ d G' v H', De.rt d G' → VR K H' v d → WG K G' H' → Ext G H G' H' → D.rt v H'
  ex : ∀ C fs env G' σ d xs H', De.ex C fs env G' → H' d = some (.xd xs) → FR K H' xs fs → ER K H' σ env → WG K G' H' → Ext G H G' H' → W (.ref C) (some d) σ H'
theorem LeE.step {K : PySem.W.Frag} {W : WX} {G G1 : Gh} {H H1 : Hp} {De : DEnds} {D : Ends} (h : LeE K W G H De D) (x : Ext G H G1 H1) : LeE K W G1 H1 De D :=
  ⟨fun env G' σ H' p e w y => h.nx env G' σ H' p e w (x.trans y), fun env G' σ H' p e w y => h.bk env G' σ H' p e w (x.trans y), fun env G' σ H' p e w y => h.ct env G' σ H' p e w (x.trans y),
    fun d G' v H' p r w y => h.rt d G' v H' p r w (x.trans y), fun C fs env G' σ d xs H' p e f r w y => h.ex C fs env G' σ d xs H' p e f r w (x.trans y)⟩
def TSl (K : PySem.W.Frag) (W : WX) (w : DS) : TS := fun D σ H => ∃ (env : Dv) (G : Gh) (De : DEnds), ER K H σ env ∧ WG K G H ∧ w De env G ∧ LeE K W G H De D

/-! ### the judgements -/
structure QE (X : Cx) (W : WX) (e : Expr) (w : DE) : Prop where
  pe : PE X e (TEl X.K W w)
structure QT (X : Cx) (W : WX) (e : Expr) (w : DT) : Prop where
  pt : PT X e (TTl X.K W w)
structure QW (X : Cx) (W : WX) (e : Expr) (w : DT) : Prop where
  pw : PW X e (TTl X.K W w)
structure QA (X : Cx) (W : WX) (es : List Expr) (w : DA) : Prop where
  pa : PA X es (TAl X.K W w)
structure QS (X : Cx) (W : WX) (st : Stmt) (w : DS) : Prop where
  ps : PS X st (TSl X.K W w)
structure QSs (X : Cx) (W : WX) (st : List Stmt) (w : DS) : Prop where
  pss : PSs X st (TSl X.K W w)
section
variable {X : Cx} {W : WX} {e : Expr} {st : Stmt} {sts : List Stmt}
theorem PE.wk {t t' : TE} (h : PE X e t) (i : ∀ σ H Q, t' σ H Q → t σ H Q) : PE X e t' := ⟨fun a b c d q I z => h.run a b c d q I (i _ _ _ z)⟩
theorem PT.wk {t t' : TT} (h : PT X e t) (i : ∀ σ H Q, t' σ H Q → t σ H Q) : PT X e t' := ⟨fun a b c d q I z => h.run a b c d q I (i _ _ _ z)⟩
theorem PW.wk {t t' : TT} (h : PW X e t) (i : ∀ σ H Q, t' σ H Q → t σ H Q) : PW X e t' := ⟨fun u a b c d q I z => h.run u a b c d q I (i _ _ _ z)⟩
theorem PA.wk {es : List Expr} {t t' : TA} (h : PA X es t) (i : ∀ σ H Q, t' σ H Q → t σ H Q) : PA X es t' := ⟨fun u a b c d q I z => h.run u a b c d q I (i _ _ _ z)⟩
theorem PS.wk {t t' : TS} (h : PS X st t) (i : ∀ D σ H, t' D σ H → t D σ H) : PS X st t' := ⟨fun a b c d q I z => h.run a b c d q I (i _ _ _ z)⟩
theorem PSs.wk {t t' : TS} (h : PSs X sts t) (i : ∀ D σ H, t' D σ H → t D σ H) : PSs X sts t' := ⟨fun a b c d q I z => h.run a b c d q I (i _ _ _ z)⟩

/-! ### names and constants -/
def wVar (i : Nat) : DE := fun _ env G Q => match env[i]? with | some (some d) => Q d G | _ => False
def wC (d : DV) : DE := fun _ _ G Q => Q d G
theorem q_var (i : Nat) {x : Str} {pos : Pos} (hN : X.N[i]? = some x := by rfl) (hv : Vis X.env.scope x := by first | exact Or.inl rfl | exact Or.inr (Or.inl rfl) | exact Or.inr (Or.inr rfl)) (hd : (x == ("__debug__" : Str)) = false := by decide)
    (hcd : (x == ("__classdict__" : Str)) = false := by decide) : QE X W (.Name x pos) (wVar i) := by
  refine ⟨PE.wk (pe_var (i := i) hN hv hd hcd) ?_⟩
  rintro σ H Q ⟨Y, env, G, P, er, wg, h, k, kx⟩
  unfold wVar at h
  split at h
  · rename_i d e
    obtain ⟨v, e1, r⟩ := er.get e
    exact ⟨v, e1, k _ _ _ _ h wg Ext.refl r⟩
  · exact h.elim
theorem q_const {v : V} {d : DV} (h : PE X e (tC v)) (r : ∀ H, VR X.K H v d) : QE X W e (wC d) :=
  ⟨PE.wk h fun _ H _ ⟨_, _, _, _, _, wg, h, k, _⟩ => k _ _ _ _ h wg Ext.refl (r H)⟩
theorem q_int {i j pos} : QE X W (.Constant (.int i) j pos) (wC (.int i)) := q_const pe_int fun _ => .int _
theorem q_bl {i j pos} : QE X W (.Constant (.bool i) j pos) (wC (.bl i)) := q_const pe_bl fun _ => .bl _
theorem q_non {j pos} : QE X W (.Constant .none j pos) (wC .non) := q_const pe_non fun _ => .non
theorem q_str {i j pos} : QE X W (.Constant (.str i) j pos) (wC (.str i)) := q_const pe_str fun _ => .str _
/-- a module's constant -/
theorem q_glob {x : Str} {d : DV} {v : V} {u : Value} {pos : Pos} (hm : X.mg x = some u) (r : RelV v u) (rd : ∀ H, VR X.K H v d) (hg : Gl X x := by rfl) (hd : (x == ("__debug__" : Str)) = false := by decide) : QE X W (.Name x pos) (wC d) :=
  q_const (pe_glob hg hm r hd) rd

/-! ### operators -/
abbrev D2 := DV → DV → Gh → (DV → Gh → Prop) → Prop
def lift2 (K : PySem.W.Frag) (r : D2) : R2 := fun x y H Q => ∃ dx dy G P, VR K H x dx ∧ VR K H y dy ∧ WG K G H ∧ r dx dy G P ∧ ∀ d G' v H', P d G' → WG K G' H' → Ext G H G' H' → VR K H' v d → Q v H'
def OpD (X : Cx) (f : Value → Value → Sem Value) (r : D2) : Prop := OpR X f (lift2 X.K r)
def wOp (r : D2) (wa wb : DE) : DE := fun Y env G Q => wa Y env G fun x G1 => wb Y env G1 fun y G2 => r x y G2 Q
variable {a b c : Expr} {wa wb wc : DE} {pos : Pos}
/-- the two parts of an operation -/
theorem two_parts {r : D2} {σ : L2.St} {H : Hp} {Q : VK} (h : TEl X.K W (wOp r wa wb) σ H Q) : tOp (lift2 X.K r) (TEl X.K W wa) (TEl X.K W wb) σ H Q := by
  obtain ⟨Y, env, G, P, er, wg, h, k, kx⟩ := h
  refine ⟨Y, env, G, _, er, wg, h, fun x G1 v H1 h1 w1 x1 r1 => ?_, kx⟩
  refine ⟨Y, env, G1, _, er.ext wg x1, w1, h1, fun y G2 u H2 h2 w2 x2 r2 => ?_, kx.step x1⟩
  exact ⟨x, y, G2, P, r1.ext w1 x2, r2, w2, h2, fun d G' v' H' p w' x' r' => k d G' v' H' p w' ((x1.trans x2).trans x') r'⟩
theorem q_op {op : Operator} {r : D2} (ho : OpD X (binaryOp op) r) (ha : QE X W a wa) (hb : QE X W b wb) : QE X W (.BinOp a op b pos) (wOp r wa wb) :=
  ⟨PE.wk (pe_op ho ha.pe hb.pe) fun _ _ _ h => two_parts h⟩
theorem q_cmp {op : CmpOp} {r : D2} (ho : OpD X (compareOp op) r) (ha : QE X W a wa) (hb : QE X W b wb) (hm : behindInMarks op b = false := by first | exact nomark _ | rfl) : QE X W (.Compare a [op] [b] pos) (wOp r wa wb) :=
  ⟨PE.wk (pe_cmpR ho ha.pe hb.pe hm) fun _ _ _ h => two_parts h⟩
/-- a value as a test -/
def wTst (w : DE) : DT := fun Y env G Q => w Y env G fun d G' => match d with | .bl b => Q b G' | _ => False
theorem tst_parts {t : DE} {σ : L2.St} {H : Hp} {Q : Bool → Hp → Prop} (h : TTl X.K W (wTst t) σ H Q) : TEl X.K W t σ H fun x H1 => ∃ k, x = .bl k ∧ Q k H1 := by
  obtain ⟨Y, env, G, P, er, wg, h, k, kx⟩ := h
  refine ⟨Y, env, G, _, er, wg, h, fun d G' v H' p w' x' r => ?_, kx⟩
  cases d <;> first | exact p.elim | skip
  cases r
  exact ⟨_, rfl, k _ _ _ p w' x'⟩
theorem qt_val (h : QE X W e wa) (he : ∀ whole, isTrue e X.env whole = (do let v ← whole; standAt e.pos; holding [v] (truthy v)) := by intro _; rfl) : QT X W e (wTst wa) :=
  ⟨PT.wk (pt_val h.pe he) fun _ _ _ h => tst_parts h⟩
theorem qt_cmp {op : CmpOp} {r : D2} (ho : OpD X (compareOp op) r) (ha : QE X W a wa) (hb : QE X W b wb) (hm : behindInMarks op b = false := by first | exact nomark _ | rfl) : QT X W (.Compare a [op] [b] pos) (wTst (wOp r wa wb)) :=
  ⟨PT.wk (pt_cmpR ho ha.pe hb.pe hm) fun σ H Q h => by
    obtain ⟨Y, env, G, P, er, wg, h, k, kx⟩ := tst_parts h
    exact two_parts ⟨Y, env, G, P, er, wg, h, k, kx⟩⟩
/-- a < b < c -/
def wChain (r r' : D2) (wa wb wc : DE) : DE := fun Y env G Q => wa Y env G fun x G1 => wb Y env G1 fun y G2 => r x y G2 fun z G3 => match z with
  | .bl true => wc Y env G3 fun u G4 => r' y u G4 Q
  | .bl false => Q (.bl false) G3
  | _ => False
theorem chain_parts {r r' : D2} {σ : L2.St} {H : Hp} {Q : VK} (h : TEl X.K W (wChain r r' wa wb wc) σ H Q) : tChain (lift2 X.K r) (lift2 X.K r') (TEl X.K W wa) (TEl X.K W wb) (TEl X.K W wc) σ H Q := by
  obtain ⟨Y, env, G, P, er, wg, h, k, kx⟩ := h
  refine ⟨Y, env, G, _, er, wg, h, fun x G1 v H1 h1 w1 x1 r1 => ?_, kx⟩
  refine ⟨Y, env, G1, _, er.ext wg x1, w1, h1, fun y G2 u H2 h2 w2 x2 r2 => ?_, kx.step x1⟩
  refine ⟨x, y, G2, _, r1.ext w1 x2, r2, w2, h2, fun z G3 q H3 h3 w3 x3 r3 => ?_⟩
  have e3 := (er.ext wg x1).ext w1 (x2.trans x3)
  have t3 := (x1.trans x2).trans x3
  cases z <;> first | exact h3.elim | skip
  rename_i bb
  cases r3
  cases bb with
  | false => exact ⟨false, rfl, by rw [if_neg Bool.false_ne_true]; exact k _ _ _ _ h3 w3 t3 (.bl false)⟩
  | true =>
    refine ⟨true, rfl, ?_⟩
    rw [if_pos rfl]
    refine ⟨Y, env, G3, _, e3, w3, h3, fun z' G4 q' H4 h4 w4 x4 r4 => ?_, kx.step t3⟩
    exact ⟨y, z', G4, P, r2.ext w2 (x3.trans x4), r4, w4, h4, fun d G' v' H' p w' x' r' => k d G' v' H' p w' ((t3.trans x4).trans x') r'⟩
theorem q_chain {op op' : CmpOp} {r r' : D2} (ho : OpD X (compareOp op) r) (ho' : OpD X (compareOp op') r') (ha : QE X W a wa) (hb : QE X W b wb) (hc : QE X W c wc) (hm : lastMarks [op, op'] [b, c] = false := by rfl) : QE X W (.Compare a [op, op'] [b, c] pos) (wChain r r' wa wb wc) :=
  ⟨PE.wk (pe_chain ho ho' ha.pe hb.pe hc.pe hm) fun _ _ _ h => chain_parts h⟩
theorem qt_chain {op op' : CmpOp} {r r' : D2} (ho : OpD X (compareOp op) r) (ho' : OpD X (compareOp op') r') (ha : QE X W a wa) (hb : QE X W b wb) (hc : QE X W c wc) (hm : lastMarks [op, op'] [b, c] = false := by rfl) : QT X W (.Compare a [op, op'] [b, c] pos) (wTst (wChain r r' wa wb wc)) :=
  ⟨PT.wk (pt_chain ho ho' ha.pe hb.pe hc.pe hm) fun σ H Q h => by
    obtain ⟨Y, env, G, P, er, wg, h, k, kx⟩ := tst_parts h
    exact chain_parts ⟨Y, env, G, P, er, wg, h, k, kx⟩⟩

/-! ### and, or, not -/
def wAndT (t u : DT) : DT := fun Y env G Q => t Y env G fun c G1 => if c = true then u Y env G1 Q else Q false G1
def wOrT (t u : DT) : DT := fun Y env G Q => t Y env G fun c G1 => if c = true then Q true G1 else u Y env G1 Q
def wNotT (t : DT) : DT := fun Y env G Q => t Y env G fun c G1 => Q (!c) G1
variable {ta tb : DT} {rest : List Expr}
theorem qw_and1 (ha : QT X W a ta) : QW X W (.BoolOp .And [a] pos) ta := ⟨pw_and1 ha.pt⟩
theorem qw_or1 (ha : QT X W a ta) : QW X W (.BoolOp .Or [a] pos) ta := ⟨pw_or1 ha.pt⟩
theorem qw_and (ha : QT X W a ta) (hb : QW X W (.BoolOp .And (b :: rest) pos) tb) : QW X W (.BoolOp .And (a :: b :: rest) pos) (wAndT ta tb) :=
  ⟨PW.wk (pw_and ha.pt hb.pw) fun σ H Q ⟨Y, env, G, P, er, wg, h, k, kx⟩ => ⟨Y, env, G, _, er, wg, h, fun c G1 H1 h1 w1 x1 => by
    cases c with
    | true => simp only [if_true] at h1 ⊢; exact ⟨Y, env, G1, P, er.ext wg x1, w1, h1, fun b G' H' p w' x' => k b G' H' p w' (x1.trans x'), kx.step x1⟩
    | false => simp only [Bool.false_eq_true, if_false] at h1 ⊢; exact k _ _ _ h1 w1 x1, kx⟩⟩
theorem qw_or (ha : QT X W a ta) (hb : QW X W (.BoolOp .Or (b :: rest) pos) tb) : QW X W (.BoolOp .Or (a :: b :: rest) pos) (wOrT ta tb) :=
  ⟨PW.wk (pw_or ha.pt hb.pw) fun σ H Q ⟨Y, env, G, P, er, wg, h, k, kx⟩ => ⟨Y, env, G, _, er, wg, h, fun c G1 H1 h1 w1 x1 => by
    cases c with
    | false => simp only [Bool.false_eq_true, if_false] at h1 ⊢; exact ⟨Y, env, G1, P, er.ext wg x1, w1, h1, fun b G' H' p w' x' => k b G' H' p w' (x1.trans x'), kx.step x1⟩
    | true => simp only [if_true] at h1 ⊢; exact k _ _ _ h1 w1 x1, kx⟩⟩
theorem qt_w (h : QW X W e ta) : QT X W e ta := ⟨h.pw.pt⟩
theorem qt_not (ha : QT X W a ta) : QT X W (.UnaryOp .Not a pos) (wNotT ta) :=
  ⟨PT.wk (pt_not ha.pt) fun σ H Q ⟨Y, env, G, P, er, wg, h, k, kx⟩ => ⟨Y, env, G, _, er, wg, h, fun c G1 H1 h1 w1 x1 => k _ _ _ h1 w1 x1, kx⟩⟩
def wAnd (wa wb : DE) : DE := fun Y env G Q => wa Y env G fun x G1 => match x with | .bl true => wb Y env G1 Q | .bl false => Q (.bl false) G1 | _ => False
def wOr (wa wb : DE) : DE := fun Y env G Q => wa Y env G fun x G1 => match x with | .bl false => wb Y env G1 Q | .bl true => Q (.bl true) G1 | _ => False
def wNot (wa : DE) : DE := fun Y env G Q => wa Y env G fun x G1 => match x with | .bl b => Q (.bl (!b)) G1 | _ => False
theorem q_one {op} (h : QE X W a wa) : QE X W (.BoolOp op [a] pos) wa := ⟨pe_one h.pe⟩
theorem q_and (ha : QE X W a wa) (hb : QE X W (.BoolOp .And (b :: rest) pos) wb) : QE X W (.BoolOp .And (a :: b :: rest) pos) (wAnd wa wb) :=
  ⟨PE.wk (pe_and ha.pe hb.pe) fun σ H Q ⟨Y, env, G, P, er, wg, h, k, kx⟩ => ⟨Y, env, G, _, er, wg, h, fun d G1 v H1 h1 w1 x1 r => by
    cases d <;> first | exact h1.elim | skip
    rename_i c
    cases r
    refine ⟨c, rfl, ?_⟩
    cases c with
    | true => rw [if_pos rfl]; exact ⟨Y, env, G1, P, er.ext wg x1, w1, h1, fun d G' v' H' p w' x' r => k d G' v' H' p w' (x1.trans x') r, kx.step x1⟩
    | false => rw [if_neg Bool.false_ne_true]; exact k _ _ _ _ h1 w1 x1 (.bl false), kx⟩⟩
theorem q_or (ha : QE X W a wa) (hb : QE X W (.BoolOp .Or (b :: rest) pos) wb) : QE X W (.BoolOp .Or (a :: b :: rest) pos) (wOr wa wb) :=
  ⟨PE.wk (pe_or ha.pe hb.pe) fun σ H Q ⟨Y, env, G, P, er, wg, h, k, kx⟩ => ⟨Y, env, G, _, er, wg, h, fun d G1 v H1 h1 w1 x1 r => by
    cases d <;> first | exact h1.elim | skip
    rename_i c
    cases r
    refine ⟨c, rfl, ?_⟩
    cases c with
    | false => rw [if_neg Bool.false_ne_true]; exact ⟨Y, env, G1, P, er.ext wg x1, w1, h1, fun d G' v' H' p w' x' r => k d G' v' H' p w' (x1.trans x') r, kx.step x1⟩
    | true => rw [if_pos rfl]; exact k _ _ _ _ h1 w1 x1 (.bl true), kx⟩⟩
theorem q_not (ha : QE X W a wa) : QE X W (.UnaryOp .Not a pos) (wNot wa) :=
  ⟨PE.wk (pe_not ha.pe) fun σ H Q ⟨Y, env, G, P, er, wg, h, k, kx⟩ => ⟨Y, env, G, _, er, wg, h, fun d G1 v H1 h1 w1 x1 r => by
    cases d <;> first | exact h1.elim | skip
    rename_i c
    cases r
    exact ⟨c, rfl, k _ _ _ _ h1 w1 x1 (.bl _)⟩, kx⟩⟩
def wIf (t : DT) (wa wb : DE) : DE := fun Y env G Q => t Y env G fun c G1 => if c = true then wa Y env G1 Q else wb Y env G1 Q
theorem q_ifExp (hc : QT X W c ta) (ha : QE X W a wa) (hb : QE X W b wb) : QE X W (.IfExp c a b pos) (wIf ta wa wb) :=
  ⟨PE.wk (pe_ifExp hc.pt ha.pe hb.pe) fun σ H Q ⟨Y, env, G, P, er, wg, h, k, kx⟩ => ⟨Y, env, G, _, er, wg, h, fun c G1 H1 h1 w1 x1 => by
    cases c with
    | true => simp only [if_true] at h1 ⊢; exact ⟨Y, env, G1, P, er.ext wg x1, w1, h1, fun d G' v' H' p w' x' r => k d G' v' H' p w' (x1.trans x') r, kx.step x1⟩
    | false => simp only [Bool.false_eq_true, if_false] at h1 ⊢; exact ⟨Y, env, G1, P, er.ext wg x1, w1, h1, fun d G' v' H' p w' x' r => k d G' v' H' p w' (x1.trans x') r, kx.step x1⟩, kx⟩⟩

/-! ### argument lists, displays, calls of what is known -/
def wNil : DA := fun _ _ G Q => Q [] G
def wCons (wa : DE) (wr : DA) : DA := fun Y env G Q => wa Y env G fun d G1 => wr Y env G1 fun ds G2 => Q (d :: ds) G2
variable {es : List Expr} {wr : DA}
theorem qa_nil : QA X W [] wNil := ⟨PA.wk pa_nil fun σ H Q ⟨Y, env, G, P, er, wg, h, k, kx⟩ => k _ _ _ _ h wg Ext.refl .nil⟩
theorem qa_cons (ha : QE X W e wa) (hr : QA X W es wr) (hs : starEach (e :: es) X.env = (false, eval e X.env) :: starEach es X.env := by rfl) : QA X W (e :: es) (wCons wa wr) :=
  ⟨PA.wk (pa_cons ha.pe hr.pa hs) fun σ H Q ⟨Y, env, G, P, er, wg, h, k, kx⟩ => ⟨Y, env, G, _, er, wg, h, fun d G1 v H1 h1 w1 x1 r1 =>
    ⟨Y, env, G1, _, er.ext wg x1, w1, h1, fun ds G2 vs H2 h2 w2 x2 r2 => k _ _ _ _ h2 w2 (x1.trans x2) (.cons (r1.ext w1 x2) r2), kx.step x1⟩, kx⟩⟩
def wTup (wr : DA) : DE := fun Y env G Q => wr Y env G fun ds G1 => ds.length ≤ sizeLine ∧ Q (.tup ds) G1
def wLst (wr : DA) : DE := fun Y env G Q => wr Y env G fun ds G1 => ds.length ≤ sizeLine ∧ ∀ p, G1 p = none → Q (.ref p) (gup G1 p (.lst ds))
theorem q_tup {x1} (h : QA X W es wr) : QE X W (.Tuple es x1 pos) (wTup wr) :=
  ⟨PE.wk (pe_tup h.pa) fun σ H Q ⟨Y, env, G, P, er, wg, h, k, kx⟩ => ⟨Y, env, G, _, er, wg, h, fun ds G1 vs H1 h1 w1 x1 r1 =>
    ⟨by rw [r1.len]; exact h1.1, fun p np => k _ _ _ _ h1.2 (w1.new np) (x1.trans (Ext.new np)) (VR.newT w1 np r1)⟩, kx⟩⟩
theorem q_lst (h : QA X W es wr) : QE X W (.List es pos) (wLst wr) :=
  ⟨PE.wk (pe_lst h.pa) fun σ H Q ⟨Y, env, G, P, er, wg, h, k, kx⟩ => ⟨Y, env, G, _, er, wg, h, fun ds G1 vs H1 h1 w1 x1 r1 =>
    ⟨by rw [r1.len]; exact h1.1, fun p np => k _ _ _ _ (h1.2 p (w1.non np)) (w1.newL np r1) (x1.trans (Ext.newC np)) (.ref p)⟩, kx⟩⟩
abbrev DC := List DV → Gh → (DV → Gh → Prop) → Prop
def liftC (K : PySem.W.Frag) (r : DC) : List V → Hp → VK → Prop := fun xs H Q => ∃ ds G P, VRs K H xs ds ∧ WG K G H ∧ r ds G P ∧ ∀ d G' v H', P d G' → WG K G' H' → Ext G H G' H' → VR K H' v d → Q v H'
def CallD (X : Cx) (f : Value) (r : DC) : Prop := CallR X f (liftC X.K r)
def wCB (r : DC) (wr : DA) : DE := fun Y env G Q => wr Y env G fun ds G1 => r ds G1 Q
theorem cb_parts {r : DC} {σ : L2.St} {H : Hp} {Q : VK} (h : TEl X.K W (wCB r wr) σ H Q) : tCB (liftC X.K r) (TAl X.K W wr) σ H Q := by
  obtain ⟨Y, env, G, P, er, wg, h, k, kx⟩ := h
  exact ⟨Y, env, G, _, er, wg, h, fun ds G1 vs H1 h1 w1 x1 r1 => ⟨ds, G1, P, r1, w1, h1, fun d G' v H' p w' x' r' => k d G' v H' p w' (x1.trans x') r'⟩, kx⟩
theorem q_callB {id : String} {x : Str} {p : Pos} {r : DC} (hc : CallD X (.builtin id) r) (hm : X.mg x = none) (ha : QA X W (e :: es) wr) (hv : bootBuiltins x = some (.builtin id) := by decide +kernel) (hg : Gl X x := by rfl) (hn : x ≠ "__name__" := by decide) (hdb : (x == ("__debug__" : Str)) = false := by decide)
    (he : starEach (e :: es) X.env = (false, eval e X.env) :: starEach es X.env := by rfl) (hpl : (backTo pos (starEach es X.env)).any (·.1) = false := by rfl) : QE X W (.Call (.Name x p) (e :: es) [] pos) (wCB r wr) :=
  ⟨PE.wk (pe_callB hc hg hm hv ha.pa hn hdb he hpl) fun _ _ _ h => cb_parts h⟩
theorem q_callTy {T : String} {x : Str} {p : Pos} {r : DC} (hc : CallD X (.type T) r) (hm : X.mg x = none) (ha : QA X W (e :: es) wr) (hv : bootBuiltins x = some (.type T) := by decide +kernel) (hg : Gl X x := by rfl) (hn : x ≠ "__name__" := by decide) (hdb : (x == ("__debug__" : Str)) = false := by decide)
    (he : starEach (e :: es) X.env = (false, eval e X.env) :: starEach es X.env := by rfl) (hpl : (backTo pos (starEach es X.env)).any (·.1) = false := by rfl) : QE X W (.Call (.Name x p) (e :: es) [] pos) (wCB r wr) :=
  ⟨PE.wk (pe_callTy hc hg hm hv ha.pa hn hdb he hpl) fun _ _ _ h => cb_parts h⟩

/-! ### small statements -/
variable {w u : DS}
def wNext : DS := fun D env G => D.nx env G
def wSeq (t u : DS) : DS := fun D env G => t { D with nx := u D } env G
theorem seq_parts {D : Ends} {σ : L2.St} {H : Hp} {t u : DS} (h : TSl X.K W (wSeq t u) D σ H) : tSeq (TSl X.K W t) (TSl X.K W u) D σ H := by
  obtain ⟨env, G, De, er, wg, h, le⟩ := h
  exact ⟨env, G, _, er, wg, h, fun env' G' σ' H' p e' w' x' => ⟨env', G', De, e', w', p, le.step x'⟩, le.bk, le.ct, le.rt, le.ex⟩
theorem qss_nil : QSs X W [] wNext := ⟨PSs.wk pss_nil fun D σ H ⟨env, G, De, er, wg, h, le⟩ => le.nx _ _ _ _ h er wg Ext.refl⟩
theorem qss_cons (h1 : QS X W st w) (h2 : QSs X W sts u) : QSs X W (st :: sts) (wSeq w u) := ⟨PSs.wk (pss_cons h1.ps h2.pss) fun _ _ _ h => seq_parts h⟩
theorem qss_one (h1 : QS X W st w) : QSs X W [st] w := ⟨pss_one h1.ps⟩
theorem qs_pass : QS X W (.Pass pos) wNext := ⟨PS.wk ps_pass fun D σ H ⟨env, G, De, er, wg, h, le⟩ => le.nx _ _ _ _ h er wg Ext.refl⟩
def wBreak : DS := fun D env G => D.bk env G
def wCont : DS := fun D env G => D.ct env G
theorem qs_break : QS X W (.Break pos) wBreak := ⟨PS.wk ps_break fun D σ H ⟨env, G, De, er, wg, h, le⟩ => le.bk _ _ _ _ h er wg Ext.refl⟩
theorem qs_continue : QS X W (.Continue pos) wCont := ⟨PS.wk ps_continue fun D σ H ⟨env, G, De, er, wg, h, le⟩ => le.ct _ _ _ _ h er wg Ext.refl⟩
/-- an expression's exceptions, as the statement wants them -/
theorem LeE.xle {D : Ends} {De : DEnds} {G : Gh} {H : Hp} {σ : L2.St} {env : Dv} (le : LeE X.K W G H De D) (wg : WG X.K G H) (er : ER X.K H σ env) : XLe X.K G H (fun C fs G' => De.ex C fs env G') fun c d => W c d σ :=
  fun C fs G' d xs H' y e f w' x' => le.ex C fs env G' σ d xs H' y e f (er.ext wg x') w' x'
def wExpr (we : DE) : DS := fun D env G => we (fun C fs G' => D.ex C fs env G') env G fun _ G1 => D.nx env G1
def wRet (we : DE) : DS := fun D env G => we (fun C fs G' => D.ex C fs env G') env G D.rt
theorem qs_expr (he : QE X W e wa) (hs : swapsWith e none pos.line X.env = pure false := by rfl) : QS X W (.Expr e pos) (wExpr wa) :=
  ⟨PS.wk (ps_expr he.pe hs) fun D σ H ⟨env, G, De, er, wg, h, le⟩ => ⟨_, env, G, _, er, wg, h, fun d G' v H' p w' x' r => le.nx _ _ _ _ p (er.ext wg x') w' x', le.xle wg er⟩⟩
theorem qs_ret (he : QE X W e wa) : QS X W (.Return (some e) pos) (wRet wa) :=
  ⟨PS.wk (ps_ret he.pe) fun D σ H ⟨env, G, De, er, wg, h, le⟩ => ⟨_, env, G, _, er, wg, h, fun d G' v H' p w' x' r => le.rt _ _ _ _ p r w' x', le.xle wg er⟩⟩
def wRetN : DS := fun D _ G => D.rt .non G
theorem qs_retN : QS X W (.Return none pos) wRetN := ⟨PS.wk ps_retN fun D σ H ⟨env, G, De, er, wg, h, le⟩ => le.rt _ _ _ _ h .non wg Ext.refl⟩
def wIfS (c : DT) (t u : DS) : DS := fun D env G => c (fun C fs G' => D.ex C fs env G') env G fun b G1 => if b = true then t D env G1 else u D env G1
theorem qs_if {as bs : List Stmt} (hc : QT X W c ta) (ha : QSs X W as w) (hb : QSs X W bs u) : QS X W (.If c as bs pos) (wIfS ta w u) :=
  ⟨PS.wk (ps_if hc.pt ha.pss hb.pss) fun D σ H ⟨env, G, De, er, wg, h, le⟩ => ⟨_, env, G, _, er, wg, h, fun b G' H' p w' x' => by
    cases b with
    | true => simp only [if_true] at p ⊢; exact ⟨env, G', De, er.ext wg x', w', p, le.step x'⟩
    | false => simp only [Bool.false_eq_true, if_false] at p ⊢; exact ⟨env, G', De, er.ext wg x', w', p, le.step x'⟩, le.xle wg er⟩⟩
def wSet (i : Nat) (we : DE) : DS := fun D env G => we (fun C fs G' => D.ex C fs env G') env G fun d G1 => D.nx (env.set i (some d)) G1
theorem qs_set (i : Nat) {x : Str} {pos' : Pos} (hN : X.N.Nodup) (he : QE X W e wa) (hi : X.N[i]? = some x := by rfl) (hx : Loc X.env.scope x := by first | exact Or.inl rfl | exact Or.inr rfl) (hs : swapsWith e (some (.Name x pos')) pos.line X.env = pure false := by rfl)
    (hf : X.fn x = true ∨ X.env.scope.names.lookup x = some .local := by first | exact .inl rfl | exact .inr rfl) : QS X W (.Assign [.Name x pos'] e pos) (wSet i wa) :=
  ⟨PS.wk (ps_set (i := i) hN hi hx he.pe hs hf) fun D σ H ⟨env, G, De, er, wg, h, le⟩ => ⟨_, env, G, _, er, wg, h, fun d G' v H' p w' x' r => le.nx _ _ _ _ p ((er.ext wg x').set r i) w' x', le.xle wg er⟩⟩
end
end DL

namespace DL
open PySem PySem.Spec L2

/-! ### targets -/
abbrev DG := DV → Dv → Gh → (Dv → Gh → Prop) → Prop
abbrev DGs := List DV → Dv → Gh → (Dv → Gh → Prop) → Prop
def TGl (K : PySem.W.Frag) (g : DG) : TG := fun v σ H Q => ∃ d env G P, VR K H v d ∧ ER K H σ env ∧ WG K G H ∧ g d env G P ∧ ∀ env' G' σ' H', P env' G' → ER K H' σ' env' → WG K G' H' → Ext G H G' H' → Q σ' H'
def TGsl (K : PySem.W.Frag) (g : DGs) : TGs := fun v σ H Q => ∃ d env G P, VRs K H v d ∧ ER K H σ env ∧ WG K G H ∧ g d env G P ∧ ∀ env' G' σ' H', P env' G' → ER K H' σ' env' → WG K G' H' → Ext G H G' H' → Q σ' H'
structure QG (X : Cx) (tg : Expr) (t : TG) (g : DG) : Prop where
  pg : PG X tg t
  sim : ∀ v σ H Q, TGl X.K g v σ H Q → t v σ H Q
structure QGs (X : Cx) (tg : List Expr) (t : TGs) (g : DGs) : Prop where
  pg : PGs X tg t
  sim : ∀ v σ H Q, TGsl X.K g v σ H Q → t v σ H Q
/-- nothing but these slots is changed -/
def Keeps (vs : List Nat) (t : TG) : Prop := ∀ v σ H Q, t v σ H Q → t v σ H fun σ' H' => Q σ' H' ∧ wipe σ' vs = wipe σ vs
def KeepsS (vs : List Nat) (t : TGs) : Prop := ∀ v σ H Q, t v σ H Q → t v σ H fun σ' H' => Q σ' H' ∧ wipe σ' vs = wipe σ vs
def wgName (i : Nat) : DG := fun d env G Q => Q (env.set i (some d)) G
def wgNil : DGs := fun ds env G Q => match ds with | [] => Q env G | _ => False
def wgCons (g : DG) (gs : DGs) : DGs := fun ds env G Q => match ds with | d :: r => g d env G fun env1 G1 => gs r env1 G1 Q | _ => False
def wgTup (gs : DGs) : DG := fun d env G Q => match d with | .tup ds => gs ds env G Q | _ => False
theorem set_wipe {σ : L2.St} {i : Nat} {o : Option V} : ∀ {vs : List Nat}, i ∈ vs → wipe (σ.set i o) vs = wipe σ vs
  | [], h => by simp at h
  | v :: vs, h => by
    show (wipe (σ.set i o) vs).set v none = (wipe σ vs).set v none
    by_cases hv : i ∈ vs
    · rw [set_wipe hv]
    · have e : i = v := by simpa [hv] using h
      subst e
      have step : ∀ ws : List Nat, i ∉ ws → wipe (σ.set i o) ws = (wipe σ ws).set i o := by
        intro ws
        induction ws with
        | nil => intro _; rfl
        | cons w ws ih =>
          intro hn
          have hw : i ≠ w := fun q => hn (by simp [q])
          show (wipe (σ.set i o) ws).set w none = ((wipe σ ws).set w none).set i o
          rw [ih fun q => hn (List.mem_cons_of_mem _ q), List.set_comm _ _ hw]
      rw [step vs hv, List.set_set]
theorem wipe_get {σ : L2.St} {j : Nat} : ∀ vs : List Nat, (wipe σ vs)[j]? = if j ∈ vs then (if j < σ.length then some none else none) else σ[j]?
  | [] => by simp [wipe]
  | v :: vs => by
    have ih := wipe_get (σ := σ) (j := j) vs
    have hl := wipe_length σ vs
    show ((wipe σ vs).set v none)[j]? = _
    by_cases hj : v = j
    · subst hj
      by_cases h : v < σ.length
      · rw [List.getElem?_set_self (by omega)]
        simp [h]
      · rw [List.getElem?_eq_none (by simp; omega)]
        simp [h]
    · rw [List.getElem?_set_ne hj, ih]
      have : j ≠ v := fun q => hj q.symm
      simp [this]
theorem wipe_wipe {σ : L2.St} (vs : List Nat) : wipe (wipe σ vs) vs = wipe σ vs := by
  apply List.ext_getElem?
  intro j
  rw [wipe_get, wipe_get, wipe_length]
  split <;> simp_all
section
variable {X : Cx} {W : WX} {e : Expr} {st : Stmt} {sts : List Stmt} {es : List Expr} {pos : Pos} {wa wb : DE} {w u : DS}
theorem qg_name (i : Nat) {x : Str} (hN : X.N.Nodup) (hi : X.N[i]? = some x := by rfl) (hx : Loc X.env.scope x := by first | exact Or.inl rfl | exact Or.inr rfl) (hf : X.fn x = true ∨ X.env.scope.names.lookup x = some .local := by first | exact .inl rfl | exact .inr rfl) :
    QG X (.Name x pos) (gName i) (wgName i) :=
  ⟨pg_name hN hi hx hf, fun v σ H Q ⟨d, env, G, P, r, er, wg, h, k⟩ => k _ _ _ _ h (er.set r i) wg Ext.refl⟩
theorem keeps_name {vs : List Nat} {i : Nat} (h : i ∈ vs) : Keeps vs (gName i) := fun v σ H Q q => ⟨q, set_wipe h⟩
theorem qgs_nil : QGs X [] gNil wgNil := ⟨pgs_nil, fun v σ H Q ⟨d, env, G, P, r, er, wg, h, k⟩ => by
  cases d with
  | nil => cases r; exact ⟨rfl, k _ _ _ _ h er wg Ext.refl⟩
  | cons => exact h.elim⟩
theorem qgs_cons {tg : Expr} {tgs : List Expr} {t : TG} {ts : TGs} {g : DG} {gs : DGs} (h1 : QG X tg t g) (h2 : QGs X tgs ts gs) (hs : (assignEach (tg :: tgs) X.env).map (·.2) = assign tg X.env :: (assignEach tgs X.env).map (·.2) := by rfl) : QGs X (tg :: tgs) (gCons t ts) (wgCons g gs) :=
  ⟨pgs_cons h1.pg h2.pg hs, fun v σ H Q ⟨d, env, G, P, r, er, wg, h, k⟩ => by
    cases d with
    | nil => exact h.elim
    | cons d ds =>
      cases r with
      | cons r1 r2 =>
        exact ⟨_, _, rfl, h1.sim _ _ _ _ ⟨d, env, G, _, r1, er, wg, h, fun env' G' σ' H' p e' w' x' => h2.sim _ _ _ _ ⟨ds, env', G', P, r2.ext wg x', e', w', p, fun a b c q p2 e2 w2 x2 => k a b c q p2 e2 w2 (x'.trans x2)⟩⟩⟩⟩
theorem keeps_nil {vs : List Nat} : KeepsS vs gNil := fun v σ H Q ⟨h, q⟩ => ⟨h, q, rfl⟩
/-- what a target may be asked twice -/
def MonoG (t : TG) : Prop := ∀ v σ H Q Q', t v σ H Q → (∀ σ' H', Q σ' H' → Q' σ' H') → t v σ H Q'
def MonoGs (t : TGs) : Prop := ∀ v σ H Q Q', t v σ H Q → (∀ σ' H', Q σ' H' → Q' σ' H') → t v σ H Q'
theorem mono_name {i : Nat} : MonoG (gName i) := fun v σ H Q Q' h k => k _ _ h
theorem mono_nil : MonoGs gNil := fun v σ H Q Q' ⟨h, q⟩ k => ⟨h, k _ _ q⟩
theorem mono_cons {t : TG} {ts : TGs} (h1 : MonoG t) (h2 : MonoGs ts) : MonoGs (gCons t ts) := fun v σ H Q Q' ⟨a, r, e, h⟩ k => ⟨a, r, e, h1 _ _ _ _ _ h fun _ _ q => h2 _ _ _ _ _ q k⟩
theorem mono_tup {K : PySem.W.Frag} {n : Nat} {ts : TGs} (h2 : MonoGs ts) : MonoG (gTup K n ts) := fun v σ H Q Q' ⟨a, xs, e, s, l, h⟩ k => ⟨a, xs, e, s, l, h2 _ _ _ _ _ h k⟩
theorem keeps_cons {vs : List Nat} {t : TG} {ts : TGs} (m1 : MonoG t) (m2 : MonoGs ts) (h1 : Keeps vs t) (h2 : KeepsS vs ts) : KeepsS vs (gCons t ts) := fun v σ H Q ⟨a, r, e, h⟩ =>
  ⟨a, r, e, m1 _ _ _ _ _ (h1 _ _ _ _ h) fun σ' H' ⟨q, e1⟩ => m2 _ _ _ _ _ (h2 _ _ _ _ q) fun σ2 H2 ⟨q2, e2⟩ => ⟨q2, e2.trans e1⟩⟩
theorem keeps_tup {vs : List Nat} {K : PySem.W.Frag} {n : Nat} {ts : TGs} (h2 : KeepsS vs ts) : Keeps vs (gTup K n ts) := fun v σ H Q ⟨a, xs, e, s, l, h⟩ => ⟨a, xs, e, s, l, h2 _ _ _ _ h⟩
theorem qg_tup {tgs : List Expr} {k : Nat} {ts : TGs} {gs : DGs} {n : Nat} (hc : X.calm = true) (h : QGs X tgs ts gs) (hl : ∀ ds env G P, gs ds env G P → ds.length = n) (he : PG X (.Tuple tgs k pos) (gTup X.K n ts)) : QG X (.Tuple tgs k pos) (gTup X.K n ts) (wgTup gs) :=
  ⟨he, fun v σ H Q ⟨d, env, G, P, r, er, wg, hh, kk⟩ => by
    cases d <;> first | exact hh.elim | skip
    cases r with
    | tup sq rs => exact ⟨_, _, rfl, SqT.of sq, by rw [rs.len]; exact hl _ _ _ _ hh, h.sim _ _ _ _ ⟨_, env, G, P, rs, er, wg, hh, kk⟩⟩⟩

/-! ### plain stores -/
def wAsg (we : DE) (g : DG) : DS := fun D env G => we (fun C fs G' => D.ex C fs env G') env G fun d G1 => g d env G1 D.nx
theorem qs_asg {tg : Expr} {t : TG} {g : DG} (he : QE X W e wa) (hg : QG X tg t g) (hs : swapsWithSole [tg] e pos.line X.env = pure false := by rfl) (hw : swappedStores [tg] e X.env = pure none := by rfl) (h1 : (assignEach [tg] X.env).map (·.2) = [assign tg X.env] := by rfl) : QS X W (.Assign [tg] e pos) (wAsg wa g) :=
  ⟨PS.wk (ps_asg he.pe hg.pg hs hw h1) fun D σ H ⟨env, G, De, er, wg, h, le⟩ => ⟨_, env, G, _, er, wg, h, fun d G' v H' p w' x' r =>
    hg.sim _ _ _ _ ⟨d, env, G', De.nx, r, er.ext wg x', w', p, fun env2 G2 σ2 H2 p2 e2 w2 x2 => le.nx _ _ _ _ p2 e2 w2 (x'.trans x2)⟩, le.xle wg er⟩⟩
/-- o[i] = v -/
abbrev D3 := DV → DV → DV → Gh → (Gh → Prop) → Prop
def lift3 (K : PySem.W.Frag) (r : D3) : TSet := fun o i v H Q => ∃ dv dx dy G P, VR K H o dv ∧ VR K H i dx ∧ VR K H v dy ∧ WG K G H ∧ r dv dx dy G P ∧ ∀ G' H', P G' → WG K G' H' → Ext G H G' H' → Q H'
def SetD (X : Cx) (r : D3) : Prop := PSet X (lift3 X.K r)
def wgSub (wo wi : DE) (r : D3) : DG := fun d env G Q => wo (fun _ _ _ => False) env G fun o G1 => wi (fun _ _ _ => False) env G1 fun i G2 => r o i d G2 fun G3 => Q env G3
abbrev W0 : WX := fun _ _ _ _ => False
theorem xle0 {K : PySem.W.Frag} {G : Gh} {H : Hp} {W : Value → Option Addr → Hp → Prop} : XLe K G H (fun _ _ _ => False) W := fun _ _ _ _ _ _ h => h.elim
theorem qg_sub {o i : Expr} {wo wi : DE} {r : D3} (ho : QE X W o wo) (hi : QE X W i wi) (hs : SetD X r) (hp : PG X (.Subscript o i pos) (gSub (TEl X.K W wo) (TEl X.K W wi) (lift3 X.K r))) : QG X (.Subscript o i pos) (gSub (TEl X.K W wo) (TEl X.K W wi) (lift3 X.K r)) (wgSub wo wi r) :=
  ⟨hp, fun v σ H Q ⟨d, env, G, P, rv, er, wg, h, k⟩ => ⟨_, env, G, _, er, wg, h, fun x G1 vx H1 h1 w1 x1 r1 => ⟨_, env, G1, _, er.ext wg x1, w1, h1, fun y G2 vy H2 h2 w2 x2 r2 =>
    ⟨x, y, d, G2, _, r1.ext w1 x2, r2, rv.ext wg (x1.trans x2), w2, h2, fun G3 H3 p3 w3 x3 => k _ _ _ _ p3 (er.ext wg ((x1.trans x2).trans x3)) w3 ((x1.trans x2).trans x3)⟩, xle0⟩, xle0⟩⟩

/-! ### what is walked -/
abbrev DI := DX → Dv → Gh → (List DV → (Gh → Prop) → Gh → Prop) → Prop
structure ItD (K : PySem.W.Frag) (J : It) (items : List DV) (stay : Gh → Prop) (G0 : Gh) (H0 : Hp) : Prop where
  go : ∀ i H G d, WG K G H → Ext G0 H0 G H → stay G → items[i]? = some d → J.go i H ∧ ∀ x H', J.yld i H x H' → WG K G H' ∧ Ext G H G H' ∧ VR K H' x d
  stop : ∀ i H G, WG K G H → Ext G0 H0 G H → stay G → items.length = i → J.stop i H
def TIl (K : PySem.W.Frag) (W : WX) (wi : DI) : TI := fun σ H R => ∃ (Y : DX) (env : Dv) (G : Gh) (P : List DV → (Gh → Prop) → Gh → Prop), ER K H σ env ∧ WG K G H ∧ wi Y env G P ∧
  (∀ items stay G1 H1 J, P items stay G1 → WG K G1 H1 → Ext G H G1 H1 → ItD K J items stay G1 H1 → R J H1) ∧ XLe K G H Y fun c d => W c d σ
structure QI (X : Cx) (W : WX) (tg iter : Expr) (wi : DI) : Prop where
  pi : PI X tg iter (TIl X.K W wi)
theorem PI.wk {tg iter : Expr} {t t' : TI} (h : PI X tg iter t) (i : ∀ σ H R, t' σ H R → t σ H R) : PI X tg iter t' := ⟨fun a b c d q I z => h.run a b c d q I (i _ _ _ z)⟩
def forL (stay : Gh → Prop) (g : DG) (wb : DS) (D : DEnds) : List DV → Dv → Gh → Prop
  | [], env, G => stay G ∧ D.nx env G
  | x :: r, env, G => stay G ∧ g x env G fun env1 G1 => wb { D with nx := forL stay g wb D r, ct := forL stay g wb D r, bk := D.nx } env1 G1
def wFor (wi : DI) (g : DG) (wb : DS) : DS := fun D env G => wi (fun C fs G' => D.ex C fs env G') env G fun items stay G1 => forL stay g wb D items env G1
theorem drop_cons {α : Type} {l : List α} {i : Nat} {x : α} {r : List α} (h : l.drop i = x :: r) : l[i]? = some x ∧ l.drop (i + 1) = r ∧ i < l.length := by
  have hl : i < l.length := by
    have := congrArg List.length h
    rw [List.length_drop, List.length_cons] at this
    omega
  rw [List.drop_eq_getElem_cons hl] at h
  injection h with h1 h2
  exact ⟨by rw [List.getElem?_eq_getElem hl, h1], h2, hl⟩
theorem qs_for {tg iter : Expr} {body : List Stmt} {t : TG} {wi : DI} {g : DG} {wl : DS} (hp : PassesOwn (model X.prog X.w) X.A X.env X.xe) (hc : X.calm = true) (hi : QI X W tg iter wi) (hg : QG X tg t g) (hb : QSs X W body wl)
    (hs : ∀ x, foldedSetIterable iter X.env x = pure x := by intro _; rfl) : QS X W (.For tg iter body [] pos) (wFor wi g wl) := by
  refine ⟨PS.wk (ps_for hp hc hi.pi hg.pg hb.pss hs) ?_⟩
  rintro D σ H ⟨env, G, De, er, wg, h, le⟩
  refine ⟨_, env, G, _, er, wg, h, fun items stay G1 H1 J p w1 x1 it => ?_, le.xle wg er⟩
  refine ⟨fun i m σ' H' => ∃ env' G', m = items.length - i ∧ i ≤ items.length ∧ ER X.K H' σ' env' ∧ WG X.K G' H' ∧ Ext G1 H1 G' H' ∧ forL stay g wl De (items.drop i) env' G', ⟨_, env, G1, rfl, Nat.zero_le _, er.ext wg x1, w1, Ext.refl, by simpa using p⟩, ?_⟩
  rintro i m σ' H' ⟨env', G', rfl, hle, er', w', x', f⟩
  cases q : items.drop i with
  | nil =>
    rw [q] at f
    have hl : items.length = i := Nat.le_antisymm (List.drop_eq_nil_iff.mp q) hle
    exact .inl ⟨it.stop i H' G' w' x' f.1 hl, le.nx _ _ _ _ f.2 er' w' (x1.trans x')⟩
  | cons d r =>
    rw [q] at f
    obtain ⟨hd, hr, hl⟩ := drop_cons q
    obtain ⟨jg, jy⟩ := it.go i H' G' d w' x' f.1 hd
    refine .inr ⟨jg, fun σ2 H2 => ∃ env2 G2, ER X.K H2 σ2 env2 ∧ WG X.K G2 H2 ∧ Ext G1 H1 G2 H2 ∧ forL stay g wl De r env2 G2, fun σ2 H2 ⟨env2, G2, e2, w2, x2, f2⟩ => ⟨items.length - (i + 1), by omega, env2, G2, rfl, hl, e2, w2, x2, by rw [hr]; exact f2⟩, fun y H2 hy => ?_⟩
    obtain ⟨w2, x2, rv⟩ := jy y H2 hy
    refine hg.sim _ _ _ _ ⟨d, env', G', _, rv, er'.ext w' x2, w2, f.2, fun env3 G3 σ3 H3 p3 e3 w3 x3 => ?_⟩
    have t3 := (x'.trans x2).trans x3
    exact ⟨env3, G3, _, e3, w3, p3, fun a b c d z e4 w4 x4 => ⟨a, b, e4, w4, t3.trans x4, z⟩, fun a b c d z e4 w4 x4 => le.nx _ _ _ _ z e4 w4 ((x1.trans t3).trans x4),
      fun a b c d z e4 w4 x4 => ⟨a, b, e4, w4, t3.trans x4, z⟩, fun a b c d z r4 w4 x4 => le.rt _ _ _ _ z r4 w4 ((x1.trans t3).trans x4), fun C fs a b c d xs H4 z e4 f4 r4 w4 x4 => le.ex _ _ _ _ _ _ _ _ z e4 f4 r4 w4 ((x1.trans t3).trans x4)⟩
/-- a loop by what holds between two turns -/
theorem forL_inv {stay : Gh → Prop} {g : DG} {wl : DS} {De : DEnds} {items : List DV} {env : Dv} {G : Gh} (Inv : Nat → Dv → Gh → Prop) (h0 : Inv 0 env G) (hs : ∀ i env G, i ≤ items.length → Inv i env G → stay G)
    (ht : ∀ i d env G (K : Dv → Gh → Prop), items[i]? = some d → i < items.length → Inv i env G → (∀ e g, Inv (i + 1) e g → K e g) → g d env G fun env1 G1 => wl { De with nx := K, ct := K, bk := De.nx } env1 G1)
    (he : ∀ env G, Inv items.length env G → De.nx env G) : forL stay g wl De items env G := by
  have key : ∀ k i env G, items.length - i = k → i ≤ items.length → Inv i env G → forL stay g wl De (items.drop i) env G := by
    intro k
    induction k with
    | zero =>
      intro i env G hk hi h
      have e : i = items.length := by omega
      subst e
      rw [List.drop_length]
      exact ⟨hs _ _ _ hi h, he _ _ h⟩
    | succ k ih =>
      intro i env G hk hi h
      have hl : i < items.length := by omega
      rw [List.drop_eq_getElem_cons hl]
      exact ⟨hs _ _ _ hi h, ht i _ env G _ (List.getElem?_eq_getElem hl) hl h fun e g p => ih (i + 1) e g (by omega) hl p⟩
  exact key _ 0 env G rfl (Nat.zero_le _) h0

/-! ### while -/
/-- a while by what holds ahead of each test, and a number that falls -/
def wWhile (c : DT) (wb : DS) : DS := fun D env G => ∃ (Inv : Nat → Dv → Gh → Prop), (∃ m, Inv m env G) ∧ ∀ m env G, Inv m env G →
  c (fun C fs G' => D.ex C fs env G') env G fun b G1 => if b = true then wb { D with nx := fun e g => ∃ m', m' < m ∧ Inv m' e g, ct := fun e g => ∃ m', m' < m ∧ Inv m' e g, bk := D.nx } env G1 else D.nx env G1
theorem qs_while {c : Expr} {body : List Stmt} {ta : DT} {wl : DS} (hp : PassesOwn (model X.prog X.w) X.A X.env X.xe) (hc : QT X W c ta) (hb : QSs X W body wl) : QS X W (.While c body [] pos) (wWhile ta wl) := by
  refine ⟨PS.wk (ps_while hp hc.pt hb.pss) ?_⟩
  rintro D σ H ⟨env, G, De, er, wg, ⟨Iv, ⟨m, i0⟩, step⟩, le⟩
  refine ⟨fun m σ' H' => ∃ env' G', ER X.K H' σ' env' ∧ WG X.K G' H' ∧ Ext G H G' H' ∧ Iv m env' G', ⟨m, env, G, er, wg, Ext.refl, i0⟩, ?_⟩
  rintro m σ' H' ⟨env', G', er', w', x', i'⟩
  refine ⟨_, env', G', _, er', w', step m env' G' i', fun b G2 H2 p w2 x2 => ?_, (le.step x').xle w' er'⟩
  have t2 := x'.trans x2
  cases b with
  | true =>
    simp only [if_true] at p ⊢
    exact ⟨fun σ3 H3 => ∃ m', m' < m ∧ ∃ env3 G3, ER X.K H3 σ3 env3 ∧ WG X.K G3 H3 ∧ Ext G H G3 H3 ∧ Iv m' env3 G3, fun σ3 H3 ⟨m', hm, z⟩ => ⟨m', hm, z⟩, env', G2, _, er'.ext w' x2, w2, p,
      fun a b c d ⟨m', hm, z⟩ e4 w4 x4 => ⟨m', hm, a, b, e4, w4, t2.trans x4, z⟩, fun a b c d z e4 w4 x4 => le.nx _ _ _ _ z e4 w4 (t2.trans x4), fun a b c d ⟨m', hm, z⟩ e4 w4 x4 => ⟨m', hm, a, b, e4, w4, t2.trans x4, z⟩,
      fun a b c d z r4 w4 x4 => le.rt _ _ _ _ z r4 w4 (t2.trans x4), fun C fs a b c d xs H4 z e4 f4 r4 w4 x4 => le.ex _ _ _ _ _ _ _ _ z e4 f4 r4 w4 (t2.trans x4)⟩
  | false =>
    simp only [Bool.false_eq_true, if_false] at p ⊢
    exact le.nx _ _ _ _ p (er'.ext w' x2) w2 t2

/-! ### comprehensions -/
structure QTs (X : Cx) (W : WX) (ifs : List Expr) (w : DT) : Prop where
  pts : PTs X ifs (TTl X.K W w)
def wYes : DT := fun _ _ G Q => Q true G
theorem qts_nil : QTs X W [] wYes := ⟨⟨fun a b c d q I ⟨Y, env, G, P, er, wg, h, k, kx⟩ => pts_nil.run a b c d q I (k _ _ _ h wg Ext.refl)⟩⟩
theorem qts_one {c : Expr} {t : DT} (h : QT X W c t) : QTs X W [c] t := ⟨pts_one h.pt⟩
def lcL (stay : Gh → Prop) (g : DG) (tt : DT) (te : DE) (env : Dv) (Q : DV → Gh → Prop) : List DV → List DV → Gh → Prop
  | [], acc, G => stay G ∧ ∀ p, G p = none → Q (.ref p) (gup G p (.lst acc))
  | x :: r, acc, G => stay G ∧ g x env G fun env1 G1 => tt (fun _ _ _ => False) env1 G1 fun b G2 => if b = true then te (fun _ _ _ => False) env1 G2 fun y G3 => acc.length < sizeLine ∧ lcL stay g tt te env Q r (acc ++ [y]) G3 else lcL stay g tt te env Q r acc G2
/-- a comprehension by what holds between two turns -/
theorem lcL_inv {stay : Gh → Prop} {g : DG} {tt : DT} {te : DE} {env : Dv} {Q : DV → Gh → Prop} {items : List DV} {G : Gh} (Inv : Nat → List DV → Gh → Prop) (h0 : Inv 0 [] G) (hs : ∀ i acc G, i ≤ items.length → Inv i acc G → stay G)
    (ht : ∀ i d acc G (K : List DV → Gh → Prop), items[i]? = some d → i < items.length → Inv i acc G → (∀ a g, Inv (i + 1) a g → K a g) →
      g d env G fun env1 G1 => tt (fun _ _ _ => False) env1 G1 fun b G2 => if b = true then te (fun _ _ _ => False) env1 G2 fun y G3 => acc.length < sizeLine ∧ K (acc ++ [y]) G3 else K acc G2)
    (he : ∀ acc G, Inv items.length acc G → ∀ p, G p = none → Q (.ref p) (gup G p (.lst acc))) : lcL stay g tt te env Q items [] G := by
  have key : ∀ k i acc G, items.length - i = k → i ≤ items.length → Inv i acc G → lcL stay g tt te env Q (items.drop i) acc G := by
    intro k
    induction k with
    | zero =>
      intro i acc G hk hi h
      have e : i = items.length := by omega
      subst e
      rw [List.drop_length]
      exact ⟨hs _ _ _ hi h, he _ _ h⟩
    | succ k ih =>
      intro i acc G hk hi h
      have hl : i < items.length := by omega
      rw [List.drop_eq_getElem_cons hl]
      exact ⟨hs _ _ _ hi h, ht i _ acc G _ (List.getElem?_eq_getElem hl) hl h fun e g p => ih (i + 1) e g (by omega) hl p⟩
  exact key _ 0 [] G rfl (Nat.zero_le _) h0
structure GOk (K : PySem.W.Frag) (vs : List Nat) (t : TG) (g : DG) : Prop where
  sim : ∀ v σ H Q, TGl K g v σ H Q → t v σ H Q
  kp : Keeps vs t
  mo : MonoG t
structure GsOk (K : PySem.W.Frag) (vs : List Nat) (n : Nat) (t : TGs) (g : DGs) : Prop where
  sim : ∀ v σ H Q, TGsl K g v σ H Q → t v σ H Q
  kp : KeepsS vs t
  mo : MonoGs t
  len : ∀ ds env G P, g ds env G P → ds.length = n
theorem gok_name {K : PySem.W.Frag} {vs : List Nat} {i : Nat} (h : i ∈ vs := by decide) : GOk K vs (gName i) (wgName i) := ⟨fun v σ H Q ⟨d, env, G, P, r, er, wg, h, k⟩ => k _ _ _ _ h (er.set r i) wg Ext.refl, keeps_name h, mono_name⟩
theorem gsok_nil {K : PySem.W.Frag} {vs : List Nat} : GsOk K vs 0 gNil wgNil := ⟨fun v σ H Q ⟨d, env, G, P, r, er, wg, h, k⟩ => by
  cases d with
  | nil => cases r; exact ⟨rfl, k _ _ _ _ h er wg Ext.refl⟩
  | cons => exact h.elim, keeps_nil, mono_nil, fun ds env G P h => by cases ds with | nil => rfl | cons => exact h.elim⟩
theorem gsok_cons {K : PySem.W.Frag} {vs : List Nat} {n : Nat} {t : TG} {ts : TGs} {g : DG} {gs : DGs} (h1 : GOk K vs t g) (h2 : GsOk K vs n ts gs) (mg : ∀ d env G P, g d env G P → ∃ e g', P e g') : GsOk K vs (n + 1) (gCons t ts) (wgCons g gs) :=
  ⟨fun v σ H Q ⟨d, env, G, P, r, er, wg, h, k⟩ => by
    cases d with
    | nil => exact h.elim
    | cons d ds =>
      cases r with
      | cons r1 r2 =>
        exact ⟨_, _, rfl, h1.sim _ _ _ _ ⟨d, env, G, _, r1, er, wg, h, fun env' G' σ' H' p e' w' x' => h2.sim _ _ _ _ ⟨ds, env', G', P, r2.ext wg x', e', w', p, fun a b c q p2 e2 w2 x2 => k a b c q p2 e2 w2 (x'.trans x2)⟩⟩⟩,
    keeps_cons h1.mo h2.mo h1.kp h2.kp, mono_cons h1.mo h2.mo, fun ds env G P h => by
      cases ds with
      | nil => exact h.elim
      | cons d ds => obtain ⟨e, g', q⟩ := mg _ _ _ _ h; simp [h2.len _ _ _ _ q]⟩
theorem live_name {i : Nat} : ∀ d env G (P : Dv → Gh → Prop), wgName i d env G P → ∃ e g', P e g' := fun _ _ _ _ h => ⟨_, _, h⟩
theorem live_nil : ∀ d env G (P : Dv → Gh → Prop), wgNil d env G P → ∃ e g', P e g' := fun d _ _ _ h => by cases d with | nil => exact ⟨_, _, h⟩ | cons => exact h.elim
theorem live_cons {g : DG} {gs : DGs} (h1 : ∀ d env G (P : Dv → Gh → Prop), g d env G P → ∃ e g', P e g') (h2 : ∀ d env G (P : Dv → Gh → Prop), gs d env G P → ∃ e g', P e g') : ∀ d env G (P : Dv → Gh → Prop), wgCons g gs d env G P → ∃ e g', P e g' := fun d _ _ _ h => by
  cases d with
  | nil => exact h.elim
  | cons d ds => obtain ⟨e, g', q⟩ := h1 _ _ _ _ h; exact h2 _ _ _ _ q
theorem live_tup {gs : DGs} (h2 : ∀ d env G (P : Dv → Gh → Prop), gs d env G P → ∃ e g', P e g') : ∀ d env G (P : Dv → Gh → Prop), wgTup gs d env G P → ∃ e g', P e g' := fun d _ _ _ h => by
  cases d <;> first | exact h.elim | exact h2 _ _ _ _ h
theorem gok_tup {K : PySem.W.Frag} {vs : List Nat} {n : Nat} {ts : TGs} {gs : DGs} (h : GsOk K vs n ts gs) : GOk K vs (gTup K n ts) (wgTup gs) :=
  ⟨fun v σ H Q ⟨d, env, G, P, r, er, wg, hh, kk⟩ => by
    cases d <;> first | exact hh.elim | skip
    cases r with
    | tup sq rs => exact ⟨_, _, rfl, SqT.of sq, by rw [rs.len]; exact h.len _ _ _ _ hh, h.sim _ _ _ _ ⟨_, env, G, P, rs, er, wg, hh, kk⟩⟩, keeps_tup h.kp, mono_tup h.mo⟩
def wLc (vs : List Nat) (wi : DI) (g : DG) (tt : DT) (te : DE) : DE := fun Y env G Q => wi Y env G fun items stay G1 => lcL stay g tt te (wipeD env vs) Q items [] G1
theorem lc_parts {K : PySem.W.Frag} {vs : List Nat} {wi : DI} {t : TG} {g : DG} {tt : DT} {te : DE} (go : GOk K vs t g) {σ : L2.St} {H : Hp} {Q : VK} (h : TEl K W (wLc vs wi g tt te) σ H Q) :
    tLc (TIl K W wi) t (TTl K W0 tt) (TEl K W0 te) vs σ H Q := by
  obtain ⟨Y, env, G, P, er, wg, h, k, kx⟩ := h
  refine ⟨Y, env, G, _, er, wg, h, fun items stay G1 H1 J p w1 x1 it D hD => ?_, kx⟩
  refine ⟨fun i m H' => ∃ G' acc ad, m = items.length - i ∧ i ≤ items.length ∧ H' D = some (.lst acc) ∧ VRs K H' acc ad ∧ WG K G' H' ∧ G' D = none ∧ Ext G1 H1 G' H' ∧ lcL stay g tt te (wipeD env vs) P (items.drop i) ad G',
    ⟨_, G1, [], [], rfl, Nat.zero_le _, upd_same, .nil, w1.new hD, w1.non hD, Ext.new hD, by simpa using p⟩, ?_⟩
  rintro i m H' ⟨G', acc, ad, rfl, hle, eD, ra, w', nD, x', f⟩
  cases q : items.drop i with
  | nil =>
    rw [q] at f
    have hl : items.length = i := Nat.le_antisymm (List.drop_eq_nil_iff.mp q) hle
    refine .inl ⟨it.stop i H' G' w' x' f.1 hl, k _ _ _ _ (f.2 D nD) (fun a c e => ?_) (fun a o e n => ?_) (.ref D)⟩
    · by_cases ha : a = D
      · subst ha
        rw [gup_same] at e; cases e
        exact ⟨acc, eD, ra⟩
      · rw [gup_ne ha] at e
        exact w' a c e
    · obtain ⟨e2, n2⟩ := (x1.trans x') a o e n
      obtain ⟨e3, _⟩ := x1 a o e n
      have ha : a ≠ D := by rintro rfl; rw [hD] at e3; cases e3
      exact ⟨e2, by rw [gup_ne ha]; exact n2⟩
  | cons d r =>
    rw [q] at f
    obtain ⟨hd, hr, hl⟩ := drop_cons q
    obtain ⟨jg, jy⟩ := it.go i H' G' d w' x' f.1 hd
    refine .inr ⟨jg, fun H2 => ∃ G2 acc2 ad2, H2 D = some (.lst acc2) ∧ VRs K H2 acc2 ad2 ∧ WG K G2 H2 ∧ G2 D = none ∧ Ext G1 H1 G2 H2 ∧ lcL stay g tt te (wipeD env vs) P r ad2 G2,
      fun H2 ⟨G2, acc2, ad2, a1, a2, a3, a4, a5, a6⟩ => ⟨items.length - (i + 1), by omega, G2, acc2, ad2, rfl, hl, a1, a2, a3, a4, a5, by rw [hr]; exact a6⟩, fun y H2 hy => ?_⟩
    obtain ⟨w2, x2, rv⟩ := jy y H2 hy
    obtain ⟨eD2, nD2⟩ := x2 D _ eD nD
    have ew : ER K H' σ env := er.ext wg (x1.trans x')
    refine go.mo _ _ _ _ _ (go.kp _ _ _ _ (go.sim _ _ _ _ ⟨d, wipeD env vs, G', _, rv, (ew.wipe vs).ext w' x2, w2, f.2, fun env3 G3 σ3 H3 p3 e3 w3 x3 => (?_ : TTl K W0 tt σ3 H3 _)⟩)) fun σ3 H3 ⟨q3, e3⟩ => ⟨e3.trans (wipe_wipe vs), q3⟩
    refine ⟨_, env3, G3, _, e3, w3, p3, fun b G4 H4 p4 w4 x4 => ?_, xle0⟩
    have t4 := (x2.trans x3).trans x4
    obtain ⟨eD4, nD4⟩ := t4 D _ eD nD
    cases b with
    | false =>
      simp only [Bool.false_eq_true, if_false] at p4 ⊢
      exact ⟨G4, acc, ad, eD4, ra.ext w' t4, w4, nD4, x'.trans t4, p4⟩
    | true =>
      simp only [if_true] at p4 ⊢
      refine ⟨_, env3, G4, _, e3.ext w3 x4, w4, p4, fun z G5 vz H5 p5 w5 x5 r5 => ?_, xle0⟩
      have t5 := t4.trans x5
      obtain ⟨eD5, nD5⟩ := t5 D _ eD nD
      have ra5 := ra.ext w' t5
      -- the new list is a cell for a moment
      have wp : WG K (gup G5 D (.lst ad)) H5 := fun a c e => by
        by_cases ha : a = D
        · subst ha
          rw [gup_same] at e; cases e
          exact ⟨acc, eD5, ra5⟩
        · rw [gup_ne ha] at e
          exact w5 a c e
      have r6 : VRs K H5 (acc ++ [vz]) (ad ++ [z]) := ra5.app (.one r5)
      have xp : Ext (gup G5 D (.lst ad)) H5 (gup (gup G5 D (.lst ad)) D (.lst (ad ++ [z]))) (upd H5 D (.lst (acc ++ [vz]))) := Ext.setC gup_same
      refine ⟨acc, eD5, by rw [ra.len]; exact p5.1, G5, acc ++ [vz], ad ++ [z], upd_same, r6.ext wp xp, ?_, nD5, fun a o e n => ?_, p5.2⟩
      · refine (wp.setL gup_same r6).less fun a c e => ?_
        have ha : a ≠ D := by rintro rfl; rw [nD5] at e; cases e
        rw [gup_ne ha, gup_ne ha]; exact e
      · obtain ⟨e6, n6⟩ := (x'.trans t5) a o e n
        have ha : a ≠ D := by rintro rfl; rw [hD] at e; cases e
        exact ⟨by rw [upd_ne ha]; exact e6, n6⟩
theorem q_lc {elt tg iter : Expr} {ifs : List Expr} {scope : Scope} (own : List (Str × Nat)) {wi : DI} {t : TG} {g : DG} {tt : DT} {te : DE} (hc : X.calm = true) (hN : X.N.Nodup) (hi : QI X W tg iter wi) (ok : blkC X.N X.env.scope scope own = true)
    (hg : ∀ (s : Shared) (H : Hp) (C : Addr) (cl : List (Str × Addr)) (fp : List Addr), PG (X.blk s H scope (compEnvC scope cl C X.env) fp) tg t) (go : GOk X.K (own.map (·.2)) t g)
    (ht : ∀ (s : Shared) (H : Hp) (C : Addr) (cl : List (Str × Addr)) (fp : List Addr), QTs (X.blk s H scope (compEnvC scope cl C X.env) fp) W0 ifs tt)
    (he : ∀ (s : Shared) (H : Hp) (C : Addr) (cl : List (Str × Addr)) (fp : List Addr), QE (X.blk s H scope (compEnvC scope cl C X.env) fp) W0 elt te) (hs : ∀ x, foldedSetIterable iter X.env x = pure x := by intro _; rfl) :
    QE X W (.ListComp elt [⟨tg, iter, ifs, 0⟩] scope pos) (wLc (own.map (·.2)) wi g tt te) :=
  ⟨PE.wk (pe_lc hc hN hi.pi (blkOk_by ok) hg (fun a b c d f => (ht a b c d f).pts) (fun a b c d f => (he a b c d f).pe) hs) fun σ H Q h => lc_parts go h⟩
end
end DL

namespace DL
open PySem PySem.Spec L2
open PyProof.Rows hiding St

/-! ### what an error leaves: its class, its dict; no context, but of the one class that is raised while another error is handled -/
def Loose (mg : Str → Option Value) (c : Value) : Prop := mg "NoFault" = some c
abbrev loosely (mg : Str → Option Value) (W : WX) : WX := fun c d σ H => Loose mg c ∧ W c d σ H
structure Takes (X : Cx) (W : WX) : Prop where
  n : L2N.Takes X W
  c : L2.Takes X (loosely X.mg W)
def CXm (P : Program) (w : World) (mg : Str → Option Value) : CXT := fun outer H s E u s' => L2N.CX P w outer H s E u s' ∨ L2.CX P w outer H s (fun c d H' => Loose mg c ∧ E c d H') u s'
theorem takes0 {X : Cx} : Takes X (fun _ _ _ _ => False) := ⟨fun _ _ z => by
  obtain ⟨_, _, _, _, _, _, _, _, _, _, _, _, _, _, _, _, n⟩ := z
  exact n.elim, fun _ _ z => by
  obtain ⟨_, _, _, _, _, _, _, _, _, _, _, _, _, _, _, _, n⟩ := z
  exact n.2.elim⟩
theorem passAt {X : Cx} {W : WX} (tk : Takes X W) (σ : L2.St) : PassesAt (CXm X.prog X.w X.mg) X σ (WE W σ) := fun pins H s e s' I c => by
  rcases c with c | c
  · exact L2N.passAt tk.n σ pins H s e s' I c
  · exact L2.passAt tk.c σ pins H s e s' I c
theorem takes_of {X : Cx} {E : XK} (hs : X.stack = X.env :: X.outer) (hf : X.env.frame = some X.env.locals) (hex : X.ex = []) {E₁ : Value → Shared → Prop}
    (hx : X.xe = fun e s' => wpAny (model X.prog X.w) X.A (leaving X.env e) (fun _ s'' => CXm X.prog X.w X.mg X.outer X.H_0 X.s_0 E e s'') E₁ s') : Takes X (fun cls d _ H => E cls d H) := by
  refine ⟨fun u s' x => ?_, fun u s' x => ?_⟩
  · rw [hx]
    exact wpAny_mono (L2N.XE.leave (E := E) hs hf hex (fun _ _ _ _ h => h) x) (fun _ _ q => .inl q) fun _ _ q => q
  · rw [hx]
    exact wpAny_mono (L2.XE.leave (E := fun c d H => Loose X.mg c ∧ E c d H) hs hf hex (fun _ _ _ _ h => h) x) (fun _ _ q => .inr q) fun _ _ q => q
/-! ### defs: their promises at the data level; no object is being shown meanwhile -/
abbrev DF := List DV → Gh → (DV → Gh → Prop) → DX → Prop
def liftF (K : PySem.W.Frag) (d : DF) : Sp := fun vs H Q E => ∃ ds G P Y, VRs K H vs ds ∧ WG K G H ∧ d ds G P Y ∧
  (∀ r G' v H', P r G' → WG K G' H' → Ext G H G' H' → VR K H' v r → Q v H') ∧ XLe K G H Y E
structure FG (P : Program) (w : World) (K : PySem.W.Frag) (mg : Str → Option Value) (base : Heap) (k : Nat) (f : Addr) (fd : FuncData) (ps : List Str) (d : DF) : Prop where
  len : ∀ ds G Q Y, d ds G Q Y → ds.length = ps.length
  run : ∀ (A : Around) (outer : List Env) (s : Shared) (H : Hp) (args : Args) (us : List Value) (vs : List V) (Q : VK) (E : XK), A.guards = some [] → Room k A → Env0 P w K mg base A outer s H →
    BindsTo s fd args (ps.zip us) → Vals vs us → liftF K d vs H Q E → codeAny (model P w) A (.call (.ref f) args) (CR (CXm P w mg) outer P w H s Q E) s
theorem FG.up {P : Program} {w : World} {K : PySem.W.Frag} {mg : Str → Option Value} {base : Heap} {j k : Nat} {f : Addr} {fd : FuncData} {ps : List Str} {d : DF} (F : FG P w K mg base j f fd ps d) (h : j ≤ k) : FG P w K mg base k f fd ps d :=
  ⟨F.len, fun A o s H a us vs Q E hg hr => F.run A o s H a us vs Q E hg (hr.mono h)⟩
section
variable {X : Cx} {W : WX} {k : Nat} {f : Addr} {fd : FuncData} {ps : List Str} {d : DF} {x : Str} {p pos : Pos} {e : Expr} {es : List Expr} {wr : DA}
/-- one call -/
theorem run_call {pins : List (Addr × Obj)} {σ : L2.St} {H : Hp} {s : Shared} {Q : VK} {us : List Value} {vs : List V} (F : FG X.prog X.w X.K X.mg X.base k f fd ps d) (hg : X.A.guards = some []) (hr : Room k X.A) (hb : Binds X.K fd ps [])
    (tk : Takes X W) (I : Inv X pins σ H s) (r : Vals vs us) (h : liftF X.K d vs H Q (WE W σ)) : wpAny (model X.prog X.w) X.A (call (.ref f) us) (EP X pins σ Q) X.xe s := by
  have hl : us.length = ps.length := by
    obtain ⟨ds, G, P, Y, rv, _, hd, _⟩ := h
    rw [← r.length, rv.len, F.len _ _ _ _ hd]
  have bb := hb s us I.kIn (by rw [List.append_nil]; exact hl)
  rw [List.append_nil] at bb
  refine wpAny_call (codeAny_mono (F.run X.A X.stack s H ⟨us, []⟩ us vs Q (WE W σ) hg hr I.env0 bb r h) ?_)
  intro res s' hres
  match res, hres with
  | .error er, hres => exact passAt tk σ pins H s er s' I hres
  | .ok (.ret u), hres => exact I.after hres
  | .ok .next, hres => exact hres.elim
  | .ok .brk, hres => exact hres.elim
  | .ok .cont, hres => exact hres.elim
def wCall (d : DF) (wr : DA) : DE := fun Y env G Q => wr Y env G fun ds G1 => d ds G1 Q Y
theorem q_call (F : FG X.prog X.w X.K X.mg X.base k f fd ps d) (hgd : X.A.guards = some []) (hr : Room k X.A) (hm : X.mg x = some (.ref f)) (hk : PySem.W.keepIn X.K (.ref f) = true) (hb : Binds X.K fd ps []) (tk : Takes X W)
    (ha : QA X W (e :: es) wr) (hg : Gl X x := by rfl) (hdb : (x == ("__debug__" : Str)) = false := by decide) (he : starEach (e :: es) X.env = (false, eval e X.env) :: starEach es X.env := by rfl) (hpl : (backTo pos (starEach es X.env)).any (·.1) = false := by rfl) :
    QE X W (.Call (.Name x p) (e :: es) [] pos) (wCall d wr) := by
  refine ⟨⟨?_⟩⟩
  rintro pins s σ H Q I ⟨Y, env, G, P, er, wg, h, kq, kx⟩
  refine wpAny_Call_Name_kw (ld_glob I hg hm ?_ hdb)
  refine PySem.W.callWith_K (h₀ := X.base) I.ok.mod.kin hk ?_ he hpl
  refine thn (ha.pa.run pos pins s σ H (fun vs H1 => liftF X.K d vs H1 Q (WE W σ)) I ⟨Y, env, G, _, er, wg, h, fun ds G1 vs H1 h1 w1 x1 r1 => ?_, kx⟩) ?_
  · exact ⟨ds, G1, P, Y, r1, w1, h1, fun r G' v H' q w' x' r' => kq r G' v H' q w' (x1.trans x') r', kx.step x1⟩
  · rintro us s1 ⟨vs, H1, I1, r, q⟩
    exact ⟨I1.kIn, run_call F hgd hr hb tk I1 r q⟩
theorem q_call0 (F : FG X.prog X.w X.K X.mg X.base k f fd ps d) (hgd : X.A.guards = some []) (hr : Room k X.A) (hm : X.mg x = some (.ref f)) (hk : PySem.W.keepIn X.K (.ref f) = true) (hb : Binds X.K fd ps []) (tk : Takes X W)
    (hg : Gl X x := by rfl) (hdb : (x == ("__debug__" : Str)) = false := by decide) : QE X W (.Call (.Name x p) [] [] pos) (wCall d wNil) := by
  refine ⟨⟨?_⟩⟩
  rintro pins s σ H Q I ⟨Y, env, G, P, er, wg, h, kq, kx⟩
  refine wpAny_Call_Name_kw (ld_glob I hg hm ?_ hdb)
  exact PySem.W.callWith_K0 I.kIn hk (run_call (us := []) (vs := []) F hgd hr hb tk I .nil ⟨[], G, P, Y, .nil, wg, h, kq, kx⟩)
end

/-! ### a def's body -/
section
variable {P : Program} {w : World} {K : PySem.W.Frag} {mg : Str → Option Value} {base : Heap}
/-- what a body's ends are: it comes to its end, or hands back -/
def bodyEnds (Q : DV → Gh → Prop) (Y : DX) : DEnds := { nx := fun _ G => Q .non G, rt := Q, ex := fun C fs _ G => Y C fs G }
def start0 (n : Nat) (ds : List DV) : Dv := ds.map some ++ List.replicate (n - ds.length) none
/-- the wish of a def's body about exceptions -/
abbrev WD (E : XK) : WX := fun c d _ H => E c d H
theorem fg_of {x qual : Str} {st : Stmt} {f : Addr} {fd : FuncData} {N ps : List Str} {k : Nat} {d : DF} {wb : DS} (F : Fun K x qual st f fd) (S : FnScope N ps (defScope st)) (len : ∀ ds G Q Y, d ds G Q Y → ds.length = ps.length)
    (hbody : ∀ (cdv : Value) (A : Around) (outer : List Env) (s : Shared) (H : Hp) (E : XK), (A.deeper (envOfC qual (defScope st) s.heap.objs.size f cdv)).guards = some [] → Room k (A.deeper (envOfC qual (defScope st) s.heap.objs.size f cdv)) →
      QSs (cxOf (CXm P w mg) P w K mg base N qual (defScope st) f cdv A outer s H E) (WD E) (defBody st) wb)
    (hq : ∀ ds G Q Y, d ds G Q Y → wb (bodyEnds Q Y) (start0 N.length ds) G) : FG P w K mg base (k + 1) f fd ps d := by
  obtain ⟨oc, od, kV, doc, pm, an, cdv, ct, osl, rfl, lk, hcd⟩ := F.ex
  refine ⟨len, ?_⟩
  intro A outer s H args us vs Q E hgd hr e0 hb r hsp
  obtain ⟨ds, G, Pq, Y, rv, wg, hd, kq, kx⟩ := hsp
  have hl : vs.length = ps.length := rv.len.trans (len _ _ _ _ hd)
  have inK : K.In s.heap := e0.mod.kin.keeps fun b o q => (e0.bs b o q).1
  have nolim : s.heap.NoLimit := e0.mod.nolimit.keeps fun b o q => (e0.bs b o q).1
  have named : ∀ y ∈ ps.zip us, (defScope st).names.lookup y.1 = some .local ∨ ((defScope st).names.lookup y.1 = some .cell ∧ ((cellsFrom (s.heap.objs.size + 1) (defScope st).names []).lookup y.1).isSome = true) := by
    intro y hy
    have hm : y.1 ∈ ps := (List.of_mem_zip (show (y.1, y.2) ∈ ps.zip us from hy)).1
    exact (S.par y.1 hm).imp id fun q => ⟨q, PySem.W.cellsFrom_some _ _ _ (.inl q)⟩
  refine codeAny_call_function hr.depth (inK _ _ lk) rfl S.co S.gen rfl (PySem.W.codeRec_of inK hcd) (hb _ _ _ _ ?_)
  refine wpAny_newFunctionEnv_cells S.kind named ?_
  intro env henv s1 ic
  subst henv
  refine ⟨nolim.keeps ic.toInCall.keep, codeAny_func ?_⟩
  have body := hbody cdv A outer s H E hgd (hr.deeper _)
  have I := inv_start (CX := CXm P w mg) (E := E) S hr.hd e0 hl r ic
  refine wpAny_mono (body.pss.run [] s1 (start N vs) H { nx := fun _ H' => Q .non H', rt := Q } I ?_) ?_ fun _ _ z => z
  · refine ⟨start0 N.length ds, G, bodyEnds Pq Y, ?_, wg, hq _ _ _ _ hd, ?_⟩
    · show ER K H (vs.map some ++ List.replicate (N.length - vs.length) none) _
      rw [rv.len]
      exact ER.start rv _
    · exact ⟨fun env G' σ H' q er wg' x' => kq _ _ _ _ q wg' x' .non, fun _ _ _ _ z => z.elim, fun _ _ _ _ z => z.elim, fun r' G' v H' q r wg' x' => kq _ _ _ _ q wg' x' r,
        fun C fs env G' σ dd xs H' q e fr er wg' x' => kx C fs G' dd xs H' q e fr wg' x'⟩
  · intro fl s' hs
    match fl, hs with
    | .ret u, ⟨v, σ', H', J, rv', q⟩ => exact ⟨v, H', J.os, J.bare, J.base, J.hok, rv', q⟩
    | .next, ⟨σ', H', J, q⟩ => exact ⟨V.non, H', J.os, J.bare, J.base, J.hok, rfl, q⟩
    | .brk, ⟨_, _, _, q⟩ => exact q.elim
    | .cont, ⟨_, _, _, q⟩ => exact q.elim
end

/-! ### the law's own call -/
/-- what a law promises: of a list of at most 63 ints it tells True -/
def lawD : DF := fun ds G Q _ => ∃ ns : List Int, ds = [.ro (ns.map DV.int)] ∧ ns.length ≤ 63 ∧ (G = fun _ => none) ∧ ∀ G', Q (.bl true) G'
section
variable {P : Program} {w : World} {K : PySem.W.Frag} {mg mb : Str → Option Value} {k : Nat} {fa a : Addr} {fd : FuncData} {x : Str} {s1 : Shared} {vs : List Value} {ns : List Int}
theorem law_enter (inK : K.In s1.heap) (gl : s1.heap.Ns mainGlobals mg) (bl : s1.heap.Ns builtinsNs mb) (blv : ∀ x : Str, x ≠ "__name__" → mb x = bootBuiltins x) (nolim : s1.heap.NoLimit) (nog : s1.gens = #[])
    (at_ : s1.heap.get? a = some { cls := .type "list", data := .seq vs.toArray }) (hints : PyProof.Rows.IntsAre vs ns) (few : ns.length ≤ 63) (room : Room k callerA)
    (F : ∀ base : Heap, K.In base → base.Ns mainGlobals mg → FG P w K mg base k fa fd [x] lawD) (binds : ∀ (s : Shared) (u : Value), BindsTo s fd ⟨[u], []⟩ [(x, u)]) :
    codeAny (model P w) callerA (.call (.ref fa) ⟨[.ref a], []⟩) (fun r s' => r = .ok (.ret (.bool true)) ∧ OldK s1.heap s'.heap ∧ s'.os = s1.os ∧ AllBare s'.gens) s1 := by
  have line : ns.length ≤ sizeLine := Nat.le_trans few (by decide)
  have vr := vals_ints hints
  have cnt := hints.length
  have sat : ∃ H : Hp, (∀ b u, H b = some u → b = a ∧ u = .frz { cls := .type "list", data := .seq vs.toArray } (.lst (ns.map V.int)) ∧ K.lookup a = none) ∧ RoL K H a (ns.map V.int) := by
    cases q : K.lookup a with
    | none =>
      refine ⟨fun b => if b = a then some (.frz { cls := .type "list", data := .seq vs.toArray } (.lst (ns.map V.int))) else none, fun b u e => ?_, .inl ⟨{ cls := .type "list", data := .seq vs.toArray }, if_pos rfl⟩⟩
      by_cases hb : b = a
      · simp only [hb, if_true] at e
        exact ⟨hb, (Option.some.inj e).symm, rfl⟩
      · simp [hb] at e
    | some o =>
      have same := inK a o q
      rw [at_] at same
      cases same
      refine ⟨fun _ => none, fun b u e => (nomatch e), .inr (.inr ⟨_, vs.toArray, _, q, rfl, rfl, rfl, ?_, ?_⟩)⟩
      · rw [List.size_toArray, cnt]; exact line
      · simpa using vr
  obtain ⟨H, only, ro⟩ := sat
  have hok : HOk P w H s1.heap := by
    intro b u e
    obtain ⟨rfl, rfl, _⟩ := only b u e
    exact ⟨at_, by rw [List.length_map]; exact line, vs, _, vr, at_⟩
  have notDict : ∀ {b : Addr} {o : Obj} {es : Array DictEntry} {n : Nat}, s1.heap.get? b = some o → o.data = .dict es n → H b = none := by
    intro b o es n e d
    cases q : H b with
    | none => rfl
    | some u =>
      obtain ⟨rfl, _, _⟩ := only b u q
      rw [at_] at e; cases e
      cases d
  have nsb : ∀ {b : Addr} {m : Str → Option Value}, s1.heap.Ns b m → (hidT s1.heap H).Ns b m := by
    rintro b m ⟨o, es, n, e, d, r⟩
    exact ⟨o, es, n, hidT_get e (notDict e d), d, r⟩
  have inB : K.In (hidT s1.heap H) := by
    intro b o e
    refine hidT_get (inK b o e) ?_
    cases q : H b with
    | none => rfl
    | some u =>
      obtain ⟨rfl, _, z⟩ := only b u q
      rw [z] at e; cases e
  have md : Mod K mg (hidT s1.heap H) := by
    refine ⟨inB, nsb gl, ⟨mb, nsb bl, blv⟩, ?_⟩
    obtain ⟨mc, l1, l2⟩ := nolim
    exact ⟨mc, nsb l1, l2⟩
  have env0 : Env0 P w K mg (hidT s1.heap H) callerA [] s1 H := by
    refine ⟨rfl, md, fun b o e => of_hidT e, Nat.le_of_eq (hidT_size _ _), trivial, fun b hb => ?_, hok, .of_eq nog⟩
    exact absurd (show b ∈ ([] : List Addr) from hb) (by simp)
  have wg : WG K (fun _ => none) H := fun a c e => (nomatch e)
  have sp : liftF K lawD [.ref a] H (fun v _ => v = .bl true) fun _ _ _ => False := by
    refine ⟨[.ro (ns.map DV.int)], fun _ => none, fun d _ => d = .bl true, fun _ _ _ => False, .cons (.ro ro (VRs.ints ns)) .nil, wg, ⟨ns, rfl, few, rfl, fun _ => rfl⟩, ?_, xle0⟩
    rintro r G' v H' rfl _ _ rv
    cases rv
    rfl
  refine codeAny_mono ((F _ inB (nsb gl)).run callerA [] s1 H ⟨[.ref a], []⟩ [.ref a] [.ref a] _ _ rfl room env0 (binds s1 (.ref a)) (.cons rfl .nil) sp) ?_
  intro res s' hres
  match res, hres with
  | .error er, hres =>
    rcases hres with ⟨_, _, _, _, _, _, _, _, _, _, _, _, z⟩ | ⟨_, _, _, _, _, _, _, _, _, _, _, _, _, z⟩
    · exact z.elim
    · exact z.elim
  | .ok .next, hres => exact hres.elim
  | .ok .brk, hres => exact hres.elim
  | .ok .cont, hres => exact hres.elim
  | .ok (.ret u), ⟨v, H', os, bare, un, hok', rv, q⟩ =>
    have q' : v = .bl true := q
    subst q'
    cases (show u = Value.bool true from rv)
    refine ⟨rfl, OldK.of_keep fun b o e => ?_, os, bare⟩
    cases z : H b with
    | none => exact un.keep b o e z (fun y => absurd (show b ∈ ([] : List Addr) from y) (by simp)) (by simp)
    | some y =>
      obtain ⟨rfl, rfl, _⟩ := only b y z
      have z2 := un.frzs b _ _ z
      obtain ⟨e1, _⟩ := hok' b _ z2
      rw [at_] at e; cases e
      exact e1
end
/-- the goal behind the head -/
theorem law_walk {l : PySem.W.OpenLaw} {k : Nat} {q : Program} {loose : List Str} {XP : (Str → Option Value) → Heap → Prop} {YP : World → Heap → Prop} {d : DefRec} {K : Params → PySem.W.Frag} {x : Str}
    (hn : l.most = some 63) (hdf : d.params.defaults = []) (hr : Room k callerA) (hY : ∀ (w : World) (h : Heap), YP w h → (K w.params).In h)
    (F : ∀ (w : World) (mg : Str → Option Value) (fa : Addr) (h : Heap), (K w.params).In h → h.Ns mainGlobals mg → mg d.name = some (.ref fa) →
      ∃ fd : FuncData, (∀ (s : Shared) (u : Value), BindsTo s fd ⟨[u], []⟩ [(x, u)]) ∧ ∀ base : Heap, (K w.params).In base → base.Ns mainGlobals mg → FG l.prog w (K w.params) mg base k fa fd [x] lawD) :
    PySem.W.WalkO q loose XP YP l.row.toRowW d [] (fun f vs => PySem.call f vs) := by
  refine Att.attach_call hn hdf ?_
  intro w s₀ s₁ mg mb fa o pm cd doc a vs ns G Y ho hd hcd hmg hobj hints hlen hg
  have inK := hY w _ Y
  obtain ⟨fd, bd, hF⟩ := F w mg fa _ inK G.T.g hmg
  exact law_enter inK G.T.g G.T.b G.T.builtins G.T.nolimit hg hobj hints hlen hr hF bd
end DL

namespace DL
open PySem PySem.Spec L2
open PyProof.Rows hiding St

/-! ### reading data off the heap -/
mutual
inductive DR (G : Gh) : DV → PyData → Prop
  | non : DR G .non .none
  | bl (b : Bool) : DR G (.bl b) (.bool b)
  | int (i : Int) : DR G (.int i) (.int i)
  | str (x : Str) : DR G (.str x) (.str x)
  | tup {l : List DV} {ds : List PyData} : DRs G l ds → DR G (.tup l) (.tuple ds)
  | ro {l : List DV} {ds : List PyData} : DRs G l ds → DR G (.ro l) (.list ds)
  | ref {a : Addr} {l : List DV} {ds : List PyData} : G a = some (.lst l) → DRs G l ds → DR G (.ref a) (.list ds)
inductive DRs (G : Gh) : List DV → List PyData → Prop
  | nil : DRs G [] []
  | cons {d : DV} {l : List DV} {e : PyData} {ds : List PyData} : DR G d e → DRs G l ds → DRs G (d :: l) (e :: ds)
end
section
variable {K : PySem.W.Frag} {H : Hp} {G : Gh}
mutual
theorem DR.dp (w : WG K G H) : ∀ {e : PyData} {d : DV} {v : V}, DR G d e → VR K H v d → Dp K H v e
  | .none, _, _, h, r => by cases h; cases r; exact .non
  | .bool b, _, _, h, r => by cases h; cases r; exact .bl b
  | .int i, _, _, h, r => by cases h; cases r; exact .int i
  | .str x, _, _, h, r => by cases h; cases r; exact .str x
  | .tuple ds, _, _, h, r => by
    cases h with
    | tup hs => cases r with
      | tup sq rs => exact .tup (SqT.of sq) (DRs.dp w hs rs)
  | .list ds, _, _, h, r => by
    cases h with
    | ro hs => cases r with
      | ro sq rs => exact .lst sq.sq (DRs.dp w hs rs)
    | ref e hs =>
      cases r
      obtain ⟨xs, e2, rs⟩ := w _ _ e
      exact .lst (SqL.of e2) (DRs.dp w hs rs)
  | .dict _, _, _, h, _ => by cases h
theorem DRs.dp (w : WG K G H) : ∀ {es : List PyData} {ds : List DV} {vs : List V}, DRs G ds es → VRs K H vs ds → DpAll K H vs es
  | [], _, _, h, r => by cases h; cases r; exact .nil
  | e :: es, _, _, h, r => by
    cases h with
    | cons h1 h2 => cases r with
      | cons r1 r2 => exact .cons (DR.dp w h1 r1) (DRs.dp w h2 r2)
end
end
/-- values without addresses -/
def DV.pure : DV → Bool
  | .ref _ => false
  | .ty _ => false
  | .exc .. => false
  | .kt _ => false
  | .tup l => l.attach.all fun ⟨d, _⟩ => d.pure
  | .ro l => l.attach.all fun ⟨d, _⟩ => d.pure
  | _ => true
def DV.pd : DV → PyData
  | .non => .none
  | .bl b => .bool b
  | .int i => .int i
  | .str s => .str s
  | .tup l => .tuple (l.attach.map fun ⟨d, _⟩ => d.pd)
  | .ro l => .list (l.attach.map fun ⟨d, _⟩ => d.pd)
  | .ref _ => .none
  | .ty _ => .none
  | .exc .. => .none
  | .kt _ => .none
@[simp] theorem pd_non : DV.non.pd = .none := by simp [DV.pd]
@[simp] theorem pd_bl {b : Bool} : (DV.bl b).pd = .bool b := by simp [DV.pd]
@[simp] theorem pd_int {i : Int} : (DV.int i).pd = .int i := by simp [DV.pd]
@[simp] theorem pd_str {i : Str} : (DV.str i).pd = .str i := by simp [DV.pd]
@[simp] theorem pd_tup {l : List DV} : (DV.tup l).pd = .tuple (l.map DV.pd) := by simp [DV.pd]
@[simp] theorem pd_ro {l : List DV} : (DV.ro l).pd = .list (l.map DV.pd) := by simp [DV.pd]
@[simp] theorem pure_non : DV.non.pure = true := by simp [DV.pure]
@[simp] theorem pure_bl {b : Bool} : (DV.bl b).pure = true := by simp [DV.pure]
@[simp] theorem pure_int {i : Int} : (DV.int i).pure = true := by simp [DV.pure]
@[simp] theorem pure_str {i : Str} : (DV.str i).pure = true := by simp [DV.pure]
@[simp] theorem pure_tup {l : List DV} : (DV.tup l).pure = l.all DV.pure := by simp [DV.pure]
@[simp] theorem pure_ro {l : List DV} : (DV.ro l).pure = l.all DV.pure := by simp [DV.pure]
theorem dr_all {G : Gh} : ∀ {l : List DV}, (∀ d ∈ l, DR G d d.pd) → DRs G l (l.map DV.pd)
  | [], _ => .nil
  | d :: l, h => .cons (h d (by simp)) (dr_all fun x hx => h x (by simp [hx]))
theorem dr_pure {G : Gh} (d : DV) (h : d.pure = true) : DR G d d.pd := by
  match d, h with
  | .non, _ => simp; exact .non
  | .bl b, _ => simp; exact .bl b
  | .int i, _ => simp; exact .int i
  | .str s, _ => simp; exact .str s
  | .tup l, h =>
    simp only [pure_tup, List.all_eq_true] at h
    rw [pd_tup]
    exact .tup (dr_all fun x hx => dr_pure x (h x hx))
  | .ro l, h =>
    simp only [pure_ro, List.all_eq_true] at h
    rw [pd_ro]
    exact .ro (dr_all fun x hx => dr_pure x (h x hx))
  | .ref _, h => simp [DV.pure] at h
  | .ty _, h => simp [DV.pure] at h
  | .exc .., h => simp [DV.pure] at h
  | .kt _, h => simp [DV.pure] at h
termination_by sizeOf d
decreasing_by all_goals (have := List.sizeOf_lt_of_mem hx; simp_wf; omega)
theorem drs_pure {G : Gh} {l : List DV} (h : l.all DV.pure = true) : DRs G l (l.map DV.pd) := dr_all fun d hd => dr_pure d (List.all_eq_true.mp h d hd)

/-! ### arithmetic and comparisons -/
section
variable {X : Cx}
/-- the end of an operation that makes nothing new -/
theorem op_end {K : PySem.W.Frag} {H : Hp} {G : Gh} {P : DV → Gh → Prop} {Q : VK} (wg : WG K G H) (k : ∀ d G' v H', P d G' → WG K G' H' → Ext G H G' H' → VR K H' v d → Q v H') {d : DV} {v : V} (h : P d G) (r : VR K H v d) : Q v H :=
  k d G v H h wg Ext.refl r
def dAdd : D2 := fun x y G Q => match x, y with
  | .int i, .int j => Q (.int (i + j)) G
  | .str a, .str b => a.length + b.length ≤ sizeLine ∧ Q (.str (a ++ b)) G
  | .tup a, .tup b => a.length + b.length ≤ sizeLine ∧ Q (.tup (a ++ b)) G
  | .ref a, .ref b => ∃ l m, G a = some (.lst l) ∧ G b = some (.lst m) ∧ l.length + m.length ≤ sizeLine ∧ ∀ p, G p = none → Q (.ref p) (gup G p (.lst (l ++ m)))
  | _, _ => False
theorem o_add : OpD X (binaryOp .Add) dAdd := by
  rintro pins s σ H x y v u Q I rx ry ⟨dx, dy, G, P, vx, vy, wg, h, k⟩
  match dx, dy, vx, vy, h with
  | .int i, .int j, .int _, .int _, h => exact op_add pins s σ H _ _ v u Q I rx ry ⟨i, j, rfl, rfl, op_end wg k h (.int _)⟩
  | .str a, .str b, .str _, .str _, h => exact op_add_str pins s σ H _ _ v u Q I rx ry ⟨a, b, rfl, rfl, h.1, op_end wg k h.2 (.str _)⟩
  | .tup a, .tup b, .tup sa ra, .tup sb rb, ⟨h1, h2⟩ =>
    refine op_catA pins s σ H _ _ v u Q I rx ry ⟨_, _, _, _, rfl, rfl, SqT.of sa, SqT.of sb, by rw [ra.len, rb.len]; exact h1, fun e => ?_, fun _ e => ?_, fun _ _ p np => ?_⟩
    · subst e
      cases ra
      exact op_end wg k h2 (.tup sb rb)
    · subst e
      cases rb
      rw [List.append_nil] at h2
      exact op_end wg k h2 (.tup sa ra)
    · exact k _ _ _ _ h2 (wg.new np) (Ext.new np) (VR.newT wg np (ra.app rb))
  | .ref a, .ref b, .ref _, .ref _, ⟨l, m, ga, gb, hl, h⟩ =>
    obtain ⟨xs, ha, ra⟩ := wg _ _ ga
    obtain ⟨ys, hb, rb⟩ := wg _ _ gb
    refine op_cat pins s σ H _ _ v u Q I rx ry ⟨a, b, xs, ys, rfl, rfl, ha, hb, by rw [ra.len, rb.len]; exact hl, fun p np => ?_⟩
    exact k _ _ _ _ (h p (wg.non np)) (wg.newL np (ra.app rb)) (Ext.newC np) (.ref p)
def dSub : D2 := fun x y G Q => match x, y with
  | .int i, .int j => Q (.int (i - j)) G
  | _, _ => False
theorem o_sub : OpD X (binaryOp .Sub) dSub := by
  rintro pins s σ H x y v u Q I rx ry ⟨dx, dy, G, P, vx, vy, wg, h, k⟩
  match dx, dy, vx, vy, h with
  | .int i, .int j, .int _, .int _, h => exact op_sub pins s σ H _ _ v u Q I rx ry ⟨i, j, rfl, rfl, op_end wg k h (.int _)⟩
/-- products that the machine takes -/
def MulOk (i j : Int) : Prop := i.natAbs.log2 + j.natAbs.log2 < 1000000
theorem MulOk.of {i j : Int} {a b : Nat} (ha : i.natAbs < 2 ^ a) (hb : j.natAbs < 2 ^ b) (h0 : 0 < a) (h1 : 0 < b) (h : a + b ≤ 1000000) : MulOk i j := wide_mul ha hb h0 h1 h
def dMul : D2 := fun x y G Q => match x, y with
  | .int i, .int j => MulOk i j ∧ Q (.int (i * j)) G
  | .ref a, .int n => ∃ l, G a = some (.lst l) ∧ -(2 ^ 63) ≤ n ∧ n < 2 ^ 63 ∧ l.length * n.toNat ≤ sizeLine ∧ ∀ p, G p = none → Q (.ref p) (gup G p (.lst (List.replicate n.toNat l).flatten))
  | _, _ => False
theorem VRs.reps {K : PySem.W.Frag} {H : Hp} {xs : List V} {l : List DV} (r : VRs K H xs l) : ∀ n : Nat, VRs K H (List.replicate n xs).flatten (List.replicate n l).flatten
  | 0 => .nil
  | n + 1 => by
    rw [List.replicate_succ, List.replicate_succ, List.flatten_cons, List.flatten_cons]
    exact r.app (r.reps n)
theorem o_mul : OpD X (binaryOp .Mult) dMul := by
  rintro pins s σ H x y v u Q I rx ry ⟨dx, dy, G, P, vx, vy, wg, h, k⟩
  match dx, dy, vx, vy, h with
  | .int i, .int j, .int _, .int _, h => exact op_mulW pins s σ H _ _ v u Q I rx ry ⟨i, j, rfl, rfl, h.1, op_end wg k h.2 (.int _)⟩
  | .ref a, .int n, .ref _, .int _, ⟨l, ga, n1, n2, hl, h⟩ =>
    obtain ⟨xs, ha, ra⟩ := wg _ _ ga
    refine op_rep pins s σ H _ _ v u Q I rx ry ⟨a, n, xs, rfl, rfl, ha, n1, n2, by rw [ra.len]; exact hl, fun p np => ?_⟩
    exact k _ _ _ _ (h p (wg.non np)) (wg.newL np (ra.reps _)) (Ext.newC np) (.ref p)
def dFdiv : D2 := fun x y G Q => match x, y with
  | .int i, .int j => (0 < j ∧ j.natAbs.log2 < 9000) ∧ Q (.int (i / j)) G
  | _, _ => False
theorem o_fdiv : OpD X (binaryOp .FloorDiv) dFdiv := by
  rintro pins s σ H x y v u Q I rx ry ⟨dx, dy, G, P, vx, vy, wg, h, k⟩
  match dx, dy, vx, vy, h with
  | .int i, .int j, .int _, .int _, h => exact op_fdivW pins s σ H _ _ v u Q I rx ry ⟨i, j, rfl, rfl, h.1, op_end wg k h.2 (.int _)⟩
def dMod : D2 := fun x y G Q => match x, y with
  | .int i, .int j => 0 < j ∧ Q (.int (i % j)) G
  | _, _ => False
theorem o_mod : OpD X (binaryOp .Mod) dMod := by
  rintro pins s σ H x y v u Q I rx ry ⟨dx, dy, G, P, vx, vy, wg, h, k⟩
  match dx, dy, vx, vy, h with
  | .int i, .int j, .int _, .int _, h => exact op_mod pins s σ H _ _ v u Q I rx ry ⟨i, j, rfl, rfl, h.1, op_end wg k h.2 (.int _)⟩
def dPow : D2 := fun x y G Q => match x, y with
  | .int i, .int j => (0 ≤ j ∧ j ≤ 1000000 ∧ i.natAbs < 2 ^ 64) ∧ Q (.int (i ^ j.toNat)) G
  | _, _ => False
theorem o_pow : OpD X (binaryOp .Pow) dPow := by
  rintro pins s σ H x y v u Q I rx ry ⟨dx, dy, G, P, vx, vy, wg, h, k⟩
  match dx, dy, vx, vy, h with
  | .int i, .int j, .int _, .int _, h => exact op_pow pins s σ H _ _ v u Q I rx ry ⟨i, j, rfl, rfl, h.1, op_end wg k h.2 (.int _)⟩
/-- comparisons of ints -/
def dCmp (p : Int → Int → Bool) : D2 := fun x y G Q => match x, y with
  | .int i, .int j => Q (.bl (p i j)) G
  | _, _ => False
theorem o_cmp {f : Value → Value → Sem Value} {p : Int → Int → Bool} (o : OpR X f (rI0 fun i j => .bl (p i j))) : OpD X f (dCmp p) := by
  rintro pins s σ H x y v u Q I rx ry ⟨dx, dy, G, P, vx, vy, wg, h, k⟩
  match dx, dy, vx, vy, h with
  | .int i, .int j, .int _, .int _, h => exact o pins s σ H _ _ v u Q I rx ry ⟨i, j, rfl, rfl, op_end wg k h (.bl _)⟩
def dLt : D2 := dCmp fun i j => decide (i < j)
def dLe : D2 := dCmp fun i j => decide (i ≤ j)
def dGt : D2 := dCmp fun i j => decide (j < i)
def dGe : D2 := dCmp fun i j => decide (j ≤ i)
theorem o_lt : OpD X (compareOp .Lt) dLt := o_cmp op_lt
theorem o_le : OpD X (compareOp .LtE) dLe := o_cmp op_le
theorem o_gt : OpD X (compareOp .Gt) dGt := o_cmp op_gt
theorem o_ge : OpD X (compareOp .GtE) dGe := o_cmp op_ge
theorem dec_int {i j : Int} : decide (V.int i = V.int j) = decide (i = j) := by simp
theorem dec_str {i j : Str} : decide (V.str i = V.str j) = decide (i = j) := by simp
theorem dec_bl {i j : Bool} : decide (V.bl i = V.bl j) = decide (i = j) := by simp
/-- equality: numbers, texts, truths, None of one kind at once; else by what is read -/
def dEq (neg : Bool) : D2 := fun x y G Q => match x, y with
  | .int i, .int j => Q (.bl (neg ^^ decide (i = j))) G
  | .str a, .str b => Q (.bl (neg ^^ decide (a = b))) G
  | .bl a, .bl b => Q (.bl (neg ^^ decide (a = b))) G
  | x, y => ∃ d e, DR G x d ∧ DR G y e ∧ SeqAt.shaped d = true ∧ SeqAt.shaped e = true ∧ Q (.bl (neg ^^ PyData.eqv d e)) G
theorem o_eq (hu : X.A.units + 64 < cLine) : OpD X (compareOp .Eq) (dEq false) := by
  rintro pins s σ H x y v u Q I rx ry ⟨dx, dy, G, P, vx, vy, wg, h, k⟩
  have gen : (∃ d e, DR G dx d ∧ DR G dy e ∧ SeqAt.shaped d = true ∧ SeqAt.shaped e = true ∧ P (.bl (false ^^ PyData.eqv d e)) G) → wpAny (model X.prog X.w) X.A (compareOp .Eq v u) (EP X pins σ Q) X.xe s := by
    rintro ⟨d, e, hd, he, sd, se, q⟩
    exact op_eqD hu pins s σ H x y v u Q I rx ry ⟨d, e, hd.dp wg vx, he.dp wg vy, sd, se, op_end wg k q (by rw [Bool.false_xor]; exact .bl _)⟩
  unfold dEq at h
  split at h
  · cases vx; cases vy
    exact op_eq pins s σ H _ _ v u Q I rx ry ⟨rfl, op_end wg k h (by rw [Bool.false_xor, dec_int]; exact .bl _)⟩
  · cases vx; cases vy
    exact op_eq pins s σ H _ _ v u Q I rx ry ⟨rfl, op_end wg k h (by rw [Bool.false_xor, dec_str]; exact .bl _)⟩
  · cases vx; cases vy
    exact op_eq pins s σ H _ _ v u Q I rx ry ⟨rfl, op_end wg k h (by rw [Bool.false_xor, dec_bl]; exact .bl _)⟩
  · exact gen h
theorem o_ne (hu : X.A.units + 64 < cLine) : OpD X (compareOp .NotEq) (dEq true) := by
  rintro pins s σ H x y v u Q I rx ry ⟨dx, dy, G, P, vx, vy, wg, h, k⟩
  have gen : (∃ d e, DR G dx d ∧ DR G dy e ∧ SeqAt.shaped d = true ∧ SeqAt.shaped e = true ∧ P (.bl (true ^^ PyData.eqv d e)) G) → wpAny (model X.prog X.w) X.A (compareOp .NotEq v u) (EP X pins σ Q) X.xe s := by
    rintro ⟨d, e, hd, he, sd, se, q⟩
    exact op_neD hu pins s σ H x y v u Q I rx ry ⟨d, e, hd.dp wg vx, he.dp wg vy, sd, se, op_end wg k q (by rw [Bool.true_xor]; exact .bl _)⟩
  unfold dEq at h
  split at h
  · cases vx; cases vy
    exact op_ne pins s σ H _ _ v u Q I rx ry ⟨rfl, op_end wg k h (by rw [Bool.true_xor, dec_int]; exact .bl _)⟩
  · cases vx; cases vy
    exact op_ne pins s σ H _ _ v u Q I rx ry ⟨rfl, op_end wg k h (by rw [Bool.true_xor, dec_str]; exact .bl _)⟩
  · cases vx; cases vy
    exact op_ne pins s σ H _ _ v u Q I rx ry ⟨rfl, op_end wg k h (by rw [Bool.true_xor, dec_bl]; exact .bl _)⟩
  · exact gen h
def DV.isNon : DV → Bool
  | .non => true
  | _ => false
def dIsN (neg : Bool) : D2 := fun x y G Q => match y with
  | .non => Q (.bl (neg ^^ x.isNon)) G
  | _ => False
theorem VR.isN {K : PySem.W.Frag} {H : Hp} {v : V} {d : DV} (r : VR K H v d) : decide (v = .non) = d.isNon := by
  cases r <;> simp [DV.isNon]
theorem o_is : OpD X (compareOp .Is) (dIsN false) := by
  rintro pins s σ H x y v u Q I rx ry ⟨dx, dy, G, P, vx, vy, wg, h, k⟩
  cases dy <;> first | exact h.elim | skip
  cases vy
  exact op_isN pins s σ H _ _ v u Q I rx ry ⟨rfl, op_end wg k h (by rw [vx.isN, Bool.false_xor]; exact .bl _)⟩
theorem o_isnot : OpD X (compareOp .IsNot) (dIsN true) := by
  rintro pins s σ H x y v u Q I rx ry ⟨dx, dy, G, P, vx, vy, wg, h, k⟩
  cases dy <;> first | exact h.elim | skip
  cases vy
  exact op_notN pins s σ H _ _ v u Q I rx ry ⟨rfl, op_end wg k h (by rw [vx.isN, Bool.true_xor]; exact .bl _)⟩
/-- membership: among flat items -/
def DV.flat : DV → Bool
  | .non | .bl _ | .int _ | .str _ => true
  | _ => false
def DV.same : DV → DV → Bool
  | .non, .non => true
  | .bl a, .bl b => a == b
  | .bl a, .int b => (if a then 1 else 0) == b
  | .int a, .bl b => a == (if b then 1 else 0)
  | .int a, .int b => a == b
  | .str a, .str b => a == b
  | _, _ => false
theorem VR.flatV {K : PySem.W.Frag} {H : Hp} {v : V} {d : DV} (r : VR K H v d) (f : d.flat = true) : L2.flatV v = true := by
  cases r <;> first | rfl | exact absurd f Bool.false_ne_true
theorem VR.same {K : PySem.W.Frag} {H : Hp} {v u : V} {d e : DV} (r : VR K H v d) (q : VR K H u e) (f : d.flat = true) (g : e.flat = true) : L2.eqV v u = d.same e := by
  cases r <;> cases q <;> first | rfl | exact absurd f Bool.false_ne_true | exact absurd g Bool.false_ne_true
theorem VRs.flatV {K : PySem.W.Frag} {H : Hp} : ∀ {vs : List V} {ds : List DV}, VRs K H vs ds → ds.all DV.flat = true → vs.all L2.flatV = true
  | _, _, .nil, _ => rfl
  | _, _, .cons r t, f => by
    rw [List.all_cons, Bool.and_eq_true] at f
    rw [List.all_cons, r.flatV f.1, VRs.flatV t f.2]; rfl
theorem VRs.inV {K : PySem.W.Frag} {H : Hp} {v : V} {d : DV} (r : VR K H v d) (f : d.flat = true) : ∀ {vs : List V} {ds : List DV}, VRs K H vs ds → ds.all DV.flat = true → L2.inV v vs = ds.any fun e => e.same d
  | _, _, .nil, _ => rfl
  | _, _, .cons q t, g => by
    rw [List.all_cons, Bool.and_eq_true] at g
    have ih := VRs.inV r f t g.2
    unfold L2.inV at ih ⊢
    rw [List.any_cons, List.any_cons, ih, q.same r g.1 f]
def dIn (neg : Bool) : D2 := fun x y G Q => match y with
  | .kt l => x.flat = true ∧ l.all DV.flat = true ∧ Q (.bl (neg ^^ l.any fun e => e.same x)) G
  | .tup l => x.flat = true ∧ l.all DV.flat = true ∧ Q (.bl (neg ^^ l.any fun e => e.same x)) G
  | .ref a => ∃ l, G a = some (.lst l) ∧ x.flat = true ∧ l.all DV.flat = true ∧ Q (.bl (neg ^^ l.any fun e => e.same x)) G
  | .str z => ∃ c, x = .str ⟨#[c]⟩ ∧ Q (.bl (neg ^^ decide (c ∈ z.cps.toList))) G
  | _ => False
theorem SqT.kn {K : PySem.W.Frag} {H : Hp} {a : Addr} {xs : List V} (h : SqT K (fun _ => none) a xs) : SqT K H a xs := by
  rcases h with (h | ⟨o, h⟩) | h
  · cases h
  · cases h
  · exact .inr h
theorem o_in : OpD X (compareOp .In) (dIn false) := by
  rintro pins s σ H x y v u Q I rx ry ⟨dx, dy, G, P, vx, vy, wg, h, k⟩
  match dy, vy, h with
  | .kt l, .kt sq rs, ⟨f, g, h⟩ => exact op_in_seq pins s σ H _ _ v u Q I rx ry ⟨_, _, rfl, .inr sq.sq, vx.flatV f, rs.flatV g, op_end wg k h (by rw [if_neg Bool.false_ne_true, VRs.inV vx f rs g, Bool.false_xor]; exact .bl _)⟩
  | .tup l, .tup sq rs, ⟨f, g, h⟩ => exact op_in_seq pins s σ H _ _ v u Q I rx ry ⟨_, _, rfl, .inr (SqT.of sq), vx.flatV f, rs.flatV g, op_end wg k h (by rw [if_neg Bool.false_ne_true, VRs.inV vx f rs g, Bool.false_xor]; exact .bl _)⟩
  | .ref a, .ref _, ⟨l, e, f, g, h⟩ =>
    obtain ⟨xs, e2, rs⟩ := wg _ _ e
    exact op_in_seq pins s σ H _ _ v u Q I rx ry ⟨_, _, rfl, .inl (SqL.of e2), vx.flatV f, rs.flatV g, op_end wg k h (by rw [if_neg Bool.false_ne_true, VRs.inV vx f rs g, Bool.false_xor]; exact .bl _)⟩
  | .str z, .str _, ⟨c, e, hq⟩ =>
    subst e
    cases vx
    exact op_in_sign pins s σ H _ _ v u Q I rx ry ⟨c, z, rfl, rfl, op_end wg k hq (by rw [Bool.false_xor]; exact .bl _)⟩
theorem o_notin : OpD X (compareOp .NotIn) (dIn true) := by
  rintro pins s σ H x y v u Q I rx ry ⟨dx, dy, G, P, vx, vy, wg, h, k⟩
  match dy, vy, h with
  | .kt l, .kt sq rs, ⟨f, g, h⟩ => exact op_notIn_seq pins s σ H _ _ v u Q I rx ry ⟨_, _, rfl, .inr sq.sq, vx.flatV f, rs.flatV g, op_end wg k h (by rw [if_pos rfl, VRs.inV vx f rs g, Bool.true_xor]; exact .bl _)⟩
  | .tup l, .tup sq rs, ⟨f, g, h⟩ => exact op_notIn_seq pins s σ H _ _ v u Q I rx ry ⟨_, _, rfl, .inr (SqT.of sq), vx.flatV f, rs.flatV g, op_end wg k h (by rw [if_pos rfl, VRs.inV vx f rs g, Bool.true_xor]; exact .bl _)⟩
  | .ref a, .ref _, ⟨l, e, f, g, h⟩ =>
    obtain ⟨xs, e2, rs⟩ := wg _ _ e
    exact op_notIn_seq pins s σ H _ _ v u Q I rx ry ⟨_, _, rfl, .inl (SqL.of e2), vx.flatV f, rs.flatV g, op_end wg k h (by rw [if_pos rfl, VRs.inV vx f rs g, Bool.true_xor]; exact .bl _)⟩
  | .str z, .str _, ⟨c, e, hq⟩ =>
    subst e
    cases vx
    exact op_notIn_sign pins s σ H _ _ v u Q I rx ry ⟨c, z, rfl, rfl, op_end wg k hq (by rw [Bool.true_xor]; exact .bl _)⟩
/-- -a -/
def wNeg (wa : DE) : DE := fun Y env G Q => wa Y env G fun x G1 => match x with | .int i => Q (.int (-i)) G1 | _ => False
theorem q_neg {W : WX} {a : Expr} {wa : DE} {pos : Pos} (ha : QE X W a wa) : QE X W (.UnaryOp .USub a pos) (wNeg wa) :=
  ⟨PE.wk (pe_un un_neg ha.pe) fun σ H Q ⟨Y, env, G, P, er, wg, h, k, kx⟩ => ⟨Y, env, G, _, er, wg, h, fun d G1 v H1 h1 w1 x1 r => by
    cases d <;> first | exact h1.elim | skip
    cases r
    exact ⟨_, rfl, k _ _ _ _ h1 w1 x1 (.int _)⟩, kx⟩⟩
end
end DL

namespace DL
open PySem PySem.Spec L2
open PyProof.Rows hiding St

/-! ### places, slices -/
theorem VRs.atI {K : PySem.W.Frag} {H : Hp} {vs : List V} {ds : List DV} {i : Int} {d : DV} (r : VRs K H vs ds) (h : L2.atI ds i = some d) : ∃ v, L2.atI vs i = some v ∧ VR K H v d := by
  unfold L2.atI at h ⊢
  rw [r.len]
  cases q : ixN ds.length i with
  | none => rw [q] at h; cases h
  | some j =>
    rw [q] at h
    obtain ⟨v, e, rv⟩ := r.get (i := j) h
    exact ⟨v, e, rv⟩
def IxD (X : Cx) (r : D2) : Prop := IxR X (lift2 X.K r)
section
variable {X : Cx} {W : WX} {a b e o : Expr} {es : List Expr} {wa wb : DE} {wr : DA} {pos p2 : Pos}
theorem q_ix {r : D2} (hr : IxD X r) (ha : QE X W a wa) (hb : QE X W b wb) (hs : PlainIx b := by exact fun _ _ => rfl) : QE X W (.Subscript a b pos) (wOp r wa wb) :=
  ⟨PE.wk (pe_ix hr ha.pe hb.pe hs) fun _ _ _ h => two_parts h⟩
def dIx : D2 := fun x y G Q => match x, y with
  | .tup l, .int i => ∃ d, atI l i = some d ∧ Q d G
  | .ro l, .int i => ∃ d, atI l i = some d ∧ Q d G
  | .ref a, .int i => ∃ l d, G a = some (.lst l) ∧ atI l i = some d ∧ Q d G
  | .str z, .int i => z.length ≤ sizeLine ∧ ∃ c, atI z.cps.toList i = some c ∧ Q (.str ⟨#[c]⟩) G
  | _, _ => False
theorem o_ix : IxD X dIx := by
  rintro value slice pins s σ H x y v u Q I rx ry ⟨dx, dy, G, P, vx, vy, wg, h, k⟩ hs
  match dx, dy, vx, vy, h with
  | .tup l, .int i, .tup sq rs, .int _, ⟨d, e, h⟩ =>
    obtain ⟨w, e2, r⟩ := rs.atI e
    exact ix_tup value slice pins s σ H _ _ v u Q I rx ry ⟨_, _, i, w, rfl, rfl, (SqT.of sq), e2, op_end wg k h r⟩ hs
  | .ro l, .int i, .ro sq rs, .int _, ⟨d, e, h⟩ =>
    obtain ⟨w, e2, r⟩ := rs.atI e
    exact ix_list value slice pins s σ H _ _ v u Q I rx ry ⟨_, _, i, w, rfl, rfl, sq.sq, e2, op_end wg k h r⟩ hs
  | .ref a, .int i, .ref _, .int _, ⟨l, d, ga, e, h⟩ =>
    obtain ⟨xs, ha, rs⟩ := wg _ _ ga
    obtain ⟨w, e2, r⟩ := rs.atI e
    exact ix_list value slice pins s σ H _ _ v u Q I rx ry ⟨_, _, i, w, rfl, rfl, SqL.of ha, e2, op_end wg k h r⟩ hs
  | .str z, .int i, .str _, .int _, ⟨hz, c, e, h⟩ => exact ix_str value slice pins s σ H _ _ v u Q I rx ry ⟨z, i, c, rfl, rfl, hz, e, op_end wg k h (.str _)⟩ hs
/-- the items lo .. hi -/
def cutL {α : Type} (xs : List α) (lo hi : Option Int) : List α := (xs.drop (HT.sIx xs.length 0 lo)).take (HT.sIx xs.length xs.length hi - HT.sIx xs.length 0 lo)
theorem VRs.cut {K : PySem.W.Frag} {H : Hp} {vs : List V} {ds : List DV} (r : VRs K H vs ds) (lo hi : Option Int) : VRs K H (cutV vs lo hi) (cutL ds lo hi) := by
  unfold cutV cutL
  rw [r.len]
  exact (r.drop _).take _
theorem cutL_whole {α : Type} {xs : List α} {lo hi : Option Int} (h : HT.sIx xs.length 0 lo = 0 ∧ HT.sIx xs.length xs.length hi = xs.length) : cutL xs lo hi = xs := by
  unfold cutL
  rw [h.1, h.2, List.drop_zero, Nat.sub_zero, List.take_length]
abbrev DO := DX → Dv → Gh → (Option Int → Gh → Prop) → Prop
def TOl (K : PySem.W.Frag) (W : WX) (w : DO) : TO := fun σ H Q => ∃ (Y : DX) (env : Dv) (G : Gh) (P : Option Int → Gh → Prop), ER K H σ env ∧ WG K G H ∧ w Y env G P ∧
  (∀ i G' H', P i G' → WG K G' H' → Ext G H G' H' → Q i H') ∧ XLe K G H Y fun c d => W c d σ
structure QO (X : Cx) (W : WX) (e : Option Expr) (w : DO) : Prop where
  po : PO X e (TOl X.K W w)
theorem PO.wk {e : Option Expr} {t t' : TO} (h : PO X e t) (i : ∀ σ H Q, t' σ H Q → t σ H Q) : PO X e t' := ⟨fun a b c d q I z => h.run a b c d q I (i _ _ _ z)⟩
def wNoPart : DO := fun _ _ G Q => Q none G
def wPart (w : DE) : DO := fun Y env G Q => w Y env G fun d G1 => match d with | .int i => Q (some i) G1 | _ => False
theorem qo_none : QO X W none wNoPart := ⟨PO.wk po_none fun σ H Q ⟨Y, env, G, P, er, wg, h, k, kx⟩ => k _ _ _ h wg Ext.refl⟩
theorem qo_some (h : QE X W e wa) : QO X W (some e) (wPart wa) := ⟨PO.wk (po_some h.pe) fun σ H Q ⟨Y, env, G, P, er, wg, h, k, kx⟩ => ⟨Y, env, G, _, er, wg, h, fun d G1 v H1 h1 w1 x1 r => by
  cases d <;> first | exact h1.elim | skip
  cases r
  exact ⟨_, rfl, k _ _ _ h1 w1 x1⟩, kx⟩⟩
abbrev DSl := DV → Option Int → Option Int → Gh → (DV → Gh → Prop) → Prop
def liftS (K : PySem.W.Frag) (r : DSl) : V → Option Int → Option Int → Hp → VK → Prop := fun x lo hi H Q => ∃ dx G P, VR K H x dx ∧ WG K G H ∧ r dx lo hi G P ∧ ∀ d G' v H', P d G' → WG K G' H' → Ext G H G' H' → VR K H' v d → Q v H'
def SlD (X : Cx) (r : DSl) : Prop := SlR X (liftS X.K r)
def wSl (r : DSl) (we : DE) (wl wh : DO) : DE := fun Y env G Q => we Y env G fun x G1 => wl Y env G1 fun l G2 => wh Y env G2 fun u G3 => r x l u G3 Q
theorem q_slice {r : DSl} {lo hi : Option Expr} {wl wh : DO} (hr : SlD X r) (he : QE X W e wa) (hl : QO X W lo wl) (hu : QO X W hi wh) : QE X W (.Subscript e (.Slice lo hi none p2) pos) (wSl r wa wl wh) :=
  ⟨PE.wk (pe_slice hr he.pe hl.po hu.po) fun σ H Q ⟨Y, env, G, P, er, wg, h, k, kx⟩ => ⟨Y, env, G, _, er, wg, h, fun x G1 v H1 h1 w1 x1 r1 => ⟨Y, env, G1, _, er.ext wg x1, w1, h1, fun l G2 H2 h2 w2 x2 =>
    ⟨Y, env, G2, _, (er.ext wg x1).ext w1 x2, w2, h2, fun u G3 H3 h3 w3 x3 => ⟨x, G3, P, r1.ext w1 (x2.trans x3), w3, h3, fun d G' v' H' p w' x' r' => k d G' v' H' p w' (((x1.trans x2).trans x3).trans x') r'⟩, kx.step (x1.trans x2)⟩, kx.step x1⟩, kx⟩⟩
def dSl : DSl := fun x lo hi G Q => match x with
  | .tup l => Q (.tup (cutL l lo hi)) G
  | .ro l => ∀ p, G p = none → Q (.ref p) (gup G p (.lst (cutL l lo hi)))
  | .ref a => ∃ l, G a = some (.lst l) ∧ ∀ p, G p = none → Q (.ref p) (gup G p (.lst (cutL l lo hi)))
  | .str z => z.length ≤ sizeLine ∧ Q (.str (cutS z lo hi)) G
  | _ => False
theorem o_sl : SlD X dSl := by
  rintro pins s σ H x v vl vu lo hi sl Q I rx hs pl pu ⟨dx, G, P, vx, wg, h, k⟩
  match dx, vx, h with
  | .tup l, .tup sq rs, h =>
    refine sl_tupA pins s σ H _ v vl vu lo hi sl Q I rx hs pl pu ⟨_, _, rfl, (SqT.of sq), fun hw => ?_, fun _ p np => ?_⟩
    · rw [rs.len] at hw
      have h' : P (.tup l) G := by rw [← cutL_whole hw]; exact h
      exact op_end wg k h' (.tup sq rs)
    · exact k _ _ _ _ h (wg.new np) (Ext.new np) (VR.newT wg np (rs.cut lo hi))
  | .ro l, .ro sq rs, h => exact sl_list pins s σ H _ v vl vu lo hi sl Q I rx hs pl pu ⟨_, _, rfl, sq.sq, fun p np => k _ _ _ _ (h p (wg.non np)) (wg.newL np (rs.cut lo hi)) (Ext.newC np) (.ref p)⟩
  | .ref a, .ref _, ⟨l, ga, h⟩ =>
    obtain ⟨xs, ha, rs⟩ := wg _ _ ga
    exact sl_list pins s σ H _ v vl vu lo hi sl Q I rx hs pl pu ⟨_, _, rfl, SqL.of ha, fun p np => k _ _ _ _ (h p (wg.non np)) (wg.newL np (rs.cut lo hi)) (Ext.newC np) (.ref p)⟩
  | .str z, .str _, ⟨hz, h⟩ => exact sl_str pins s σ H _ v vl vu lo hi sl Q I rx hs pl pu ⟨z, rfl, hz, op_end wg k h (.str _)⟩

/-! ### stores into lists -/
def dSet : D3 := fun o i v G Q => match o, i with
  | .ref a, .int k => ∃ l j, G a = some (.lst l) ∧ ixN l.length k = some j ∧ Q (gup G a (.lst (l.set j v)))
  | _, _ => False
theorem o_set : SetD X dSet := by
  rintro pins s σ H o i v ov iv u Q I ro ri rv ⟨dv, dx, dy, G, P, vo, vi, vv, wg, h, k⟩
  match dv, dx, vo, vi, h with
  | .ref a, .int n, .ref _, .int _, ⟨l, j, ga, hj, h⟩ =>
    obtain ⟨xs, ha, rs⟩ := wg _ _ ga
    refine set_list pins s σ H _ _ v ov iv u Q I ro ri rv ⟨a, xs, n, j, rfl, rfl, ha, by rw [rs.len]; exact hj, ?_⟩
    exact k _ _ h (wg.setL ga (rs.set vv j)) (Ext.setC ga)

/-! ### methods of lists, tuples, texts -/
abbrev DM := DV → List DV → Gh → (DV → Gh → Prop) → Prop
def liftM (K : PySem.W.Frag) (r : DM) : V → List V → Hp → VK → Prop := fun x xs H Q => ∃ dx ds G P, VR K H x dx ∧ VRs K H xs ds ∧ WG K G H ∧ r dx ds G P ∧ ∀ d G' v H', P d G' → WG K G' H' → Ext G H G' H' → VR K H' v d → Q v H'
def MtD (X : Cx) (id : String) (r : DM) : Prop := MtR X id (liftM X.K r)
/-- a list by its address, a text -/
def tyD (T : String) (d : DV) (G : Gh) : Prop := match d with
  | .ref a => (T = "list" ∧ ∃ l, G a = some (.lst l)) ∨ (T = "dict" ∧ ((∃ l, G a = some (.dic l)) ∨ ∃ l, G a = some (.dt l)))
  | .ro _ => T = "list"
  | .str _ => T = "str"
  | _ => False
theorem tyD.ok {K : PySem.W.Frag} {H : Hp} {G : Gh} {T : String} {d : DV} {v : V} (h : tyD T d G) (wg : WG K G H) (r : VR K H v d) : tyV K T v H := by
  cases r <;> first | exact h.elim | skip
  · exact h
  · rcases h with ⟨rfl, l, e⟩ | ⟨rfl, ⟨l, e⟩ | ⟨l, e⟩⟩
    · obtain ⟨xs, e2, _⟩ := wg _ _ e
      exact .inl ⟨rfl, _, SqL.of e2⟩
    · obtain ⟨xs, e2, _⟩ := wg _ _ e
      exact .inr (.inr (.inl ⟨rfl, .inl ⟨_, e2⟩⟩))
    · obtain ⟨xs, e2, _⟩ := wg _ _ e
      exact .inr (.inr (.inl ⟨rfl, .inr ⟨_, e2⟩⟩))
  · rename_i rl _
    exact .inl ⟨h, _, rl.sq⟩
def wBM (T : String) (r : DM) (wo : DE) (wr : DA) : DE := fun Y env G Q => wo Y env G fun x G1 => tyD T x G1 ∧ wr Y env G1 fun xs G2 => r x xs G2 Q
theorem q_bm {name : Str} {apos cpos : Pos} {T id : String} {r : DM} (pa : PlainAttrs T) (slot : Slot T name id) (hty : typeOf (.builtin id) = pure (.type "method_descriptor")) (hm : MtD X id r) (ho : QE X W o wa) (ha : QA X W (e :: es) wr)
    (hbase : attributeBase o name X.env (eval o X.env) = eval o X.env := by rfl)
    (hfew : ((backTo cpos (starEach (e :: es) X.env)).all (fun x => !x.1) && (backToKw cpos (keywordEach [] X.env)).all (fun x => x.1.isSome) && decide ((e :: es).length + ([] : List Keyword).length + (if ([] : List Keyword).isEmpty then 0 else 1) < 30)) = true := by rfl)
    (hline : (apos.endLine == cpos.line) = true := by rfl) (hs : starEach (e :: es) X.env = (false, eval e X.env) :: starEach es X.env := by rfl) (hplain : (backTo cpos (starEach es X.env)).any (·.1) = false := by rfl) :
    QE X W (.Call (.Attribute o name apos) (e :: es) [] cpos) (wBM T r wa wr) :=
  ⟨PE.wk (pe_bm pa slot hty hm ho.pe ha.pa hbase hfew hline hs hplain) fun σ H Q ⟨Y, env, G, P, er, wg, h, k, kx⟩ => ⟨Y, env, G, _, er, wg, h, fun x G1 v H1 ⟨t1, h1⟩ w1 x1 r1 =>
    ⟨t1.ok w1 r1, Y, env, G1, _, er.ext wg x1, w1, h1, fun ds G2 vs H2 h2 w2 x2 r2 => ⟨x, ds, G2, P, r1.ext w1 x2, r2, w2, h2, fun d G' v' H' p w' x' r' => k d G' v' H' p w' ((x1.trans x2).trans x') r'⟩, kx.step x1⟩, kx⟩⟩
def wBM0 (T : String) (r : DM) (wo : DE) : DE := fun Y env G Q => wo Y env G fun x G1 => tyD T x G1 ∧ r x [] G1 Q
theorem q_bm0 {name : Str} {apos cpos : Pos} {T id : String} {r : DM} (pa : PlainAttrs T) (slot : Slot T name id) (hty : typeOf (.builtin id) = pure (.type "method_descriptor")) (hm : MtD X id r) (ho : QE X W o wa)
    (hbase : attributeBase o name X.env (eval o X.env) = eval o X.env := by rfl) (hline : (apos.endLine == cpos.line) = true := by rfl) : QE X W (.Call (.Attribute o name apos) [] [] cpos) (wBM0 T r wa) :=
  ⟨PE.wk (pe_bm0 pa slot hty hm ho.pe hbase hline) fun σ H Q ⟨Y, env, G, P, er, wg, h, k, kx⟩ => ⟨Y, env, G, _, er, wg, h, fun x G1 v H1 ⟨t1, h1⟩ w1 x1 r1 =>
    ⟨t1.ok w1 r1, x, [], G1, P, r1, .nil, w1, h1, fun d G' v' H' p w' x' r' => k d G' v' H' p w' (x1.trans x') r'⟩, kx⟩⟩
def dAppend : DM := fun x ds G Q => match x, ds with
  | .ref a, [d] => ∃ l, G a = some (.lst l) ∧ l.length < sizeLine ∧ Q .non (gup G a (.lst (l ++ [d])))
  | _, _ => False
theorem m_append : MtD X "list.append" dAppend := by
  rintro pins s σ H x xs v us Q I rx rs ⟨dx, ds, G, P, vx, vs, wg, h, k⟩
  match dx, ds, vx, vs, h with
  | .ref a, [d], .ref _, .cons r .nil, ⟨l, ga, hl, h⟩ =>
    obtain ⟨ys, ha, ra⟩ := wg _ _ ga
    exact mt_append pins s σ H _ _ v us Q I rx rs ⟨a, ys, _, rfl, rfl, ha, by rw [ra.len]; exact hl, k _ _ _ _ h (wg.setL ga (ra.app (.one r))) (Ext.setC ga) .non⟩
def dExtend : DM := fun x ds G Q => match x, ds with
  | .ref a, [.ref b] => ∃ l m, G a = some (.lst l) ∧ G b = some (.lst m) ∧ l.length + m.length ≤ sizeLine ∧ Q .non (gup G a (.lst (l ++ m)))
  | _, _ => False
theorem m_extend : MtD X "list.extend" dExtend := by
  rintro pins s σ H x xs v us Q I rx rs ⟨dx, ds, G, P, vx, vs, wg, h, k⟩
  match dx, ds, vx, vs, h with
  | .ref a, [.ref b], .ref _, .cons (.ref _) .nil, ⟨l, m, ga, gb, hl, h⟩ =>
    obtain ⟨ys, ha, ra⟩ := wg _ _ ga
    obtain ⟨zs, hb, rb⟩ := wg _ _ gb
    exact mt_extend pins s σ H _ _ v us Q I rx rs ⟨a, b, ys, zs, rfl, rfl, ha, hb, by rw [ra.len, rb.len]; exact hl, k _ _ _ _ h (wg.setL ga (ra.app rb)) (Ext.setC ga) .non⟩
def dReverse : DM := fun x ds G Q => match x, ds with
  | .ref a, [] => ∃ l, G a = some (.lst l) ∧ Q .non (gup G a (.lst l.reverse))
  | _, _ => False
theorem m_reverse : MtD X "list.reverse" dReverse := by
  rintro pins s σ H x xs v us Q I rx rs ⟨dx, ds, G, P, vx, vs, wg, h, k⟩
  match dx, ds, vx, vs, h with
  | .ref a, [], .ref _, .nil, ⟨l, ga, h⟩ =>
    obtain ⟨ys, ha, ra⟩ := wg _ _ ga
    exact mt_reverse pins s σ H _ _ v us Q I rx rs ⟨a, ys, rfl, rfl, ha, k _ _ _ _ h (wg.setL ga ra.rev) (Ext.setC ga) .non⟩
def dPop : DM := fun x ds G Q => match x, ds with
  | .ref a, [] => ∃ l d, G a = some (.lst l) ∧ l[l.length - 1]? = some d ∧ Q d (gup G a (.lst l.dropLast))
  | .ref a, [.int i] => ∃ l n d, G a = some (.lst l) ∧ -(2 ^ 63) ≤ i ∧ i < 2 ^ 63 ∧ seqIndex? i l.length = some n ∧ l[n]? = some d ∧ Q d (gup G a (.lst (l.eraseIdx n)))
  | _, _ => False
theorem m_pop : MtD X "list.pop" dPop := by
  rintro pins s σ H x xs v us Q I rx rs ⟨dx, ds, G, P, vx, vs, wg, h, k⟩
  match dx, ds, vx, vs, h with
  | .ref a, [], .ref _, .nil, ⟨l, d, ga, hd, h⟩ =>
    obtain ⟨ys, ha, ra⟩ := wg _ _ ga
    rw [← ra.len] at hd
    obtain ⟨w, e, r⟩ := ra.get hd
    exact mt_pop pins s σ H _ _ v us Q I rx rs ⟨a, ys, w, rfl, rfl, ha, e, k _ _ _ _ h (wg.setL ga ra.dropLast) (Ext.setC ga) (r.ext wg (Ext.setC (c' := .lst []) ga))⟩
  | .ref a, [.int i], .ref _, .cons (.int _) .nil, ⟨l, n, d, ga, i1, i2, hn, hd, h⟩ =>
    obtain ⟨ys, ha, ra⟩ := wg _ _ ga
    obtain ⟨w, e, r⟩ := ra.get hd
    exact mt_popAt pins s σ H _ _ v us Q I rx rs ⟨a, ys, i, n, w, rfl, rfl, ha, i1, i2, by rw [ra.len]; exact hn, e, k _ _ _ _ h (wg.setL ga (ra.eraseIdx n)) (Ext.setC ga) (r.ext wg (Ext.setC (c' := .lst []) ga))⟩

/-! ### built-in functions -/
def lenD (d : DV) (G : Gh) (Q : Nat → Prop) : Prop := match d with
  | .tup l => Q l.length
  | .ro l => Q l.length
  | .str z => z.length ≤ sizeLine ∧ Q z.length
  | .ref a => ∃ l, G a = some (.lst l) ∧ Q l.length
  | _ => False
def dLen : DC := fun ds G Q => match ds with
  | [d] => lenD d G fun n => Q (.int n) G
  | _ => False
theorem c_len : CallD X (.builtin "len") dLen := by
  rintro pins s σ H xs us Q I rs ⟨ds, G, P, vs, wg, h, k⟩
  cases vs with
  | nil => exact h.elim
  | cons r t =>
    cases t with
    | cons => exact h.elim
    | nil =>
      cases r <;> first | exact h.elim | skip
      · exact call_len pins s σ H _ us Q I rs ⟨_, _, rfl, ⟨h.1, rfl⟩, op_end wg k h.2 (.int _)⟩
      · obtain ⟨l, ga, h⟩ := h
        obtain ⟨ys, ha, r⟩ := wg _ _ ga
        exact call_len pins s σ H _ us Q I rs ⟨_, l.length, rfl, .inl ⟨_, SqL.of ha, r.len.symm⟩, op_end wg k h (.int _)⟩
      · rename_i sq r
        exact call_len pins s σ H _ us Q I rs ⟨_, _, rfl, .inr ⟨_, (SqT.of sq), r.len.symm⟩, op_end wg k h (.int _)⟩
      · rename_i sq r
        exact call_len pins s σ H _ us Q I rs ⟨_, _, rfl, .inl ⟨_, sq.sq, r.len.symm⟩, op_end wg k h (.int _)⟩
/-- a list's items -/
def itemsD (d : DV) (G : Gh) (Q : List DV → Prop) : Prop := match d with
  | .ro l => Q l
  | .ref a => ∃ l, G a = some (.lst l) ∧ Q l
  | _ => False
theorem itemsD.sq {K : PySem.W.Frag} {H : Hp} {G : Gh} {d : DV} {v : V} {Q : List DV → Prop} (wg : WG K G H) (r : VR K H v d) (h : itemsD d G Q) : ∃ a xs l, v = .ref a ∧ SqL K H a xs ∧ VRs K H xs l ∧ Q l := by
  cases r <;> first | exact h.elim | skip
  · obtain ⟨l, e, q⟩ := h
    obtain ⟨xs, e2, rr⟩ := wg _ _ e
    exact ⟨_, xs, l, rfl, SqL.of e2, rr, q⟩
  · rename_i rl rr
    exact ⟨_, _, _, rfl, rl.sq, rr, h⟩
/-! sum, max, min of a tuple -/
namespace TupRaw
variable {prog : Program} {w : World} {A : Around} {E : Value → Shared → Prop} {s : Shared} {l : Addr} {its : List Value} {ns : List Int} {Q : Value → Shared → Prop}
theorem iterT {xs : Array Value} {Q : Value → Shared → Prop} (hl : s.heap.IsTuple l xs)
    (h : ∀ s₂ : Shared, s₂ = { s with heap := s.heap.push { cls := .type "tuple_iterator", data := .fields #[.ref l, .int 0 0] } } →
      (s₂.heap.IsTupleIter s.heap.objs.size l 0 ∧ s₂.heap.IsTuple l xs) → (∀ b ∈ [s.heap.objs.size, l], b < s₂.heap.objs.size) → l ≠ s.heap.objs.size → Q (.ref s.heap.objs.size) s₂) :
    wpAny (model prog w) A (pyIter (.ref l)) Q E s := by
  have hlt : l < s.heap.objs.size := by obtain ⟨_, e, _⟩ := hl; exact Heap.lt_size e
  refine wpAny_pyIter_tuple hl (h _ rfl ⟨⟨_, Heap.get?_push_size _ rfl, rfl, rfl⟩, ?_⟩ (fun b hb => ?_) (Nat.ne_of_lt hlt))
  · obtain ⟨o, ho, r⟩ := hl
    exact ⟨o, Heap.get?_push_of_some _ ho, r⟩
  show b < (s.heap.push _).objs.size
  rw [Heap.size_push]
  rcases List.mem_cons.mp hb with rfl | hb
  · exact Nat.lt_succ_self _
  · rcases List.mem_cons.mp hb with rfl | hb
    · exact Nat.lt_succ_of_lt hlt
    · cases hb
theorem oldT {h' : Heap} (hk : ∀ b o, b ∉ [s.heap.objs.size] → (s.heap.push { cls := .type "tuple_iterator", data := .fields #[.ref l, .int 0 0] }).get? b = some o → h'.get? b = some o) :
    ∀ b o, s.heap.get? b = some o → h'.get? b = some o := fun b o e => by
  refine hk b o (fun hm => ?_) (Heap.get?_push_of_some _ e)
  rcases List.mem_cons.mp hm with e1 | hm
  · exact absurd (e1 ▸ Heap.lt_size e) (Nat.lt_irrefl _)
  · cases hm
theorem sumT {xs : Array (Int × Tok)} (hh : A.handled = none) (hl : s.heap.IsTuple l (intItems xs))
    (h : ∀ h' tk t', (∀ b o, s.heap.get? b = some o → h'.get? b = some o) → Q (.int (preSum (numAt xs) xs.size) t') { s with heap := h', toks := tk }) :
    wpAny (model prog w) A (call (.builtin "sum") [.ref l]) Q E s := by
  refine call_sum_walkG (iterT hl fun s₂ e st hfp hlI => ?_)
  subst e
  refine ⟨_, _, _, _, _, _, numAt xs, rfl, Walks.tuple (A := A.in1) hh _ l hlI (intItems xs), st, hfp, (fun _ _ => intItems_at), fun h' tk t' hk => ?_⟩
  have := h h' tk t' (oldT hk)
  simpa [intItems] using this
theorem maxT {xs : Array (Int × Tok)} (hh : A.handled = none) (hl : s.heap.IsTuple l (intItems xs)) (hne : 0 < xs.size)
    (h : ∀ v h' tk, (intItems xs)[argBest (fun i j => decide (numAt xs i > numAt xs j)) (xs.size - 1)]? = some v → (∀ b o, s.heap.get? b = some o → h'.get? b = some o) → Q v { s with heap := h', toks := tk }) :
    wpAny (model prog w) A (call (.builtin "max") [.ref l]) Q E s := by
  refine call_max_walk (iterT hl fun s₂ e st hfp hlI => ?_)
  subst e
  refine ⟨_, _, _, _, _, _, _, rfl, Walks.tuple (A := A.in1) hh _ l hlI (intItems xs), st, hfp, by simpa [intItems] using hne, CmpOf.ints_gt (numAt xs) (fun _ _ => intItems_at), fun v h' tk hP hk => ?_⟩
  exact h v h' tk (by simpa [intItems] using hP) (oldT hk)
theorem minT {xs : Array (Int × Tok)} (hh : A.handled = none) (hl : s.heap.IsTuple l (intItems xs)) (hne : 0 < xs.size)
    (h : ∀ v h' tk, (intItems xs)[argBest (fun i j => decide (numAt xs i < numAt xs j)) (xs.size - 1)]? = some v → (∀ b o, s.heap.get? b = some o → h'.get? b = some o) → Q v { s with heap := h', toks := tk }) :
    wpAny (model prog w) A (call (.builtin "min") [.ref l]) Q E s := by
  refine call_min_walk (iterT hl fun s₂ e st hfp hlI => ?_)
  subst e
  refine ⟨_, _, _, _, _, _, _, rfl, Walks.tuple (A := A.in1) hh _ l hlI (intItems xs), st, hfp, by simpa [intItems] using hne, CmpOf.ints_lt (numAt xs) (fun _ _ => intItems_at), fun v h' tk hP hk => ?_⟩
  exact h v h' tk (by simpa [intItems] using hP) (oldT hk)
theorem sum_rawT (hh : A.handled = none) (hl : s.heap.IsTuple l its.toArray) (hi : IntsAre its ns)
    (h : ∀ h' tk t', (∀ b o, s.heap.get? b = some o → h'.get? b = some o) → Q (.int ns.sum t') { s with heap := h', toks := tk }) : wpAny (model prog w) A (call (.builtin "sum") [.ref l]) Q E s := by
  obtain ⟨xs, e⟩ := hi.allInts.items
  have hn : numsOf (intItems xs).toList = ns := by rw [← e]; exact hi.numsOf
  rw [nums_intItems] at hn
  rw [e] at hl
  refine sumT hh hl fun h' tk t' hk => ?_
  have := h h' tk t' hk
  rw [preSum_eq, List.take_of_length_le (by simp), hn]; exact this
theorem max_rawT (hh : A.handled = none) (hl : s.heap.IsTuple l its.toArray) (hi : IntsAre its ns) (hne : 0 < ns.length)
    (h : ∀ h' tk M t', (∀ b o, s.heap.get? b = some o → h'.get? b = some o) → M ∈ ns → (∀ a, a ∈ ns → a ≤ M) → Q (.int M t') { s with heap := h', toks := tk }) : wpAny (model prog w) A (call (.builtin "max") [.ref l]) Q E s := by
  obtain ⟨xs, e⟩ := hi.allInts.items
  have hn : numsOf (intItems xs).toList = ns := by rw [← e]; exact hi.numsOf
  rw [nums_intItems] at hn
  subst hn
  rw [e] at hl
  have hsz : 0 < xs.size := by simpa using hne
  refine maxT hh hl hsz fun v h' tk hv hk => ?_
  obtain ⟨t, rfl⟩ := intItems_at hv
  obtain ⟨h1, h2⟩ := argBest_gt (numAt xs) (xs.size - 1)
  refine h h' tk _ t hk ?_ fun a ha => ?_
  · rw [numAt_eq]; exact PySem.getD_mem (by rw [List.length_map, Array.length_toList]; omega)
  · obtain ⟨j, hj, rfl⟩ := mem_getD ha
    rw [List.length_map, Array.length_toList] at hj
    rw [← numAt_eq]; exact h2 j (by omega)
theorem min_rawT (hh : A.handled = none) (hl : s.heap.IsTuple l its.toArray) (hi : IntsAre its ns) (hne : 0 < ns.length)
    (h : ∀ h' tk M t', (∀ b o, s.heap.get? b = some o → h'.get? b = some o) → M ∈ ns → (∀ a, a ∈ ns → M ≤ a) → Q (.int M t') { s with heap := h', toks := tk }) : wpAny (model prog w) A (call (.builtin "min") [.ref l]) Q E s := by
  obtain ⟨xs, e⟩ := hi.allInts.items
  have hn : numsOf (intItems xs).toList = ns := by rw [← e]; exact hi.numsOf
  rw [nums_intItems] at hn
  subst hn
  rw [e] at hl
  have hsz : 0 < xs.size := by simpa using hne
  refine minT hh hl hsz fun v h' tk hv hk => ?_
  obtain ⟨t, rfl⟩ := intItems_at hv
  obtain ⟨h1, h2⟩ := argBest_lt (numAt xs) (xs.size - 1)
  refine h h' tk _ t hk ?_ fun a ha => ?_
  · rw [numAt_eq]; exact PySem.getD_mem (by rw [List.length_map, Array.length_toList]; omega)
  · obtain ⟨j, hj, rfl⟩ := mem_getD ha
    rw [List.length_map, Array.length_toList] at hj
    rw [← numAt_eq]; exact h2 j (by omega)
theorem cr_sumT {X : Cx} (hc : X.calm = true) : CallR X (.builtin "sum") (fun vs H Q => ∃ (a : Addr) (ns : List Int), vs = [V.ref a] ∧ SqT X.K H a (ns.map V.int) ∧ Q (.int ns.sum) H) := by
  intro pins s σ H vs us Q I r h
  obtain ⟨a, ns, rfl, hs, q⟩ := h
  obtain ⟨its, rv, hl, _⟩ := I.tuple hs
  rw [Vals.ref1 r]
  exact sum_rawT (I.ok.hd hc) hl rv.ints fun h' tk t' hk => ⟨.int _, H, I.kept hk, ⟨_, rfl⟩, q⟩
theorem cr_maxT {X : Cx} (hc : X.calm = true) : CallR X (.builtin "max") (fun vs H Q => ∃ (a : Addr) (ns : List Int), vs = [V.ref a] ∧ SqT X.K H a (ns.map V.int) ∧ 0 < ns.length ∧ ∀ m, m ∈ ns → (∀ y, y ∈ ns → y ≤ m) → Q (.int m) H) := by
  intro pins s σ H vs us Q I r h
  obtain ⟨a, ns, rfl, hs, hne, q⟩ := h
  obtain ⟨its, rv, hl, _⟩ := I.tuple hs
  rw [Vals.ref1 r]
  exact max_rawT (I.ok.hd hc) hl rv.ints hne fun h' tk m t' hk h1 h2 => ⟨.int _, H, I.kept hk, ⟨_, rfl⟩, q m h1 h2⟩
theorem cr_minT {X : Cx} (hc : X.calm = true) : CallR X (.builtin "min") (fun vs H Q => ∃ (a : Addr) (ns : List Int), vs = [V.ref a] ∧ SqT X.K H a (ns.map V.int) ∧ 0 < ns.length ∧ ∀ m, m ∈ ns → (∀ y, y ∈ ns → m ≤ y) → Q (.int m) H) := by
  intro pins s σ H vs us Q I r h
  obtain ⟨a, ns, rfl, hs, hne, q⟩ := h
  obtain ⟨its, rv, hl, _⟩ := I.tuple hs
  rw [Vals.ref1 r]
  exact min_rawT (I.ok.hd hc) hl rv.ints hne fun h' tk m t' hk h1 h2 => ⟨.int _, H, I.kept hk, ⟨_, rfl⟩, q m h1 h2⟩
end TupRaw
def itemsT (d : DV) (G : Gh) (Q : List DV → Prop) : Prop := match d with
  | .ro l => Q l
  | .tup l => Q l
  | .ref a => ∃ l, G a = some (.lst l) ∧ Q l
  | _ => False
theorem itemsT.sq {K : PySem.W.Frag} {H : Hp} {G : Gh} {d : DV} {v : V} {Q : List DV → Prop} (wg : WG K G H) (r : VR K H v d) (h : itemsT d G Q) : ∃ a xs l, v = .ref a ∧ (SqL K H a xs ∨ SqT K H a xs) ∧ VRs K H xs l ∧ Q l := by
  cases r <;> first | exact h.elim | skip
  · obtain ⟨l, e, q⟩ := h
    obtain ⟨xs, e2, rr⟩ := wg _ _ e
    exact ⟨_, xs, l, rfl, .inl (SqL.of e2), rr, q⟩
  · rename_i sq rr
    exact ⟨_, _, _, rfl, .inr (SqT.of sq), rr, h⟩
  · rename_i rl rr
    exact ⟨_, _, _, rfl, .inl rl.sq, rr, h⟩
def dSum : DC := fun ds G Q => match ds with
  | [d] => itemsT d G fun l => ∃ ns : List Int, l = ns.map .int ∧ Q (.int ns.sum) G
  | _ => False
theorem c_sum (hc : X.calm = true) : CallD X (.builtin "sum") dSum := by
  rintro pins s σ H xs us Q I rs ⟨ds, G, P, vs, wg, h, k⟩
  match ds, vs, h with
  | [d], .cons r .nil, h =>
    obtain ⟨a, ys, l, rfl, sq, rr, ns, rfl, h⟩ := itemsT.sq wg r h
    rw [rr.ofInts] at sq
    rcases sq with sq | sq
    · exact cr_sum hc pins s σ H _ us Q I rs ⟨a, ns, rfl, sq, op_end wg k h (.int _)⟩
    · exact TupRaw.cr_sumT hc pins s σ H _ us Q I rs ⟨a, ns, rfl, sq, op_end wg k h (.int _)⟩
def dAll : DC := fun ds G Q => match ds with
  | [d] => itemsD d G fun l => ∃ bs : List Bool, l = bs.map .bl ∧ Q (.bl (bs.all id)) G
  | _ => False
theorem c_all (hc : X.calm = true) : CallD X (.builtin "all") dAll := by
  rintro pins s σ H xs us Q I rs ⟨ds, G, P, vs, wg, h, k⟩
  match ds, vs, h with
  | [d], .cons r .nil, h =>
    obtain ⟨a, ys, l, rfl, sq, rr, ns, rfl, h⟩ := itemsD.sq wg r h
    rw [rr.ofBls] at sq
    exact cr_all hc pins s σ H _ us Q I rs ⟨a, ns, rfl, sq, op_end wg k h (.bl _)⟩
def dAny : DC := fun ds G Q => match ds with
  | [d] => itemsD d G fun l => ∃ bs : List Bool, l = bs.map .bl ∧ Q (.bl (bs.any id)) G
  | _ => False
theorem c_any (hc : X.calm = true) : CallD X (.builtin "any") dAny := by
  rintro pins s σ H xs us Q I rs ⟨ds, G, P, vs, wg, h, k⟩
  match ds, vs, h with
  | [d], .cons r .nil, h =>
    obtain ⟨a, ys, l, rfl, sq, rr, ns, rfl, h⟩ := itemsD.sq wg r h
    rw [rr.ofBls] at sq
    exact cr_any hc pins s σ H _ us Q I rs ⟨a, ns, rfl, sq, op_end wg k h (.bl _)⟩
/-- max, min: of two ints, or of a list of ints -/
def dMax : DC := fun ds G Q => match ds with
  | [.int i, .int j] => Q (.int (if j > i then j else i)) G
  | [d] => itemsT d G fun l => ∃ ns : List Int, l = ns.map .int ∧ 0 < ns.length ∧ ∀ m, m ∈ ns → (∀ y, y ∈ ns → y ≤ m) → Q (.int m) G
  | _ => False
theorem c_max (hc : X.calm = true) : CallD X (.builtin "max") dMax := by
  rintro pins s σ H xs us Q I rs ⟨ds, G, P, vs, wg, h, k⟩
  cases vs with
  | nil => exact h.elim
  | cons r t =>
    cases t with
    | cons r2 t2 =>
      cases t2 with
      | cons => cases r <;> first | exact h.elim | (cases r2 <;> exact h.elim)
      | nil =>
        cases r <;> first | exact h.elim | skip
        cases r2 <;> first | exact h.elim | skip
        exact call_max2 hc pins s σ H _ us Q I rs ⟨_, _, rfl, op_end wg k h (.int _)⟩
    | nil =>
      cases r <;> first | exact h.elim | skip
      · obtain ⟨l, ga, ns, rfl, hn, h⟩ := h
        obtain ⟨ys, ha, rr⟩ := wg _ _ ga
        rw [rr.ofInts] at ha
        exact cr_max hc pins s σ H _ us Q I rs ⟨_, ns, rfl, SqL.of ha, hn, fun m h1 h2 => op_end wg k (h m h1 h2) (.int _)⟩
      · rename_i sq rr
        obtain ⟨ns, rfl, hn, h⟩ := h
        rw [rr.ofInts] at sq
        exact TupRaw.cr_maxT hc pins s σ H _ us Q I rs ⟨_, ns, rfl, (SqT.of sq), hn, fun m h1 h2 => op_end wg k (h m h1 h2) (.int _)⟩
      · rename_i sq rr
        obtain ⟨ns, rfl, hn, h⟩ := h
        rw [rr.ofInts] at sq
        exact cr_max hc pins s σ H _ us Q I rs ⟨_, ns, rfl, sq.sq, hn, fun m h1 h2 => op_end wg k (h m h1 h2) (.int _)⟩
def dMin : DC := fun ds G Q => match ds with
  | [.int i, .int j] => Q (.int (if j < i then j else i)) G
  | [d] => itemsT d G fun l => ∃ ns : List Int, l = ns.map .int ∧ 0 < ns.length ∧ ∀ m, m ∈ ns → (∀ y, y ∈ ns → m ≤ y) → Q (.int m) G
  | _ => False
theorem c_min (hc : X.calm = true) : CallD X (.builtin "min") dMin := by
  rintro pins s σ H xs us Q I rs ⟨ds, G, P, vs, wg, h, k⟩
  cases vs with
  | nil => exact h.elim
  | cons r t =>
    cases t with
    | cons r2 t2 =>
      cases t2 with
      | cons => cases r <;> first | exact h.elim | (cases r2 <;> exact h.elim)
      | nil =>
        cases r <;> first | exact h.elim | skip
        cases r2 <;> first | exact h.elim | skip
        exact call_min2 hc pins s σ H _ us Q I rs ⟨_, _, rfl, op_end wg k h (.int _)⟩
    | nil =>
      cases r <;> first | exact h.elim | skip
      · obtain ⟨l, ga, ns, rfl, hn, h⟩ := h
        obtain ⟨ys, ha, rr⟩ := wg _ _ ga
        rw [rr.ofInts] at ha
        exact cr_min hc pins s σ H _ us Q I rs ⟨_, ns, rfl, SqL.of ha, hn, fun m h1 h2 => op_end wg k (h m h1 h2) (.int _)⟩
      · rename_i sq rr
        obtain ⟨ns, rfl, hn, h⟩ := h
        rw [rr.ofInts] at sq
        exact TupRaw.cr_minT hc pins s σ H _ us Q I rs ⟨_, ns, rfl, (SqT.of sq), hn, fun m h1 h2 => op_end wg k (h m h1 h2) (.int _)⟩
      · rename_i sq rr
        obtain ⟨ns, rfl, hn, h⟩ := h
        rw [rr.ofInts] at sq
        exact cr_min hc pins s σ H _ us Q I rs ⟨_, ns, rfl, sq.sq, hn, fun m h1 h2 => op_end wg k (h m h1 h2) (.int _)⟩
def dAbs : DC := fun ds G Q => match ds with
  | [.int i] => Q (.int (if i < 0 then -i else i)) G
  | _ => False
theorem c_abs : CallD X (.builtin "abs") dAbs := by
  rintro pins s σ H xs us Q I rs ⟨ds, G, P, vs, wg, h, k⟩
  match ds, vs, h with
  | [.int i], .cons (.int _) .nil, h => exact call_abs pins s σ H _ us Q I rs ⟨i, rfl, op_end wg k h (.int _)⟩
def dInt : DC := fun ds G Q => match ds with
  | [.int i] => Q (.int i) G
  | [.bl b] => Q (.int (if b then 1 else 0)) G
  | _ => False
theorem c_int : CallD X (.type "int") dInt := by
  rintro pins s σ H xs us Q I rs ⟨ds, G, P, vs, wg, h, k⟩
  match ds, vs, h with
  | [.int i], .cons (.int _) .nil, h => exact call_int1 pins s σ H _ us Q I rs (.inl ⟨i, rfl, op_end wg k h (.int _)⟩)
  | [.bl i], .cons (.bl _) .nil, h => exact call_int1 pins s σ H _ us Q I rs (.inr ⟨i, rfl, op_end wg k h (.int _)⟩)
/-- a text's signs -/
def signsV (z : Str) : List V := z.cps.toList.map fun c => .str ⟨#[c]⟩
def signsD (z : Str) : List DV := z.cps.toList.map fun c => .str ⟨#[c]⟩
theorem signs_vr {K : PySem.W.Frag} {H : Hp} (z : Str) : VRs K H (signsV z) (signsD z) := by
  unfold signsV signsD
  induction z.cps.toList with
  | nil => exact .nil
  | cons a l ih => exact .cons (.str _) ih
theorem signs_vals {z : Str} {acc : Array Value} (h : ItemsOf (SignAt z) acc z.cps.size) : Vals (signsV z) acc.toList := by
  refine vals_of_at ?_ fun j x u hx hu => ?_
  · rw [signsV, List.length_map, Array.length_toList, Array.length_toList, h.1]
  · rw [Array.getElem?_toList] at hu
    obtain ⟨c, t, hc, rfl⟩ := h.2 j u hu
    rw [signsV, List.getElem?_map, Array.getElem?_toList, hc] at hx
    cases hx
    exact ⟨t, rfl⟩
theorem cr_tupStr {X : Cx} (hc : X.calm = true) : CallR X (.type "tuple") (fun xs H Q => ∃ z : Str, xs = [.str z] ∧ z.cps.size ≤ sizeLine ∧ ∀ p, H p = none → Q (.ref p) (upd H p (.tup (signsV z)))) := by
  intro pins s σ H vs us Q I r h
  obtain ⟨z, rfl, hz, q⟩ := h
  obtain ⟨u, rfl, t, rfl⟩ := vals1 r
  refine call_tuple_str (I.ok.hd hc) z t (fun h' tk acc hk hi => ?_) hz
  have I2 : Inv X pins σ H { s with heap := h', toks := tk } := I.kept hk
  refine ⟨.ref h'.objs.size, upd H h'.objs.size (.tup (signsV z)), I2.laid (t' := tk) (fun c o e => Heap.get?_push_of_some _ e) (Nat.le_refl _) (show ObjOk X.prog X.w _ _ _ (.tup (signsV z)) from ⟨?_, acc.toList, signs_vals hi, ?_⟩), rfl, q _ (I2.hok.fresh (Nat.le_refl _))⟩
  · rw [signsV, List.length_map, Array.length_toList]; exact hz
  · rw [Array.toArray_toList]; exact PyProof.Rows.IsTup.new _ _
theorem cr_lstStr {X : Cx} (hc : X.calm = true) : CallR X (.type "list") (fun xs H Q => ∃ z : Str, xs = [.str z] ∧ z.cps.size ≤ sizeLine ∧ ∀ p, H p = none → Q (.ref p) (upd H p (.lst (signsV z)))) := by
  intro pins s σ H vs us Q I r h
  obtain ⟨z, rfl, hz, q⟩ := h
  obtain ⟨u, rfl, t, rfl⟩ := vals1 r
  refine call_list_str (I.ok.hd hc) z t (fun h' tk acc c' hk e' hi => ?_) hz
  refine ⟨.ref s.heap.objs.size, upd H s.heap.objs.size (.lst (signsV z)), I.laid hk (Nat.le_refl _) (show ObjOk X.prog X.w _ _ _ (.lst (signsV z)) from ⟨?_, acc.toList, c', signs_vals hi, ?_⟩), rfl, q _ (I.hok.fresh (Nat.le_refl _))⟩
  · rw [signsV, List.length_map, Array.length_toList]; exact hz
  · rw [Array.toArray_toList]; exact e'
def dTuple : DC := fun ds G Q => match ds with
  | [.tup l] => Q (.tup l) G
  | [.str z] => z.cps.size ≤ sizeLine ∧ Q (.tup (signsD z)) G
  | [d] => itemsD d G fun l => Q (.tup l) G
  | _ => False
theorem c_tuple (hc : X.calm = true) : CallD X (.type "tuple") dTuple := by
  rintro pins s σ H xs us Q I rs ⟨ds, G, P, vs, wg, h, k⟩
  cases vs with
  | nil => exact h.elim
  | cons r t =>
    cases t with
    | cons => cases r <;> exact h.elim
    | nil =>
      cases r <;> first | exact h.elim | skip
      · obtain ⟨hz, h⟩ := h
        exact cr_tupStr hc pins s σ H _ us Q I rs ⟨_, rfl, hz, fun p np => k _ _ _ _ h (wg.new np) (Ext.new np) (VR.newT wg np (signs_vr _))⟩
      · obtain ⟨l, ga, h⟩ := h
        obtain ⟨ys, ha, r⟩ := wg _ _ ga
        exact call_tuple_of pins s σ H _ us Q I rs ⟨_, _, rfl, .inl ⟨SqL.of ha, fun p np => k _ _ _ _ h (wg.new np) (Ext.new np) (VR.newT wg np r)⟩⟩
      · rename_i sq r
        exact call_tuple_of pins s σ H _ us Q I rs ⟨_, _, rfl, .inr ⟨(SqT.of sq), op_end wg k h (.tup sq r)⟩⟩
      · rename_i sq r
        exact call_tuple_of pins s σ H _ us Q I rs ⟨_, _, rfl, .inl ⟨sq.sq, fun p np => k _ _ _ _ h (wg.new np) (Ext.new np) (VR.newT wg np r)⟩⟩
def dList : DC := fun ds G Q => match ds with
  | [.tup l] => ∀ p, G p = none → Q (.ref p) (gup G p (.lst l))
  | [.str z] => z.cps.size ≤ sizeLine ∧ ∀ p, G p = none → Q (.ref p) (gup G p (.lst (signsD z)))
  | [d] => itemsD d G fun l => ∀ p, G p = none → Q (.ref p) (gup G p (.lst l))
  | _ => False
theorem c_list (hc : X.calm = true) : CallD X (.type "list") dList := by
  rintro pins s σ H xs us Q I rs ⟨ds, G, P, vs, wg, h, k⟩
  cases vs with
  | nil => exact h.elim
  | cons r t =>
    cases t with
    | cons => cases r <;> exact h.elim
    | nil =>
      cases r <;> first | exact h.elim | skip
      · obtain ⟨hz, h⟩ := h
        exact cr_lstStr hc pins s σ H _ us Q I rs ⟨_, rfl, hz, fun p np => k _ _ _ _ (h p (wg.non np)) (wg.newL np (signs_vr _)) (Ext.newC np) (.ref p)⟩
      · obtain ⟨l, ga, h⟩ := h
        obtain ⟨ys, ha, r⟩ := wg _ _ ga
        exact call_list_of pins s σ H _ us Q I rs ⟨_, _, rfl, .inl (SqL.of ha), fun p np => k _ _ _ _ (h p (wg.non np)) (wg.newL np r) (Ext.newC np) (.ref p)⟩
      · rename_i sq r
        exact call_list_of pins s σ H _ us Q I rs ⟨_, _, rfl, .inr (SqT.of sq), fun p np => k _ _ _ _ (h p (wg.non np)) (wg.newL np r) (Ext.newC np) (.ref p)⟩
      · rename_i sq r
        exact call_list_of pins s σ H _ us Q I rs ⟨_, _, rfl, .inl sq.sq, fun p np => k _ _ _ _ (h p (wg.non np)) (wg.newL np r) (Ext.newC np) (.ref p)⟩
def dStr : DC := fun ds G Q => match ds with
  | [.int i] => i.natAbs.log2 < 1920 ∧ Q (.str (toString i)) G
  | [.str z] => Q (.str z) G
  | _ => False
theorem c_str : CallD X (.type "str") dStr := by
  rintro pins s σ H xs us Q I rs ⟨ds, G, P, vs, wg, h, k⟩
  match ds, vs, h with
  | [.int i], .cons (.int _) .nil, h => exact call_str_int pins s σ H _ us Q I rs ⟨i, rfl, h.1, op_end wg k h.2 (.str _)⟩
  | [.str i], .cons (.str _) .nil, h => exact SkE.call_str_str pins s σ H _ us Q I rs ⟨i, rfl, op_end wg k h (.str _)⟩
/-- isinstance of a built-in class -/
def kindD (d : DV) (G : Gh) (Q : String → Prop) : Prop := match d with
  | .non => Q "NoneType"
  | .bl _ => Q "bool"
  | .int _ => Q "int"
  | .str _ => Q "str"
  | .tup _ => Q "tuple"
  | .ro _ => Q "list"
  | .ref a => match G a with
    | some (.lst _) => Q "list"
    | some (.dic _) => Q "dict"
    | some (.dt _) => Q "dict"
    | _ => False
  | .ty _ => False
  | .exc .. => False
  | .kt _ => False
def isaB (n c : String) : Bool := n == c || (n == "bool" && c == "int")
def dIsi : DC := fun ds G Q => match ds with
  | [d, .ty c] => c ∈ ["int", "bool", "str", "tuple", "list", "dict"] ∧ kindD d G fun n => Q (.bl (isaB n c)) G
  | _ => False
theorem kit_all : ∀ n ∈ ["NoneType", "bool", "int", "str", "tuple", "list", "dict"], ∀ c ∈ ["int", "bool", "str", "tuple", "list", "dict"], ∀ K : PySem.W.Frag, PySem.W.kitOne K (.type n) (.type c) = some (isaB n c) := by
  intro n hn c hc K
  simp only [List.mem_cons, List.not_mem_nil, or_false] at hn hc
  rcases hn with rfl | rfl | rfl | rfl | rfl | rfl | rfl <;> rcases hc with rfl | rfl | rfl | rfl | rfl | rfl <;> rfl
end
end DL

namespace DL
open PySem PySem.Spec L2
open PyProof.Rows hiding St
section
variable {X : Cx} {W : WX} {tg e : Expr} {es : List Expr} {wa wb : DE} {wr : DA} {pos p p2 : Pos}

/-! ### isinstance(x, T), T built in -/
theorem kindD.ty {K : PySem.W.Frag} {H : Hp} {G : Gh} {d : DV} {v : V} {Q : String → Prop} (wg : WG K G H) (r : VR K H v d) (h : kindD d G Q) : ∃ n, n ∈ ["NoneType", "bool", "int", "str", "tuple", "list", "dict"] ∧ TyX K H v (.type n) ∧ Q n := by
  cases r <;> first | exact h.elim | skip
  · exact ⟨"NoneType", by simp, .base (.non), h⟩
  · exact ⟨"bool", by simp, .base (.bl _), h⟩
  · exact ⟨"int", by simp, .base (.int _), h⟩
  · exact ⟨"str", by simp, .base (.str _), h⟩
  · rename_i a
    have h' : (match G a with | some (.lst _) => Q "list" | some (.dic _) => Q "dict" | some (.dt _) => Q "dict" | _ => False) := h
    cases q : G a with
    | none => rw [q] at h'; exact h'.elim
    | some c =>
      rw [q] at h'
      have z := wg _ _ q
      cases c with
      | lst l => obtain ⟨xs, ha, _⟩ := z; exact ⟨"list", by simp, .base (.lst ha), h'⟩
      | dic l => obtain ⟨xs, ha, _⟩ := z; exact ⟨"dict", by simp, .base (.dK ha), h'⟩
      | dt l => obtain ⟨xs, ha, _⟩ := z; exact ⟨"dict", by simp, .base (.dT ha), h'⟩
      | ins C fs => exact h'.elim
      | fz o xs l => exact h'.elim
      | fzt o xs l => exact h'.elim
  · rename_i sq r
    exact ⟨"tuple", by simp, .base (.tup sq), h⟩
  · rename_i rl r
    refine ⟨"list", by simp, ?_, h⟩
    rcases rl with ⟨o, ha⟩ | ((ha | ⟨o, ha⟩) | ⟨o, its, n, hk, hc, _⟩)
    · exact .base (.frz ha)
    · cases ha
    · cases ha
    · exact .kList hk hc
theorem c_isi : CallD X (.builtin "isinstance") dIsi := by
  rintro pins s σ H xs us Q I rs ⟨ds, G, P, vs, wg, h, k⟩
  match ds, vs, h with
  | [d, .ty c], .cons r (.cons (.ty _) .nil), ⟨hc, h⟩ =>
    obtain ⟨n, hn, ty, q⟩ := kindD.ty wg r h
    exact call_isi pins s σ H _ us Q I rs ⟨_, .ty c, .type n, .type c, _, rfl, .ty c, ty, kit_all n hn c hc _, op_end wg k q (.bl _)⟩
/-- a built-in class by its name -/
theorem q_bty {x : Str} {n : String} {u : Value} (hm : X.mg x = none) (hv : bootBuiltins x = some u := by decide +kernel) (r : RelV (.ty n) u := by rfl) (hg : Gl X x := by rfl) (hn : x ≠ "__name__" := by decide) (hd : (x == ("__debug__" : Str)) = false := by decide) : QE X W (.Name x pos) (wC (.ty n)) :=
  q_const (pe_bltn hg hm hv r hn hd) fun _ => .ty _

/-! ### repr of data -/
/-- what repr takes: leaves of fair size, not too much of it -/
structure Fair (d : PyData) : Prop where
  short : d.leavesShort 600 = true
  light : d.bulk ≤ 27000
  show_ : d.showable = true
  lay : d.canLay0 = true
  flat : d.depth ≤ 60
theorem Fair.size {d : PyData} (f : Fair d) : d.shown.length ≤ sizeLine := by
  have h := PyData.shown_le_bulk 600 (by decide) d f.short
  have h2 := f.light
  rw [sizeLine_eq]
  have : (600 + 2) * d.bulk ≤ 602 * 27000 := Nat.mul_le_mul (by decide) h2
  omega
def dRepr : DC := fun ds G Q => match ds with
  | [d] => ∃ e, DR G d e ∧ Fair e ∧ Q (.str e.shown) G
  | _ => False
theorem c_repr (hg : X.A.guards = some []) (hu : X.A.units + 64 < cLine) : CallD X (.builtin "repr") dRepr := by
  rintro pins s σ H xs us Q I rs ⟨ds, G, P, vs, wg, h, k⟩
  match ds, vs, h with
  | [d], .cons (v := v) r .nil, ⟨e, dr, f, q⟩ =>
    have dp := dr.dp wg r
    cases rs with
    | cons ru rt =>
      cases rt
      have done : ∀ (t : Tok) (s' : Shared), L2.Inv X pins σ H s' → EP X pins σ Q (.str e.shown t) s' := fun t s' I' => ⟨.str e.shown, H, I', ⟨t, rfl⟩, op_end wg k q (.str _)⟩
      obtain ⟨as, rd⟩ := Dp.reads I e v _ dp ru
      match e, rd, f, done with
      | .none, .none, f, done => exact PySem.P.repr_of_none (done _ _ (I.tok _))
      | .bool b, .bool _, f, done => exact PySem.P.repr_of_bool (done _ _ (I.tok _))
      | .int i, .int _ t, f, done => exact PySem.P.repr_of_int (by have := f.show_; simpa [PyData.showable] using this) (done _ _ (I.tok _))
      | .str z, .str _ t, f, done => exact PySem.P.repr_of_str (done _ _ (I.tok _)) (hsz := f.size)
      | .list ds, rd@(.list _ _ _ _), f, done =>
        exact repr_of_reads' rd f.show_ (PyData.noDict_hsm (PyData.hasDict_of_canLay _ f.lay)) hg (by have := f.flat; omega) (fun _ _ e => e) (fun h' u tk hk => done u _ (I.kept (t' := tk) hk)) f.size
      | .tuple ds, rd@(.tuple _ _ _ _), f, done =>
        exact repr_of_reads' rd f.show_ (PyData.noDict_hsm (PyData.hasDict_of_canLay _ f.lay)) hg (by have := f.flat; omega) (fun _ _ e => e) (fun h' u tk hk => done u _ (I.kept (t' := tk) hk)) f.size
      | .dict ds, rd, f, done => cases dp

/-! ### what is walked -/
/-- lists, tuples, texts -/
def wiSeq (we : DE) : DI := fun Y env G R => we Y env G fun d G1 => match d with
  | .tup l => R l (fun _ => True) G1
  | .ro l => R l (fun _ => True) G1
  | .ref a => ∃ l, G1 a = some (.lst l) ∧ R l (fun G => G a = some (.lst l)) G1
  | .str z => R (z.cps.toList.map fun c => .str ⟨#[c]⟩) (fun _ => True) G1
  | _ => False
theorem itd_list {K : PySem.W.Frag} {a : Addr} {l : List DV} {G : Gh} {H : Hp} : ItD K (Itl K a) l (fun G => G a = some (.lst l)) G H where
  go := fun i H G d wg _ ga e => by
    obtain ⟨xs, ha, rs⟩ := wg _ _ ga
    obtain ⟨v, ev, rv⟩ := rs.get e
    refine ⟨⟨xs, v, SqL.of ha, ev⟩, ?_⟩
    rintro x H' ⟨rfl, hx⟩
    have := hx xs (SqL.of ha)
    rw [ev] at this; cases this
    exact ⟨wg, Ext.refl, rv⟩
  stop := fun i H G wg _ ga hl => by
    obtain ⟨xs, ha, rs⟩ := wg _ _ ga
    exact ⟨xs, SqL.of ha, by rw [rs.len]; exact Nat.le_of_eq hl⟩
theorem itd_ro {K : PySem.W.Frag} {a : Addr} {xs : List V} {l : List DV} {G : Gh} {H : Hp} (wg0 : WG K G H) (rl : RoL K H a xs) (rs : VRs K H xs l) : ItD K (Itl K a) l (fun _ => True) G H where
  go := fun i H1 G1 d wg x _ e => by
    obtain ⟨v, ev, rv⟩ := rs.get e
    have sq := (rl.ext wg0 x).sq
    refine ⟨⟨xs, v, sq, ev⟩, ?_⟩
    rintro y H' ⟨rfl, hx⟩
    have := hx xs sq
    rw [ev] at this; cases this
    exact ⟨wg, Ext.refl, rv.ext wg0 x⟩
  stop := fun i H1 G1 wg x _ hl => ⟨xs, (rl.ext wg0 x).sq, by rw [rs.len]; exact Nat.le_of_eq hl⟩
theorem itd_tup {K : PySem.W.Frag} {a : Addr} {xs : List V} {l : List DV} {G : Gh} {H : Hp} (wg0 : WG K G H) (rl : SqT K H a xs) (rs : VRs K H xs l) : ItD K (Itt K a) l (fun _ => True) G H where
  go := fun i H1 G1 d wg x _ e => by
    obtain ⟨v, ev, rv⟩ := rs.get e
    have sq := sqT_ext rl wg0 x
    refine ⟨⟨xs, v, sq, ev⟩, ?_⟩
    rintro y H' ⟨rfl, hx⟩
    have := hx xs sq
    rw [ev] at this; cases this
    exact ⟨wg, Ext.refl, rv.ext wg0 x⟩
  stop := fun i H1 G1 wg x _ hl => ⟨xs, sqT_ext rl wg0 x, by rw [rs.len]; exact Nat.le_of_eq hl⟩
theorem itd_str {K : PySem.W.Frag} {z : Str} {G : Gh} {H : Hp} : ItD K (Its z) (z.cps.toList.map fun c => .str ⟨#[c]⟩) (fun _ => True) G H where
  go := fun i H1 G1 d wg x _ e => by
    rw [List.getElem?_map] at e
    cases q : z.cps.toList[i]? with
    | none => rw [q] at e; cases e
    | some c =>
      rw [q] at e; cases e
      have hi : i < z.cps.size := by
        obtain ⟨h, _⟩ := List.getElem?_eq_some_iff.mp q
        simpa using h
      refine ⟨hi, ?_⟩
      rintro y H' ⟨rfl, c', hc, rfl⟩
      have : c' = c := by
        have q' : z.cps[i]? = some c := by simpa using q
        rw [q'] at hc; exact (Option.some.inj hc).symm
      subst this
      exact ⟨wg, Ext.refl, .str _⟩
  stop := fun i H1 G1 wg x _ hl => by
    show z.cps.size ≤ i
    exact Nat.le_of_eq (by simpa using hl)
theorem qi_seq (h : QE X W e wa) : QI X W tg e (wiSeq wa) := by
  refine ⟨⟨?_⟩⟩
  rintro pins s σ H R I ⟨Y, env, G, P, er, wg, hw, k, kx⟩
  refine thn (h.pe.run pins s σ H (fun v H1 => ∃ d G1, VR X.K H1 v d ∧ WG X.K G1 H1 ∧ Ext G H G1 H1 ∧ (match d with
    | .tup l => P l (fun _ => True) G1
    | .ro l => P l (fun _ => True) G1
    | .ref a => ∃ l, G1 a = some (.lst l) ∧ P l (fun G => G a = some (.lst l)) G1
    | .str z => P (z.cps.toList.map fun c => .str ⟨#[c]⟩) (fun _ => True) G1
    | _ => False)) I ⟨Y, env, G, _, er, wg, hw, fun d G1 v H1 h1 w1 x1 r1 => ⟨d, G1, r1, w1, x1, h1⟩, kx⟩) ?_
  rintro u s1 ⟨v, H1, I1, ru, d, G1, r1, w1, x1, h1⟩
  have seqL : ∀ {a : Addr} {xs : List V}, v = .ref a → SqL X.K H1 a xs → R (Itl X.K a) H1 → wpAny (model X.prog X.w) X.A (pyIter u) (PIE X pins σ tg R) X.xe s1 := by
    rintro a xs rfl sq q
    cases (show u = Value.ref a from ru)
    obtain ⟨its, rv, pl, hz⟩ := I1.list sq
    refine wpAny_pyIter_list pl.isList ⟨s1.heap.objs.size, [s1.heap.objs.size], _, _, H1, rfl, ?_, turn_list a _, ?_, ?_, q⟩
    · exact I1.kept (t' := s1.toks) fun b o z => Heap.get?_push_of_some _ z
    · exact ⟨_, Heap.get?_push_size _ rfl, rfl, rfl⟩
    · intro b hb
      obtain rfl : b = s1.heap.objs.size := by simpa using hb
      exact I1.fpOk (Nat.le_refl _) (I1.hok.fresh (Nat.le_refl _))
  have seqT : ∀ {a : Addr} {xs : List V}, v = .ref a → SqT X.K H1 a xs → R (Itt X.K a) H1 → wpAny (model X.prog X.w) X.A (pyIter u) (PIE X pins σ tg R) X.xe s1 := by
    rintro a xs rfl sq q
    cases (show u = Value.ref a from ru)
    obtain ⟨its, rv, pl, hz⟩ := I1.tuple sq
    refine wpAny_pyIter_tuple (show s1.heap.IsTuple a its.toArray from pl) ⟨s1.heap.objs.size, [s1.heap.objs.size], _, _, H1, rfl, ?_, turn_tuple a _, ?_, ?_, q⟩
    · exact I1.kept (t' := s1.toks) fun b o z => Heap.get?_push_of_some _ z
    · exact ⟨_, Heap.get?_push_size _ rfl, rfl, rfl⟩
    · intro b hb
      obtain rfl : b = s1.heap.objs.size := by simpa using hb
      exact I1.fpOk (Nat.le_refl _) (I1.hok.fresh (Nat.le_refl _))
  cases r1 <;> first | exact h1.elim | skip
  · rename_i z
    obtain ⟨t, rfl⟩ := (show ∃ t, u = Value.str z t from ru)
    cases ha : z.cps.all (· < 128)
    · exact wpAny_pyIter_wide ha (pi_one (tk := s1.toks) I1 _ (turn_str _ z t "str_iterator" (.inr rfl)) ⟨_, Heap.get?_push_size _ rfl, rfl, rfl⟩ (k _ _ _ _ _ h1 w1 x1 itd_str))
    · exact wpAny_pyIter_ascii ha (pi_one (tk := s1.toks) I1 _ (turn_str _ z t "str_ascii_iterator" (.inl rfl)) ⟨_, Heap.get?_push_size _ rfl, rfl, rfl⟩ (k _ _ _ _ _ h1 w1 x1 itd_str))
  · obtain ⟨l, ga, h1⟩ := h1
    obtain ⟨xs, ha, rs⟩ := w1 _ _ ga
    exact seqL rfl (SqL.of ha) (k _ _ _ _ _ h1 w1 x1 itd_list)
  · rename_i sq rs
    exact seqT rfl (SqT.of sq) (k _ _ _ _ _ h1 w1 x1 (itd_tup w1 (SqT.of sq) rs))
  · rename_i rl rs
    exact seqL rfl rl.sq (k _ _ _ _ _ h1 w1 x1 (itd_ro w1 rl rs))
/-- range(n), range(a, b) -/
def intsFrom (lo : Int) : Nat → List DV
  | 0 => []
  | n + 1 => .int lo :: intsFrom (lo + 1) n
theorem intsFrom_len (lo : Int) : ∀ n, (intsFrom lo n).length = n
  | 0 => rfl
  | n + 1 => by simp [intsFrom, intsFrom_len (lo + 1) n]
theorem intsFrom_get : ∀ (n : Nat) (lo : Int) (i : Nat), (intsFrom lo n)[i]? = if i < n then some (.int (lo + i)) else none
  | 0, lo, i => by simp [intsFrom]
  | n + 1, lo, 0 => by simp [intsFrom]
  | n + 1, lo, i + 1 => by
    rw [intsFrom, List.getElem?_cons_succ, intsFrom_get n (lo + 1) i]
    by_cases h : i < n
    · have e : lo + 1 + (i : Int) = lo + ((i + 1 : Nat) : Int) := by omega
      simp [h, e]
    · simp [h]
theorem itd_range {K : PySem.W.Frag} {lo : Int} {n : Nat} {G : Gh} {H : Hp} : ItD K (Itr lo n) (intsFrom lo n) (fun _ => True) G H where
  go := fun i H1 G1 d wg x _ e => by
    rw [intsFrom_get] at e
    split at e
    · rename_i hi
      cases e
      refine ⟨hi, ?_⟩
      rintro y H' ⟨rfl, rfl⟩
      exact ⟨wg, Ext.refl, .int _⟩
    · cases e
  stop := fun i H1 G1 wg x _ hl => by
    rw [intsFrom_len] at hl
    exact Nat.le_of_eq hl
def wiRange1 (wr : DA) : DI := fun Y env G R => wr Y env G fun ds G1 => match ds with
  | [.int j] => (-(2 ^ 62) ≤ j ∧ j < 2 ^ 62) ∧ R (intsFrom 0 j.toNat) (fun _ => True) G1
  | _ => False
def wiRange2 (wr : DA) : DI := fun Y env G R => wr Y env G fun ds G1 => match ds with
  | [.int i, .int j] => (-(2 ^ 62) ≤ i ∧ i < 2 ^ 62 ∧ -(2 ^ 62) ≤ j ∧ j < 2 ^ 62) ∧ R (intsFrom i (j - i).toNat) (fun _ => True) G1
  | _ => False
theorem qi_range1 (hm : X.mg "range" = none) (ha : QA X W [e] wr) (hg : Gl X "range" := by rfl) (hs : starEach [e] X.env = [(false, eval e X.env)] := by rfl) : QI X W tg (.Call (.Name "range" p) [e] [] pos) (wiRange1 wr) :=
  ⟨PI.wk (pi_range1 hg hm ha.pa hs) fun σ H R ⟨Y, env, G, P, er, wg, h, k, kx⟩ => ⟨Y, env, G, _, er, wg, h, fun ds G1 vs H1 h1 w1 x1 r1 => by
    cases r1 with
    | nil => exact h1.elim
    | cons r t =>
      cases t with
      | cons => cases r <;> exact h1.elim
      | nil =>
        cases r <;> first | exact h1.elim | skip
        obtain ⟨⟨j1, j2⟩, h1⟩ := h1
        exact ⟨_, rfl, j1, j2, k _ _ _ _ _ h1 w1 x1 itd_range⟩, kx⟩⟩
theorem qi_range2 {e2 : Expr} (hm : X.mg "range" = none) (ha : QA X W [e, e2] wr) (hg : Gl X "range" := by rfl) (hs : starEach [e, e2] X.env = [(false, eval e X.env), (false, eval e2 X.env)] := by rfl) (hs2 : starEach [e2] X.env = [(false, eval e2 X.env)] := by rfl) :
    QI X W tg (.Call (.Name "range" p) [e, e2] [] pos) (wiRange2 wr) :=
  ⟨PI.wk (pi_range2 hg hm ha.pa hs hs2) fun σ H R ⟨Y, env, G, P, er, wg, h, k, kx⟩ => ⟨Y, env, G, _, er, wg, h, fun ds G1 vs H1 h1 w1 x1 r1 => by
    cases r1 with
    | nil => exact h1.elim
    | cons r t =>
      cases t with
      | nil => cases r <;> exact h1.elim
      | cons r2 t =>
        cases t with
        | cons => cases r <;> first | exact h1.elim | (cases r2 <;> exact h1.elim)
        | nil =>
          cases r <;> first | exact h1.elim | skip
          cases r2 <;> first | exact h1.elim | skip
          obtain ⟨j1, h1⟩ := h1
          exact ⟨_, _, rfl, j1, k _ _ _ _ _ h1 w1 x1 itd_range⟩, kx⟩⟩
end
end DL

namespace DL
open PySem PySem.Spec L2
open PyProof.Rows hiding St

/-! ### lists and tuples alike, as sources of a walk -/
def SqB (K : PySem.W.Frag) (H : Hp) (t : Bool) (a : Addr) (xs : List V) : Prop := if t = true then SqT K H a xs else SqL K H a xs
def ItB (h : Heap) (t : Bool) (it a : Addr) (i : Nat) : Prop := if t = true then h.IsTupleIter it a i else h.IsListIter it a i
def SrcB (h : Heap) (t : Bool) (a : Addr) (its : Array Value) : Prop := if t = true then h.IsTuple a its else h.IsList a its
def itObj (t : Bool) (a : Addr) : Obj := { cls := .type (if t = true then "tuple_iterator" else "list_iterator"), data := .fields #[.ref a, .int 0 0] }
theorem drawsB {prog : Program} {w : World} {A : Around} (hh : A.handled = none) (t : Bool) (it a : Addr) (hne : a ≠ it) (its : Array Value) :
    Draws prog w A it [it, a] its.size (fun i v => its[i]? = some v) (fun i h => ItB h t it a i ∧ SrcB h t a its) := by
  cases t with
  | true => exact Draws.tuple hh it a hne its
  | false => exact Draws.list hh it a hne its
theorem beginsB (t : Bool) (a : Addr) (its : Array Value) : Begins (.ref a) (itObj t a) fun h => SrcB h t a its := by
  cases t with
  | true => exact begins_tuple a its
  | false => exact begins_list a its
theorem ItB.start {h : Heap} {t : Bool} {it a : Addr} (e : h.get? it = some (itObj t a)) : ItB h t it a 0 := by
  cases t with
  | true => exact ⟨_, e, rfl, rfl⟩
  | false => exact ⟨_, e, rfl, rfl⟩
theorem ItB.obj {h : Heap} {t : Bool} {it a : Addr} {i : Nat} (x : ItB h t it a i) : ∃ o, h.get? it = some o ∧ ∀ v, o.data ≠ .cell v := by
  cases t with
  | true => obtain ⟨o, e, _, d⟩ := (show h.IsTupleIter it a i from x); exact ⟨o, e, fun v q => by rw [d] at q; cases q⟩
  | false => obtain ⟨o, e, _, d⟩ := (show h.IsListIter it a i from x); exact ⟨o, e, fun v q => by rw [d] at q; cases q⟩
theorem ItB.at {h h' : Heap} {t : Bool} {it a : Addr} {i : Nat} (x : ItB h t it a i) (k : ∀ o, h.get? it = some o → h'.get? it = some o) : ItB h' t it a i := by
  cases t with
  | true => exact Heap.IsTupleIter.at (show h.IsTupleIter it a i from x) k
  | false => exact Heap.IsListIter.at (show h.IsListIter it a i from x) k
section
variable {X : Cx} {pins : List (Addr × Obj)} {σ : L2.St} {H : Hp} {s : Shared}
theorem srcB (I : L2.Inv X pins σ H s) {t : Bool} {a : Addr} {xs : List V} (h : SqB X.K H t a xs) : ∃ its : List Value, Vals xs its ∧ SrcB s.heap t a its.toArray ∧ xs.length ≤ sizeLine ∧ a < s.heap.objs.size := by
  cases t with
  | true =>
    obtain ⟨its, r, p, z⟩ := I.tuple (show SqT X.K H a xs from h)
    obtain ⟨o, e, _⟩ := id p
    exact ⟨its, r, p, z, Heap.lt_size e⟩
  | false =>
    obtain ⟨its, r, p, z⟩ := I.list (show SqL X.K H a xs from h)
    exact ⟨its, r, p.isList, z, p.lt⟩
theorem SqB.inj (I : L2.Inv X pins σ H s) {t : Bool} {a : Addr} {xs ys : List V} (h : SqB X.K H t a xs) (h' : SqB X.K H t a ys) : xs = ys := by
  cases t with
  | true => exact I.tuple_inj h h'
  | false => exact I.list_inj h h'
/-- one turn of an iterator of new tuples -/
theorem wt_item {E : Value → Shared → Prop} {it : Addr} {fp wr : List Addr} {n : Nat} {Pt : Nat → Array Value → Prop} {St : Nat → Heap → Prop} {Mid : Nat → Addr → Heap → Prop} {i : Nat} {elts : List Expr} {k : Nat} {pos : Pos}
    (W : WalksT X.prog X.w X.A it fp wr n Pt St Mid) (I : L2.Inv X pins σ H s) (hw : ∀ b ∈ wr, FpOk X pins H b) (hi : i < n) (st : St i s.heap) {xs : List V} (hv : ∀ vals, Pt i vals → Vals xs vals.toList) (hz : xs.length ≤ sizeLine) :
    wpAny (model X.prog X.w) X.A (pyNext (.ref it)) (fun r s1 => ∃ u, r = some u ∧
      wpAny (model X.prog X.w) X.A (letOwnedTupleGo (.Tuple elts k pos) (.ref it) u) (fun _ s2 => ∃ T, L2.Inv X pins σ (upd H T (.tup xs)) s2 ∧ u = .ref T ∧ s.heap.objs.size ≤ T ∧ St (i + 1) s2.heap) E s1) E s := by
  refine W.item i s _ E hi st fun T vals h' tk hP hT tup mid hk => ⟨_, rfl, ?_⟩
  refine W.go elts k pos i T _ _ _ mid fun h'' st2 hk2 => ⟨T, ?_, rfl, hT, st2⟩
  have tup2 : h''.IsTuple T vals := tup.at fun o e => hk2 T o (W.apart i T h' mid) e
  refine I.turnedNew (t' := tk) (ch := wr) (fun b o hb e => hk2 b o hb (hk b o hb e)) hw hT ?_
  exact ⟨hz, vals.toList, hv vals hP, tup2⟩
theorem wt_done {E : Value → Shared → Prop} {it : Addr} {fp wr : List Addr} {n : Nat} {Pt : Nat → Array Value → Prop} {St : Nat → Heap → Prop} {Mid : Nat → Addr → Heap → Prop}
    (W : WalksT X.prog X.w X.A it fp wr n Pt St Mid) (I : L2.Inv X pins σ H s) (hw : ∀ b ∈ wr, FpOk X pins H b) (st : St n s.heap) :
    wpAny (model X.prog X.w) X.A (pyNext (.ref it)) (fun r s1 => r = none ∧ L2.Inv X pins σ H s1) E s :=
  W.done s _ E st fun h' tk hk => ⟨rfl, I.turnedL (t' := tk) (ch := wr) hk hw⟩
end

/-! ### zip of two -/
def Itz2 (K : PySem.W.Frag) (t1 t2 : Bool) (a b : Addr) : It :=
  ⟨fun i H => ∃ (xs ys : List V) (x y : V), SqB K H t1 a xs ∧ SqB K H t2 b ys ∧ xs[i]? = some x ∧ ys[i]? = some y,
    fun i H v H' => ∃ T x y, v = .ref T ∧ H T = none ∧ H' = upd H T (.tup [x, y]) ∧ (∀ xs, SqB K H t1 a xs → xs[i]? = some x) ∧ ∀ ys, SqB K H t2 b ys → ys[i]? = some y,
    fun i H => ∃ xs ys : List V, SqB K H t1 a xs ∧ SqB K H t2 b ys ∧ min xs.length ys.length = i⟩
theorem min_l {a b i : Nat} (h : min a b = i) : i ≤ a ∧ i ≤ b := ⟨h ▸ Nat.min_le_left _ _, h ▸ Nat.min_le_right _ _⟩
theorem turn_z2 {P : Program} {w : World} {K : PySem.W.Frag} {elts : List Expr} {kk : Nat} {tpos : Pos} {t1 t2 : Bool} {a b : Addr} {N : Nat} (la : a < N) (lb : b < N) :
    Turn P w K (.Tuple elts kk tpos) (Itz2 K t1 t2 a b) [N + 4, N + 2, N + 3, N, N + 1] (N + 4)
      (fun i h => IsZip h (N + 4) (N + 2) (N + 3) .none ∧ IsTupOf2 h (N + 2) (.ref N) (.ref (N + 1)) ∧ (∃ x y, IsTupOf2 h (N + 3) x y) ∧ ItB h t1 N a i ∧ ItB h t2 (N + 1) b i) where
  mem := by simp
  obj := fun i h st c hc => by
    obtain ⟨hz, hTI, ⟨x, y, hTO⟩, h1, h2⟩ := st
    have e' : c = N + 4 ∨ c = N + 2 ∨ c = N + 3 ∨ c = N ∨ c = N + 1 := by simpa using hc
    rcases e' with q | q | q | q | q
    · rw [q]; exact ⟨_, hz, fun v q => nomatch q⟩
    · rw [q]; exact ⟨_, hTI, fun v q => nomatch q⟩
    · rw [q]; exact ⟨_, hTO, fun v q => nomatch q⟩
    · rw [q]; exact h1.obj
    · rw [q]; exact h2.obj
  keep := fun i h h' st k => by
    obtain ⟨hz, hTI, ⟨x, y, hTO⟩, h1, h2⟩ := st
    exact ⟨k _ (by simp) _ hz, k _ (by simp) _ hTI, ⟨x, y, k _ (by simp) _ hTO⟩, h1.at fun o q => k N (by simp) o q, h2.at fun o q => k (N + 1) (by simp) o q⟩
  item := by
    intro X hP hw hK hc i pins s σ H E I hf st hg
    subst hP hw hK
    obtain ⟨hz, hTI, hTO, h1, h2⟩ := st
    obtain ⟨xs, ys, x, y, hqx, hqy, hx, hy⟩ := hg
    obtain ⟨its, rv, p, _, _⟩ := srcB I hqx
    obtain ⟨its2, rv2, p2, _, _⟩ := srcB I hqy
    obtain ⟨u, hu, ru⟩ := rv.get hx
    obtain ⟨u2, hu2, ru2⟩ := rv2.get hy
    have S : ZipSep2 (N + 4) (N + 2) (N + 3) N (N + 1) [N, a] [N + 1, b] := zip_sep2 (N := N) (fp1 := [a]) (fp2 := [b]) (by simpa using la) (by simpa using lb)
    have D1 := drawsB (prog := X.prog) (w := X.w) (A := X.A.in1) (I.ok.hd hc) t1 N a (Nat.ne_of_lt la) its.toArray
    have D2 := drawsB (prog := X.prog) (w := X.w) (A := X.A.in1) (I.ok.hd hc) t2 (N + 1) b (Nat.ne_of_lt (Nat.lt_succ_of_lt lb)) its2.toArray
    have l1 : i < its.toArray.size := (List.getElem?_eq_some_iff.mp hu).1
    have l2 : i < its2.toArray.size := (List.getElem?_eq_some_iff.mp hu2).1
    refine thn (wt_item (elts := elts) (k := kk) (pos := tpos) (xs := [x, y]) (WalksT.zipD2 S D1 D2) I (fun c hcm => hf c ?_) (Nat.lt_min.mpr ⟨l1, l2⟩) ⟨hz, hTI, hTO, ⟨h1, p⟩, ⟨h2, p2⟩⟩ (fun vals hv => ?_) (by show 2 ≤ sizeLine; decide)) ?_
    · have e' : c = N + 4 ∨ c = N + 3 ∨ c = N ∨ c = N + 1 := by simpa using hcm
      rcases e' with q | q | q | q <;> rw [q] <;> simp
    · obtain ⟨x1, x2, e1, e2, rfl⟩ := hv
      have q1 : x1 = u := by
        have z : its[i]? = some x1 := by simpa using e1
        rw [hu] at z; exact (Option.some.inj z).symm
      have q2 : x2 = u2 := by
        have z : its2[i]? = some x2 := by simpa using e2
        rw [hu2] at z; exact (Option.some.inj z).symm
      subst q1 q2
      exact .cons ru (.cons ru2 .nil)
    · rintro r s1 ⟨v, hr, hgo⟩
      refine ⟨v, hr, thn hgo ?_⟩
      rintro _ s2 ⟨T, I2, rfl, hT, st2⟩
      have nT : H T = none := I.hok.fresh hT
      refine ⟨.ref T, _, I2, rfl, ⟨T, x, y, rfl, nT, rfl, fun l hl => by rw [SqB.inj I hl hqx]; exact hx, fun l hl => by rw [SqB.inj I hl hqy]; exact hy⟩, ?_, fun c hcm => ?_⟩
      · obtain ⟨z1, z2, z3, z4, z5⟩ := st2
        exact ⟨z1, z2, z3, z4.1, z5.1⟩
      · have hlt : c < s.heap.objs.size := by
          have e' : c = N + 4 ∨ c = N + 2 ∨ c = N + 3 ∨ c = N ∨ c = N + 1 := by simpa using hcm
          obtain ⟨_, _, hTO⟩ := hTO
          rcases e' with q | q | q | q | q
          · rw [q]; exact Heap.lt_size hz
          · rw [q]; exact Heap.lt_size hTI
          · rw [q]; exact Heap.lt_size hTO
          · rw [q]; obtain ⟨_, e1, _⟩ := h1.obj; exact Heap.lt_size e1
          · rw [q]; obtain ⟨_, e2, _⟩ := h2.obj; exact Heap.lt_size e2
        rw [upd_ne (Nat.ne_of_lt (Nat.lt_of_lt_of_le hlt hT))]
        exact (hf c hcm).1
  done := by
    intro X hP hw hK hc i pins s σ H E I hf st hg
    subst hP hw hK
    obtain ⟨hz, hTI, hTO, h1, h2⟩ := st
    obtain ⟨xs, ys, hqx, hqy, hend⟩ := hg
    obtain ⟨its, rv, p, _, _⟩ := srcB I hqx
    obtain ⟨its2, rv2, p2, _, _⟩ := srcB I hqy
    have S : ZipSep2 (N + 4) (N + 2) (N + 3) N (N + 1) [N, a] [N + 1, b] := zip_sep2 (N := N) (fp1 := [a]) (fp2 := [b]) (by simpa using la) (by simpa using lb)
    have D1 := drawsB (prog := X.prog) (w := X.w) (A := X.A.in1) (I.ok.hd hc) t1 N a (Nat.ne_of_lt la) its.toArray
    have D2 := drawsB (prog := X.prog) (w := X.w) (A := X.A.in1) (I.ok.hd hc) t2 (N + 1) b (Nat.ne_of_lt (Nat.lt_succ_of_lt lb)) its2.toArray
    have e : i = min its.toArray.size its2.toArray.size := by rw [← hend, List.size_toArray, List.size_toArray, rv.length, rv2.length]
    subst e
    refine wt_done (WalksT.zipD2 S D1 D2) I (fun c hcm => hf c ?_) ⟨hz, hTI, hTO, ⟨h1, p⟩, ⟨h2, p2⟩⟩
    have e' : c = N + 4 ∨ c = N + 3 ∨ c = N ∨ c = N + 1 := by simpa using hcm
    rcases e' with q | q | q | q <;> rw [q] <;> simp
  self := fun A i s Q E st h => wpAny_pyIter_zip st.1 h

/-- a source: a tuple, a list -/
def srcD (d : DV) (G : Gh) (Q : List DV → (Gh → Prop) → Prop) : Prop := match d with
  | .tup l => Q l fun _ => True
  | .ro l => Q l fun _ => True
  | .ref a => ∃ l, G a = some (.lst l) ∧ Q l fun G => G a = some (.lst l)
  | _ => False
/-- .. stands there -/
structure SrcOk (K : PySem.W.Frag) (t : Bool) (a : Addr) (l : List DV) (stay : Gh → Prop) (G0 : Gh) (H0 : Hp) : Prop where
  all : ∀ G H, WG K G H → Ext G0 H0 G H → stay G → ∃ xs, SqB K H t a xs ∧ VRs K H xs l
theorem srcD.ok {K : PySem.W.Frag} {H : Hp} {G : Gh} {d : DV} {v : V} {Q : List DV → (Gh → Prop) → Prop} (wg : WG K G H) (r : VR K H v d) (h : srcD d G Q) : ∃ t a l stay, v = .ref a ∧ Q l stay ∧ stay G ∧ SrcOk K t a l stay G H := by
  cases r <;> first | exact h.elim | skip
  · rename_i a
    obtain ⟨l, ga, q⟩ := h
    exact ⟨false, a, l, _, rfl, q, ga, ⟨fun G' H' w' x' e' => by
      obtain ⟨xs, ha, rs⟩ := w' _ _ e'
      exact ⟨xs, SqL.of ha, rs⟩⟩⟩
  · rename_i a xs l sq rs
    exact ⟨true, a, l, _, rfl, h, trivial, ⟨fun G' H' w' x' e' => ⟨xs, sqT_ext (SqT.of sq) wg x', rs.ext wg x'⟩⟩⟩
  · rename_i a xs l sq rs
    exact ⟨false, a, l, _, rfl, h, trivial, ⟨fun G' H' w' x' e' => ⟨xs, (sq.ext wg x').sq, rs.ext wg x'⟩⟩⟩
def zip2L : List DV → List DV → List DV
  | a :: r, b :: s => .tup [a, b] :: zip2L r s
  | _, _ => []
theorem zip2L_len : ∀ l m : List DV, (zip2L l m).length = min l.length m.length
  | [], m => by simp [zip2L]
  | a :: r, [] => by simp [zip2L]
  | a :: r, b :: s => by simp [zip2L, zip2L_len r s]
theorem zip2L_get : ∀ (l m : List DV) (i : Nat) (d : DV), (zip2L l m)[i]? = some d → ∃ x y, d = .tup [x, y] ∧ l[i]? = some x ∧ m[i]? = some y
  | [], m, i, d, h => by simp [zip2L] at h
  | a :: r, [], i, d, h => by simp [zip2L] at h
  | a :: r, b :: s, 0, d, h => by simp [zip2L] at h; exact ⟨a, b, h.symm, rfl, rfl⟩
  | a :: r, b :: s, i + 1, d, h => by
    obtain ⟨x, y, e, e1, e2⟩ := zip2L_get r s i d (by simpa [zip2L] using h)
    exact ⟨x, y, e, by simpa using e1, by simpa using e2⟩
theorem itd_z2 {K : PySem.W.Frag} {t1 t2 : Bool} {a b : Addr} {l m : List DV} {s1 s2 : Gh → Prop} {G : Gh} {H : Hp} (o1 : SrcOk K t1 a l s1 G H) (o2 : SrcOk K t2 b m s2 G H) : ItD K (Itz2 K t1 t2 a b) (zip2L l m) (fun G => s1 G ∧ s2 G) G H where
  go := fun i H1 G1 d wg x st e => by
    obtain ⟨dx, dy, rfl, ex, ey⟩ := zip2L_get l m i d e
    obtain ⟨xs, qx, rx⟩ := o1.all _ _ wg x st.1
    obtain ⟨ys, qy, ry⟩ := o2.all _ _ wg x st.2
    obtain ⟨v, ev, rv⟩ := rx.get ex
    obtain ⟨u, eu, ru⟩ := ry.get ey
    refine ⟨⟨xs, ys, v, u, qx, qy, ev, eu⟩, ?_⟩
    rintro z H' ⟨T, x', y', rfl, nT, rfl, f1, f2⟩
    have q1 := f1 xs qx
    rw [ev] at q1; cases q1
    have q2 := f2 ys qy
    rw [eu] at q2; cases q2
    exact ⟨wg.new nT, Ext.new nT, VR.newT wg nT (.cons rv (.cons ru .nil))⟩
  stop := fun i H1 G1 wg x st hl => by
    obtain ⟨xs, qx, rx⟩ := o1.all _ _ wg x st.1
    obtain ⟨ys, qy, ry⟩ := o2.all _ _ wg x st.2
    exact ⟨xs, ys, qx, qy, by rw [rx.len, ry.len, ← zip2L_len]; exact hl⟩
def wiZip2 (wr : DA) : DI := fun Y env G R => wr Y env G fun ds G1 => match ds with
  | [x, y] => srcD x G1 fun l s1 => srcD y G1 fun m s2 => R (zip2L l m) (fun G => s1 G ∧ s2 G) G1
  | _ => False
section
variable {X : Cx} {W : WX} {e e2 : Expr} {wr : DA} {pos p tpos : Pos} {elts : List Expr} {kk : Nat}
theorem qi_zip2 (hm : X.mg "zip" = none) (ha : QA X W [e, e2] wr) (hg : Gl X "zip" := by rfl) (hs : starEach [e, e2] X.env = (false, eval e X.env) :: starEach [e2] X.env := by rfl) (hpl : (backTo pos (starEach [e2] X.env)).any (·.1) = false := by rfl) :
    QI X W (.Tuple elts kk tpos) (.Call (.Name "zip" p) [e, e2] [] pos) (wiZip2 wr) := by
  refine ⟨⟨?_⟩⟩
  rintro pins s σ H R I ⟨Y, env, G, P, er, wg, hw, k, kx⟩
  refine Call_ (ld_blt I hg hm PyProof.Rows.boot_zip (PyProof.Rows.callWith_type1 (thn (ha.pa.run pos pins s σ H (fun vs H1 => ∃ ds G1, VRs X.K H1 vs ds ∧ WG X.K G1 H1 ∧ Ext G H G1 H1 ∧ (match ds with
    | [x, y] => srcD x G1 fun l s1 => srcD y G1 fun m s2 => P (zip2L l m) (fun G => s1 G ∧ s2 G) G1
    | _ => False)) I ⟨Y, env, G, _, er, wg, hw, fun ds G1 vs H1 h1 w1 x1 r1 => ⟨ds, G1, r1, w1, x1, h1⟩, kx⟩) fun us s1 ⟨vs, H1, I1, r1, ds, G1, rs, w1, x1, h1⟩ => ?_) hs hpl))
  match ds, rs, h1 with
  | [dx, dy], .cons rx (.cons ry .nil), h1 =>
    obtain ⟨t1, a, l, st1, rfl, h2, sg1, ok1⟩ := srcD.ok w1 rx h1
    obtain ⟨t2, b, m, st2, rfl, h3, sg2, ok2⟩ := srcD.ok w1 ry h2
    cases r1 with
    | cons ra rr =>
      cases rr with
      | cons rb rr =>
        cases rr
        cases ra
        cases rb
        obtain ⟨xs, qx, _⟩ := ok1.all _ _ w1 Ext.refl sg1
        obtain ⟨ys, qy, _⟩ := ok2.all _ _ w1 Ext.refl sg2
        obtain ⟨its, _, p1, _, la⟩ := srcB I1 qx
        obtain ⟨its2, _, p2, _, lb⟩ := srcB I1 qy
        refine zip_begins2 (beginsB t1 a its.toArray) (beginsB t2 b its2.toArray) p1 p2 fun h' hz hTI hTO h1 h2 hsz hk => wpAny_pyIter_zip hz ?_
        have I2 : L2.Inv X pins σ H1 { s1 with heap := h' } := I1.kept (t' := s1.toks) hk
        refine ⟨s1.heap.objs.size + 4, _, _, _, H1, rfl, I2, turn_z2 (t1 := t1) (t2 := t2) la lb, ⟨hz, hTI, ⟨_, _, hTO⟩, ItB.start h1, ItB.start h2⟩, fun c hcm => ?_, k _ _ _ _ _ h3 w1 x1 (itd_z2 ok1 ok2)⟩
        have e' : c = s1.heap.objs.size + 4 ∨ c = s1.heap.objs.size + 2 ∨ c = s1.heap.objs.size + 3 ∨ c = s1.heap.objs.size ∨ c = s1.heap.objs.size + 1 := by simpa using hcm
        have hle : s1.heap.objs.size ≤ c := by
          rcases e' with z | z | z | z | z <;> (rw [z]; first | exact Nat.le_refl _ | exact Nat.le_add_right _ _)
        exact I1.fpOk hle (I1.hok.fresh hle)
end
end DL

namespace DL
open PySem PySem.Spec L2
open PyProof.Rows hiding St

/-! ### what the printed derivations use -/
section
variable {X : Cx} {W : WX} {e : Expr} {es : List Expr} {wr : DA} {pos p spos : Pos}
/-- y = [..] on one line, y a plain local -/
theorem qs_setLc (i : Nat) {y : Str} {py : Pos} {elt tg iter : Expr} {ifs : List Expr} {scope : Scope} (own : List (Str × Nat)) {wi : DI} {t : TG} {g : DG} {tt : DT} {te : DE} (hc : X.calm = true) (hN : X.N.Nodup) (hi : QI X W tg iter wi) (ok : blkC X.N X.env.scope scope own = true)
    (hg : ∀ (s : Shared) (H : Hp) (C : Addr) (cl : List (Str × Addr)) (fp : List Addr), PG (X.blk s H scope (compEnvC scope cl C X.env) fp) tg t) (go : GOk X.K (own.map (·.2)) t g)
    (ht : ∀ (s : Shared) (H : Hp) (C : Addr) (cl : List (Str × Addr)) (fp : List Addr), QTs (X.blk s H scope (compEnvC scope cl C X.env) fp) W0 ifs tt)
    (he : ∀ (s : Shared) (H : Hp) (C : Addr) (cl : List (Str × Addr)) (fp : List Addr), QE (X.blk s H scope (compEnvC scope cl C X.env) fp) W0 elt te) (hs : ∀ x, foldedSetIterable iter X.env x = pure x := by intro _; rfl)
    (hy : X.N[i]? = some y := by rfl) (hyl : X.env.scope.names.lookup y = some .local := by rfl) (hk : X.env.scope.kind = .function := by rfl) (hl : (py.line == pos.line) = true := by rfl)
    (ha : (scope.names.any fun (n, k) => n == y && (k == .local || k == .cell)) = false := by rfl) :
    QS X W (.Assign [.Name y py] (.ListComp elt [⟨tg, iter, ifs, 0⟩] scope pos) spos) (wSet i (wLc (own.map (·.2)) wi g tt te)) :=
  ⟨PS.wk (ps_setLc (i := i) hc hN hy hyl (sw_true hk hyl hl ha) hi.pi (blkOk_by ok) hg (fun a b c d f => (ht a b c d f).pts) (fun a b c d f => (he a b c d f).pe) hs) fun D σ H ⟨env, G, De, er, wg, h, le⟩ =>
    lc_parts go ⟨_, env, G, _, er, wg, h, fun d G' v H' p w' x' r => le.nx _ _ _ _ p ((er.ext wg x').set r i) w' x', le.xle wg er⟩⟩
/-- a def that may be called by its name -/
structure Has (P : Program) (w : World) (K : PySem.W.Frag) (mg : Str → Option Value) (base : Heap) (k : Nat) (x : Str) (ps : List Str) (d : DF) : Prop where
  ex : ∃ (f : Addr) (fd : FuncData), FG P w K mg base k f fd ps d ∧ mg x = some (.ref f) ∧ PySem.W.keepIn K (.ref f) = true ∧ Binds K fd ps []
theorem q_callH {x : Str} {ps : List Str} {d : DF} {j k : Nat} (F : Has X.prog X.w X.K X.mg X.base k x ps d) (hgd : X.A.guards = some []) (hr : Room j X.A) (tk : Takes X W) (ha : QA X W (e :: es) wr) (hjk : k ≤ j := by decide)
    (hg : Gl X x := by rfl) (hdb : (x == ("__debug__" : Str)) = false := by decide) (he : starEach (e :: es) X.env = (false, eval e X.env) :: starEach es X.env := by rfl) (hpl : (backTo pos (starEach es X.env)).any (·.1) = false := by rfl) :
    QE X W (.Call (.Name x p) (e :: es) [] pos) (wCall d wr) := by
  obtain ⟨f, fd, F, m, kp, b⟩ := F.ex
  exact q_call F hgd (hr.mono hjk) m kp b tk ha hg hdb he hpl
theorem q_callH0 {x : Str} {ps : List Str} {d : DF} {j k : Nat} (F : Has X.prog X.w X.K X.mg X.base k x ps d) (hgd : X.A.guards = some []) (hr : Room j X.A) (tk : Takes X W) (hjk : k ≤ j := by decide)
    (hg : Gl X x := by rfl) (hdb : (x == ("__debug__" : Str)) = false := by decide) : QE X W (.Call (.Name x p) [] [] pos) (wCall d wNil) := by
  obtain ⟨f, fd, F, m, kp, b⟩ := F.ex
  exact q_call0 F hgd (hr.mono hjk) m kp b tk hg hdb
/-- a def at its place in the module -/
structure DefAt (K : PySem.W.Frag) (mg : Str → Option Value) (x : Str) (st : Stmt) (ps : List Str) : Prop where
  ex : ∃ (f : Addr) (fd : FuncData), L2.Fun K x x st f fd ∧ Binds K fd ps [] ∧ mg x = some (.ref f)
theorem DefAt.has {P : Program} {w : World} {K : PySem.W.Frag} {mg : Str → Option Value} {base : Heap} {k : Nat} {x : Str} {st : Stmt} {ps : List Str} {d : DF} (D : DefAt K mg x st ps) (h : ∀ f fd, L2.Fun K x x st f fd → FG P w K mg base k f fd ps d) : Has P w K mg base k x ps d := by
  obtain ⟨f, fd, F, b, m⟩ := D.ex
  exact ⟨f, fd, h f fd F, m, F.kp, b⟩
theorem qg_sub' {o i : Expr} {wo wi : DE} {r : D3} (ho : QE X W o wo) (hi : QE X W i wi) (hs : SetD X r) (ha : ∀ v, assign (.Subscript o i pos) X.env v = (do
      let ov ← holding [v] (eval o X.env)
      let iv ← holding [v, ov] (eval i X.env)
      standAt pos
      holding [v, ov, iv] (setItem ov iv v)
      release [v, ov, iv] []) := by intro _; rfl) : QG X (.Subscript o i pos) (gSub (TEl X.K W wo) (TEl X.K W wi) (lift3 X.K r)) (wgSub wo wi r) :=
  qg_sub ho hi hs (pg_sub ho.pe hi.pe hs ha)
/-- how many a target takes -/
def LenG (n : Nat) (gs : DGs) : Prop := ∀ ds env G P, gs ds env G P → ds.length = n
def LiveG (g : DG) : Prop := ∀ d env G (P : Dv → Gh → Prop), g d env G P → ∃ e g', P e g'
theorem lenG_nil : LenG 0 wgNil := fun ds env G P h => by cases ds with | nil => rfl | cons => exact h.elim
theorem lenG_cons {n : Nat} {g : DG} {gs : DGs} (l : LiveG g) (h2 : LenG n gs) : LenG (n + 1) (wgCons g gs) := fun ds env G P h => by
  cases ds with
  | nil => exact h.elim
  | cons d ds => obtain ⟨e, g', q⟩ := l _ _ _ _ h; simp [h2 _ _ _ _ q]
theorem liveG_name {i : Nat} : LiveG (wgName i) := fun _ _ _ _ h => ⟨_, _, h⟩
theorem qg_tupN {tgs : List Expr} {k : Nat} {ts : TGs} {gs : DGs} {n : Nat} (hc : X.calm = true) (h : QGs X tgs ts gs) (hl : LenG n gs) (hn : (assignEach tgs X.env).length = n := by rfl) (hst : (assignEach tgs X.env).findIdx? (·.1) = none := by rfl) :
    QG X (.Tuple tgs k pos) (gTup X.K n ts) (wgTup gs) := qg_tup hc h hl (pg_tup hc h.pg hn hst)
end
theorem room_u {k : Nat} {A : Around} (hr : Room k A) : A.units + 64 < cLine := hr.units
/-- built-in names stand for themselves -/
def BI (mg : Str → Option Value) (l : List String) : Prop := ∀ x ∈ l, mg (Str.ofString x) = none
theorem BI.at {mg : Str → Option Value} {l : List String} (h : BI mg l) (x : String) (hx : l.contains x = true := by decide) : mg (Str.ofString x) = none := h x (by simpa using hx)
end DL

namespace DL
open PySem PySem.Spec L2
open PyProof.Rows hiding St

/-! ### the readings, step by step -/
section
variable {Y : DX} {D : DEnds} {env env' : Dv} {G : Gh} {Q : DV → Gh → Prop} {T : Bool → Gh → Prop} {R : List DV → Gh → Prop} {wa wb wc : DE} {ta tb : DT} {wr : DA} {t u w : DS} {i : Nat} {d x y : DV}
def stSet (D : DEnds) (env : Dv) (i : Nat) (d : DV) (G : Gh) : Prop := D.nx (env.set i (some d)) G
theorem s_st (h : env.set i (some d) = env') (q : D.nx env' G) : stSet D env i d G := by subst h; exact q
theorem s_next (q : D.nx env G) : wNext D env G := q
theorem s_seq (q : t { D with nx := u D } env G) : wSeq t u D env G := q
theorem s_seqS (q : wSet i wa { D with nx := u D } env G) : wSeq (wSet i wa) u D env G := q
theorem s_seqA {g : DG} (q : wAsg wa g { D with nx := u D } env G) : wSeq (wAsg wa g) u D env G := q
theorem s_seqE (q : wExpr wa { D with nx := u D } env G) : wSeq (wExpr wa) u D env G := q
theorem s_join (J : Dv → Gh → Prop) (h1 : ∀ K : Dv → Gh → Prop, (∀ e g, J e g → K e g) → t { D with nx := K } env G) (h2 : ∀ e g, J e g → u D e g) : wSeq t u D env G := h1 (u D) h2
theorem s_set (q : wa (fun C fs G' => D.ex C fs env G') env G fun d G1 => stSet D env i d G1) : wSet i wa D env G := q
theorem s_ret (q : wa (fun C fs G' => D.ex C fs env G') env G D.rt) : wRet wa D env G := q
theorem s_retN (q : D.rt .non G) : wRetN D env G := q
theorem s_expr (q : wa (fun C fs G' => D.ex C fs env G') env G fun _ G1 => D.nx env G1) : wExpr wa D env G := q
theorem s_if (q : ta (fun C fs G' => D.ex C fs env G') env G fun b G1 => if b = true then t D env G1 else u D env G1) : wIfS ta t u D env G := q
theorem s_break (q : D.bk env G) : wBreak D env G := q
theorem s_cont (q : D.ct env G) : wCont D env G := q
theorem s_for {wi : DI} {g : DG} (q : wi (fun C fs G' => D.ex C fs env G') env G fun items stay G1 => forL stay g w D items env G1) : wFor wi g w D env G := q
theorem s_asg {g : DG} (q : wa (fun C fs G' => D.ex C fs env G') env G fun d G1 => g d env G1 D.nx) : wAsg wa g D env G := q
variable {K : Dv → Gh → Prop}
def gSet (env : Dv) (i : Nat) (d : DV) (G : Gh) (K : Dv → Gh → Prop) : Prop := K (env.set i (some d)) G
theorem s_gs (h : env.set i (some d) = env') (q : K env' G) : gSet env i d G K := by subst h; exact q
theorem s_gName (q : gSet env i d G K) : wgName i d env G K := q
theorem s_gNil (q : K env G) : wgNil [] env G K := q
theorem s_gCons {g : DG} {gs : DGs} {l : List DV} (q : g d env G fun env1 G1 => gs l env1 G1 K) : wgCons g gs (d :: l) env G K := q
theorem s_gTup {gs : DGs} {l : List DV} (q : gs l env G K) : wgTup gs (.tup l) env G K := q
theorem s_gSub {r : D3} (q : wa (fun _ _ _ => False) env G fun o G1 => wb (fun _ _ _ => False) env G1 fun i G2 => r o i d G2 fun G3 => K env G3) : wgSub wa wb r d env G K := q
theorem s_var (h : env[i]? = some (some d)) (q : Q d G) : wVar i Y env G Q := by unfold wVar; rw [h]; exact q
theorem s_c (q : Q d G) : wC d Y env G Q := q
theorem s_op {r : D2} (q : wa Y env G fun x G1 => wb Y env G1 fun y G2 => r x y G2 Q) : wOp r wa wb Y env G Q := q
def tBl (d : DV) (G : Gh) (T : Bool → Gh → Prop) : Prop := match d with | .bl b => T b G | _ => False
theorem s_bl {b : Bool} (q : T b G) : tBl (.bl b) G T := q
theorem s_tst (q : wa Y env G fun d G' => tBl d G' T) : wTst wa Y env G T := q
def chn (r' : D2) (wc : DE) (Y : DX) (env : Dv) (y z : DV) (G3 : Gh) (Q : DV → Gh → Prop) : Prop := match z with
  | .bl true => wc Y env G3 fun u G4 => r' y u G4 Q
  | .bl false => Q (.bl false) G3
  | _ => False
theorem s_chn {r' : D2} {b : Bool} (q : if b = true then wc Y env G (fun u G4 => r' y u G4 Q) else Q (.bl false) G) : chn r' wc Y env y (.bl b) G Q := by
  cases b <;> exact q
theorem s_chain {r r' : D2} (q : wa Y env G fun x G1 => wb Y env G1 fun y G2 => r x y G2 fun z G3 => chn r' wc Y env y z G3 Q) : wChain r r' wa wb wc Y env G Q := q
theorem s_andT (q : ta Y env G fun c G1 => if c = true then tb Y env G1 T else T false G1) : wAndT ta tb Y env G T := q
theorem s_orT (q : ta Y env G fun c G1 => if c = true then T true G1 else tb Y env G1 T) : wOrT ta tb Y env G T := q
theorem s_notT (q : ta Y env G fun c G1 => T (!c) G1) : wNotT ta Y env G T := q
def andK (wb : DE) (Y : DX) (env : Dv) (Q : DV → Gh → Prop) (x : DV) (G1 : Gh) : Prop := match x with | .bl true => wb Y env G1 Q | .bl false => Q (.bl false) G1 | _ => False
def orK (wb : DE) (Y : DX) (env : Dv) (Q : DV → Gh → Prop) (x : DV) (G1 : Gh) : Prop := match x with | .bl false => wb Y env G1 Q | .bl true => Q (.bl true) G1 | _ => False
def notK (Q : DV → Gh → Prop) (x : DV) (G1 : Gh) : Prop := match x with | .bl b => Q (.bl (!b)) G1 | _ => False
theorem s_and (q : wa Y env G (andK wb Y env Q)) : wAnd wa wb Y env G Q := q
theorem s_or (q : wa Y env G (orK wb Y env Q)) : wOr wa wb Y env G Q := q
theorem s_not (q : wa Y env G (notK Q)) : wNot wa Y env G Q := q
theorem s_andK {b : Bool} (q : if b = true then wb Y env G Q else Q (.bl false) G) : andK wb Y env Q (.bl b) G := by cases b <;> exact q
theorem s_orK {b : Bool} (q : if b = true then Q (.bl true) G else wb Y env G Q) : orK wb Y env Q (.bl b) G := by cases b <;> exact q
theorem s_notK {b : Bool} (q : Q (.bl (!b)) G) : notK Q (.bl b) G := q
theorem s_ifE (q : ta Y env G fun c G1 => if c = true then wa Y env G1 Q else wb Y env G1 Q) : wIf ta wa wb Y env G Q := q
theorem s_nil (q : R [] G) : wNil Y env G R := q
theorem s_cons (q : wa Y env G fun d G1 => wr Y env G1 fun ds G2 => R (d :: ds) G2) : wCons wa wr Y env G R := q
def mkTup (l : List DV) (G : Gh) (Q : DV → Gh → Prop) : Prop := l.length ≤ sizeLine ∧ Q (.tup l) G
def mkLst (l : List DV) (G : Gh) (Q : DV → Gh → Prop) : Prop := l.length ≤ sizeLine ∧ ∀ p, G p = none → Q (.ref p) (gup G p (.lst l))
theorem s_tup (q : wr Y env G fun l G1 => mkTup l G1 Q) : wTup wr Y env G Q := q
theorem s_lst (q : wr Y env G fun l G1 => mkLst l G1 Q) : wLst wr Y env G Q := q
theorem s_mkT {l : List DV} (h : l.length ≤ sizeLine) (q : Q (.tup l) G) : mkTup l G Q := ⟨h, q⟩
theorem s_mkL {l : List DV} (h : l.length ≤ sizeLine) (q : ∀ p, G p = none → Q (.ref p) (gup G p (.lst l))) : mkLst l G Q := ⟨h, q⟩
theorem s_cb {r : DC} (q : wr Y env G fun ds G1 => r ds G1 Q) : wCB r wr Y env G Q := q
theorem s_call {d : DF} (q : wr Y env G fun ds G1 => d ds G1 Q Y) : wCall d wr Y env G Q := q
def negK (Q : DV → Gh → Prop) (x : DV) (G1 : Gh) : Prop := match x with | .int i => Q (.int (-i)) G1 | _ => False
theorem s_neg (q : wa Y env G (negK Q)) : wNeg wa Y env G Q := q
theorem s_negK {j : Int} (q : Q (.int (-j)) G) : negK Q (.int j) G := q
variable {wl wh : DO} {O : Option Int → Gh → Prop}
theorem s_sl {r : DSl} (q : wa Y env G fun x G1 => wl Y env G1 fun l G2 => wh Y env G2 fun u G3 => r x l u G3 Q) : wSl r wa wl wh Y env G Q := q
theorem s_noPart (q : O none G) : wNoPart Y env G O := q
def partK (O : Option Int → Gh → Prop) (d : DV) (G1 : Gh) : Prop := match d with | .int i => O (some i) G1 | _ => False
theorem s_part (q : wa Y env G (partK O)) : wPart wa Y env G O := q
theorem s_partK {j : Int} (q : O (some j) G) : partK O (.int j) G := q
theorem s_bm {S : String} {r : DM} (q : wa Y env G fun x G1 => tyD S x G1 ∧ wr Y env G1 fun xs G2 => r x xs G2 Q) : wBM S r wa wr Y env G Q := q
theorem s_bm0 {S : String} {r : DM} (q : wa Y env G fun x G1 => tyD S x G1 ∧ r x [] G1 Q) : wBM0 S r wa Y env G Q := q
theorem s_tyL {a : Addr} {l : List DV} {p : Prop} (h : G a = some (.lst l)) (q : p) : tyD "list" (.ref a) G ∧ p := ⟨.inl ⟨rfl, l, h⟩, q⟩
theorem s_tyDc {a : Addr} {l : List (Key × DV)} {p : Prop} (h : G a = some (.dic l)) (q : p) : tyD "dict" (.ref a) G ∧ p := ⟨.inr ⟨rfl, .inl ⟨l, h⟩⟩, q⟩
theorem s_tyDt {a : Addr} {l : List (List Key × DV)} {p : Prop} (h : G a = some (.dt l)) (q : p) : tyD "dict" (.ref a) G ∧ p := ⟨.inr ⟨rfl, .inr ⟨l, h⟩⟩, q⟩
theorem s_tyS {z : Str} {p : Prop} (q : p) : tyD "str" (.str z) G ∧ p := ⟨rfl, q⟩
theorem s_lc {vs : List Nat} {wi : DI} {g : DG} (q : wi Y env G fun items stay G1 => lcL stay g ta wa (wipeD env vs) Q items [] G1) : wLc vs wi g ta wa Y env G Q := q
theorem s_yes (q : T true G) : wYes Y env G T := q

/-! operations -/
variable {a b : Int} {p q' : Str} {l m : List DV}
theorem s_add (q : Q (.int (a + b)) G) : dAdd (.int a) (.int b) G Q := q
theorem s_addS (h : p.length + q'.length ≤ sizeLine) (q : Q (.str (p ++ q')) G) : dAdd (.str p) (.str q') G Q := ⟨h, q⟩
theorem s_addT (h : l.length + m.length ≤ sizeLine) (q : Q (.tup (l ++ m)) G) : dAdd (.tup l) (.tup m) G Q := ⟨h, q⟩
theorem s_addL {e f : Addr} (he : G e = some (.lst l)) (hf : G f = some (.lst m)) (h : l.length + m.length ≤ sizeLine) (q : ∀ p, G p = none → Q (.ref p) (gup G p (.lst (l ++ m)))) : dAdd (.ref e) (.ref f) G Q := ⟨l, m, he, hf, h, q⟩
theorem s_sub (q : Q (.int (a - b)) G) : dSub (.int a) (.int b) G Q := q
theorem s_mul (h : MulOk a b) (q : Q (.int (a * b)) G) : dMul (.int a) (.int b) G Q := ⟨h, q⟩
theorem s_fdiv (h : 0 < b) (h2 : b.natAbs.log2 < 9000) (q : Q (.int (a / b)) G) : dFdiv (.int a) (.int b) G Q := ⟨⟨h, h2⟩, q⟩
theorem s_mod (h : 0 < b) (q : Q (.int (a % b)) G) : dMod (.int a) (.int b) G Q := ⟨h, q⟩
theorem s_pow (h : 0 ≤ b ∧ b ≤ 1000000 ∧ a.natAbs < 2 ^ 64) (q : Q (.int (a ^ b.toNat)) G) : dPow (.int a) (.int b) G Q := ⟨h, q⟩
theorem s_lt (q : Q (.bl (decide (a < b))) G) : dLt (.int a) (.int b) G Q := q
theorem s_le (q : Q (.bl (decide (a ≤ b))) G) : dLe (.int a) (.int b) G Q := q
theorem s_gt (q : Q (.bl (decide (b < a))) G) : dGt (.int a) (.int b) G Q := q
theorem s_ge (q : Q (.bl (decide (b ≤ a))) G) : dGe (.int a) (.int b) G Q := q
theorem s_eqI (q : Q (.bl (decide (a = b))) G) : dEq false (.int a) (.int b) G Q := by show Q (.bl (false ^^ _)) G; rw [Bool.false_xor]; exact q
theorem s_eqS (q : Q (.bl (decide (p = q'))) G) : dEq false (.str p) (.str q') G Q := by show Q (.bl (false ^^ _)) G; rw [Bool.false_xor]; exact q
theorem s_eqB {a b : Bool} (q : Q (.bl (decide (a = b))) G) : dEq false (.bl a) (.bl b) G Q := by show Q (.bl (false ^^ _)) G; rw [Bool.false_xor]; exact q
theorem s_neI (q : Q (.bl (!decide (a = b))) G) : dEq true (.int a) (.int b) G Q := by show Q (.bl (true ^^ _)) G; rw [Bool.true_xor]; exact q
theorem s_neS (q : Q (.bl (!decide (p = q'))) G) : dEq true (.str p) (.str q') G Q := by show Q (.bl (true ^^ _)) G; rw [Bool.true_xor]; exact q
theorem s_neB {a b : Bool} (q : Q (.bl (!decide (a = b))) G) : dEq true (.bl a) (.bl b) G Q := by show Q (.bl (true ^^ _)) G; rw [Bool.true_xor]; exact q
theorem s_is (q : Q (.bl d.isNon) G) : dIsN false d .non G Q := by show Q (.bl (false ^^ _)) G; rw [Bool.false_xor]; exact q
theorem s_isnt (q : Q (.bl (!d.isNon)) G) : dIsN true d .non G Q := by show Q (.bl (true ^^ _)) G; rw [Bool.true_xor]; exact q
theorem s_inT (h : d.flat = true) (h2 : l.all DV.flat = true) (q : Q (.bl (l.any fun e => e.same d)) G) : dIn false d (.tup l) G Q := ⟨h, h2, by rw [Bool.false_xor]; exact q⟩
theorem s_ninT (h : d.flat = true) (h2 : l.all DV.flat = true) (q : Q (.bl (!l.any fun e => e.same d)) G) : dIn true d (.tup l) G Q := ⟨h, h2, by rw [Bool.true_xor]; exact q⟩
theorem s_inL {e : Addr} (he : G e = some (.lst l)) (h : d.flat = true) (h2 : l.all DV.flat = true) (q : Q (.bl (l.any fun e => e.same d)) G) : dIn false d (.ref e) G Q := ⟨l, he, h, h2, by rw [Bool.false_xor]; exact q⟩
theorem s_ninL {e : Addr} (he : G e = some (.lst l)) (h : d.flat = true) (h2 : l.all DV.flat = true) (q : Q (.bl (!l.any fun e => e.same d)) G) : dIn true d (.ref e) G Q := ⟨l, he, h, h2, by rw [Bool.true_xor]; exact q⟩
theorem s_ixT (h : atI l a = some d) (q : Q d G) : dIx (.tup l) (.int a) G Q := ⟨d, h, q⟩
theorem s_ixR (h : atI l a = some d) (q : Q d G) : dIx (.ro l) (.int a) G Q := ⟨d, h, q⟩
theorem s_ixL {e : Addr} (he : G e = some (.lst l)) (h : atI l a = some d) (q : Q d G) : dIx (.ref e) (.int a) G Q := ⟨l, d, he, h, q⟩
theorem s_setL {e : Addr} {n : Int} {j : Nat} {U : Gh → Prop} (he : G e = some (.lst l)) (h : ixN l.length n = some j) (q : U (gup G e (.lst (l.set j d)))) : dSet (.ref e) (.int n) d G U := ⟨l, j, he, h, q⟩
theorem s_slT {lo hi : Option Int} (q : Q (.tup (cutL l lo hi)) G) : dSl (.tup l) lo hi G Q := q
theorem s_slR {lo hi : Option Int} (q : ∀ p, G p = none → Q (.ref p) (gup G p (.lst (cutL l lo hi)))) : dSl (.ro l) lo hi G Q := q
theorem s_slL {e : Addr} {lo hi : Option Int} (he : G e = some (.lst l)) (q : ∀ p, G p = none → Q (.ref p) (gup G p (.lst (cutL l lo hi)))) : dSl (.ref e) lo hi G Q := ⟨l, he, q⟩
theorem s_append {e : Addr} (he : G e = some (.lst l)) (h : l.length < sizeLine) (q : Q .non (gup G e (.lst (l ++ [d])))) : dAppend (.ref e) [d] G Q := ⟨l, he, h, q⟩
theorem s_extend {e f : Addr} (he : G e = some (.lst l)) (hf : G f = some (.lst m)) (h : l.length + m.length ≤ sizeLine) (q : Q .non (gup G e (.lst (l ++ m)))) : dExtend (.ref e) [.ref f] G Q := ⟨l, m, he, hf, h, q⟩
theorem s_reverse {e : Addr} (he : G e = some (.lst l)) (q : Q .non (gup G e (.lst l.reverse))) : dReverse (.ref e) [] G Q := ⟨l, he, q⟩
theorem s_lenT (q : Q (.int l.length) G) : dLen [.tup l] G Q := q
theorem s_lenR (q : Q (.int l.length) G) : dLen [.ro l] G Q := q
theorem s_lenL {e : Addr} (he : G e = some (.lst l)) (q : Q (.int l.length) G) : dLen [.ref e] G Q := ⟨l, he, q⟩
theorem s_lenS (h : p.length ≤ sizeLine) (q : Q (.int p.length) G) : dLen [.str p] G Q := ⟨h, q⟩
theorem s_sumL {e : Addr} {ns : List Int} (he : G e = some (.lst (ns.map .int))) (q : Q (.int ns.sum) G) : dSum [.ref e] G Q := ⟨_, he, ns, rfl, q⟩
theorem s_max2 (q : Q (.int (if b > a then b else a)) G) : dMax [.int a, .int b] G Q := q
theorem s_min2 (q : Q (.int (if b < a then b else a)) G) : dMin [.int a, .int b] G Q := q
theorem s_abs (q : Q (.int (if a < 0 then -a else a)) G) : dAbs [.int a] G Q := q
theorem s_intI (q : Q (.int a) G) : dInt [.int a] G Q := q
theorem s_intB {b : Bool} (q : Q (.int (if b then 1 else 0)) G) : dInt [.bl b] G Q := q
theorem s_tupleT (q : Q (.tup l) G) : dTuple [.tup l] G Q := q
theorem s_tupleR (q : Q (.tup l) G) : dTuple [.ro l] G Q := q
theorem s_tupleL {e : Addr} (he : G e = some (.lst l)) (q : Q (.tup l) G) : dTuple [.ref e] G Q := ⟨l, he, q⟩
theorem s_listT (q : ∀ p, G p = none → Q (.ref p) (gup G p (.lst l))) : dList [.tup l] G Q := q
theorem s_listR (q : ∀ p, G p = none → Q (.ref p) (gup G p (.lst l))) : dList [.ro l] G Q := q
theorem s_listL {e : Addr} (he : G e = some (.lst l)) (q : ∀ p, G p = none → Q (.ref p) (gup G p (.lst l))) : dList [.ref e] G Q := ⟨l, he, q⟩
theorem s_strI (h : a.natAbs.log2 < 1920) (q : Q (.str (toString a)) G) : dStr [.int a] G Q := ⟨h, q⟩
theorem s_strS (q : Q (.str p) G) : dStr [.str p] G Q := q
/-- the class of a value that is no reference -/
def DV.kind : DV → String
  | .non => "NoneType" | .bl _ => "bool" | .int _ => "int" | .str _ => "str" | .tup _ => "tuple" | .ro _ => "list" | .ref _ => "" | .ty _ => "" | .exc .. => "" | .kt _ => ""
def DV.known : DV → Bool
  | .ref _ => false | .ty _ => false | .exc .. => false | .kt _ => false | _ => true
theorem s_isi {c : String} (h : d.known = true) (hc : c ∈ ["int", "bool", "str", "tuple", "list", "dict"]) (q : Q (.bl (isaB d.kind c)) G) : dIsi [d, .ty c] G Q := by
  refine ⟨hc, ?_⟩
  cases d <;> first | exact absurd h Bool.false_ne_true | exact q
theorem s_isiI {c : String} (hc : c ∈ ["int", "bool", "str", "tuple", "list", "dict"]) (q : Q (.bl (isaB "int" c)) G) : dIsi [.int a, .ty c] G Q := ⟨hc, q⟩
theorem s_isiB {b : Bool} {c : String} (hc : c ∈ ["int", "bool", "str", "tuple", "list", "dict"]) (q : Q (.bl (isaB "bool" c)) G) : dIsi [.bl b, .ty c] G Q := ⟨hc, q⟩
theorem s_isiS {c : String} (hc : c ∈ ["int", "bool", "str", "tuple", "list", "dict"]) (q : Q (.bl (isaB "str" c)) G) : dIsi [.str p, .ty c] G Q := ⟨hc, q⟩
theorem s_isiT {c : String} (hc : c ∈ ["int", "bool", "str", "tuple", "list", "dict"]) (q : Q (.bl (isaB "tuple" c)) G) : dIsi [.tup l, .ty c] G Q := ⟨hc, q⟩
theorem s_isiR {c : String} (hc : c ∈ ["int", "bool", "str", "tuple", "list", "dict"]) (q : Q (.bl (isaB "list" c)) G) : dIsi [.ro l, .ty c] G Q := ⟨hc, q⟩
theorem s_isiN {c : String} (hc : c ∈ ["int", "bool", "str", "tuple", "list", "dict"]) (q : Q (.bl (isaB "NoneType" c)) G) : dIsi [.non, .ty c] G Q := ⟨hc, q⟩
theorem s_isiL {e : Addr} {c : String} (he : G e = some (.lst l)) (hc : c ∈ ["int", "bool", "str", "tuple", "list", "dict"]) (q : Q (.bl (isaB "list" c)) G) : dIsi [.ref e, .ty c] G Q := by
  refine ⟨hc, ?_⟩
  show (match G e with | some (.lst _) => Q (.bl (isaB "list" c)) G | some (.dic _) => _ | some (.dt _) => _ | _ => False)
  rw [he]; exact q
theorem s_repr {e : PyData} (h : DR G d e) (f : Fair e) (q : Q (.str e.shown) G) : dRepr [d] G Q := ⟨e, h, f, q⟩

/-! what is walked -/
variable {I : List DV → (Gh → Prop) → Gh → Prop}
def seqK (I : List DV → (Gh → Prop) → Gh → Prop) (d : DV) (G1 : Gh) : Prop := match d with
  | .tup l => I l (fun _ => True) G1
  | .ro l => I l (fun _ => True) G1
  | .ref a => ∃ l, G1 a = some (.lst l) ∧ I l (fun G => G a = some (.lst l)) G1
  | .str z => I (z.cps.toList.map fun c => .str ⟨#[c]⟩) (fun _ => True) G1
  | _ => False
theorem s_wiSeq (q : wa Y env G (seqK I)) : wiSeq wa Y env G I := q
theorem s_seqT (q : I l (fun _ => True) G) : seqK I (.tup l) G := q
theorem s_seqR (q : I l (fun _ => True) G) : seqK I (.ro l) G := q
theorem s_seqStr {z : Str} (q : I (z.cps.toList.map fun c => .str ⟨#[c]⟩) (fun _ => True) G) : seqK I (.str z) G := q
theorem s_seqL {e : Addr} (he : G e = some (.lst l)) (q : I l (fun G => G e = some (.lst l)) G) : seqK I (.ref e) G := ⟨l, he, q⟩
def rng1K (R : List DV → (Gh → Prop) → Gh → Prop) (ds : List DV) (G1 : Gh) : Prop := match ds with
  | [.int j] => (-(2 ^ 62) ≤ j ∧ j < 2 ^ 62) ∧ R (intsFrom 0 j.toNat) (fun _ => True) G1
  | _ => False
theorem s_wiRange1 (q : wr Y env G (rng1K I)) : wiRange1 wr Y env G I := q
theorem s_rng1 (h : -(2 ^ 62) ≤ a ∧ a < 2 ^ 62) (q : I (intsFrom 0 a.toNat) (fun _ => True) G) : rng1K I [.int a] G := ⟨h, q⟩
def rng2K (R : List DV → (Gh → Prop) → Gh → Prop) (ds : List DV) (G1 : Gh) : Prop := match ds with
  | [.int i, .int j] => (-(2 ^ 62) ≤ i ∧ i < 2 ^ 62 ∧ -(2 ^ 62) ≤ j ∧ j < 2 ^ 62) ∧ R (intsFrom i (j - i).toNat) (fun _ => True) G1
  | _ => False
theorem s_wiRange2 (q : wr Y env G (rng2K I)) : wiRange2 wr Y env G I := q
theorem s_rng2 (h : -(2 ^ 62) ≤ a ∧ a < 2 ^ 62 ∧ -(2 ^ 62) ≤ b ∧ b < 2 ^ 62) (q : I (intsFrom a (b - a).toNat) (fun _ => True) G) : rng2K I [.int a, .int b] G := ⟨h, q⟩
def zip2K (R : List DV → (Gh → Prop) → Gh → Prop) (ds : List DV) (G1 : Gh) : Prop := match ds with
  | [x, y] => srcD x G1 fun l s1 => srcD y G1 fun m s2 => R (zip2L l m) (fun G => s1 G ∧ s2 G) G1
  | _ => False
theorem s_wiZip2 (q : wr Y env G (zip2K I)) : wiZip2 wr Y env G I := q
theorem s_zip2 (q : srcD x G fun l s1 => srcD y G fun m s2 => I (zip2L l m) (fun G => s1 G ∧ s2 G) G) : zip2K I [x, y] G := q
variable {S : List DV → (Gh → Prop) → Prop}
theorem s_srcT (q : S l fun _ => True) : srcD (.tup l) G S := q
theorem s_srcR (q : S l fun _ => True) : srcD (.ro l) G S := q
theorem s_srcL {e : Addr} (he : G e = some (.lst l)) (q : S l fun G => G e = some (.lst l)) : srcD (.ref e) G S := ⟨l, he, q⟩
/-- branches -/
theorem s_ite {c : Prop} [Decidable c] {A B : Prop} (h1 : c → A) (h2 : ¬ c → B) : if decide c = true then A else B := by
  by_cases h : c
  · rw [if_pos (decide_eq_true h)]; exact h1 h
  · rw [if_neg (by simp [h])]; exact h2 h
theorem s_iteN {c : Prop} [Decidable c] {A B : Prop} (h1 : ¬ c → A) (h2 : c → B) : if (!decide c) = true then A else B := by
  by_cases h : c
  · rw [if_neg (by simp [h])]; exact h2 h
  · rw [if_pos (by simp [h])]; exact h1 h
theorem s_iteB {c : Bool} {A B : Prop} (h1 : c = true → A) (h2 : c = false → B) : if c = true then A else B := by
  cases c
  · rw [if_neg Bool.false_ne_true]; exact h2 rfl
  · rw [if_pos rfl]; exact h1 rfl
theorem s_yesD {c : Prop} [Decidable c] {A B : Prop} (h : c) (q : A) : if decide c = true then A else B := by rw [if_pos (decide_eq_true h)]; exact q
theorem s_noD {c : Prop} [Decidable c] {A B : Prop} (h : ¬ c) (q : B) : if decide c = true then A else B := by rw [if_neg (by simp [h])]; exact q
theorem s_yesN {c : Prop} [Decidable c] {A B : Prop} (h : ¬ c) (q : A) : if (!decide c) = true then A else B := by rw [if_pos (by simp [h])]; exact q
theorem s_noN {c : Prop} [Decidable c] {A B : Prop} (h : c) (q : B) : if (!decide c) = true then A else B := by rw [if_neg (by simp [h])]; exact q
theorem s_yesB {c : Bool} {A B : Prop} (h : c = true) (q : A) : if c = true then A else B := by rw [if_pos h]; exact q
theorem s_noB {c : Bool} {A B : Prop} (h : c = false) (q : B) : if c = true then A else B := by rw [if_neg (by simp [h])]; exact q
theorem s_t {A B : Prop} (h : A) : if true = true then A else B := h
theorem s_f {A B : Prop} (h : B) : if false = true then A else B := h
end

theorem atI_lt {α : Type} {l : List α} {j : Int} (h0 : 0 ≤ j) (h1 : j < l.length) : ∃ d, L2.atI l j = some d ∧ l[j.toNat]? = some d := by
  have e : j = ((j.toNat : Nat) : Int) := by omega
  have hl : j.toNat < l.length := by omega
  have z : L2.atI l ((j.toNat : Nat) : Int) = some l[j.toNat] := L2.atI_nat (List.getElem?_eq_getElem hl)
  exact ⟨l[j.toNat], (congrArg (L2.atI l) e).trans z, List.getElem?_eq_getElem hl⟩
theorem atI_ints {l : List Int} {j : Int} (h0 : 0 ≤ j) (h1 : j < (l.map DV.int).length) : ∃ x : Int, L2.atI (l.map DV.int) j = some (.int x) ∧ x ∈ l := by
  obtain ⟨d, e, e2⟩ := atI_lt h0 h1
  rw [List.getElem?_map] at e2
  cases q : l[j.toNat]? with
  | none => rw [q] at e2; cases e2
  | some x =>
    rw [q] at e2
    cases e2
    exact ⟨x, e, List.mem_of_getElem? q⟩
theorem cut_to {α : Type} {l : List α} {n : Int} (h : 0 ≤ n) : cutL l none (some n) = l.take n.toNat := by
  have e : n = ((n.toNat : Nat) : Int) := by omega
  unfold cutL
  have z : HT.sIx l.length l.length (some n) = min n.toNat l.length := (congrArg (fun k => HT.sIx l.length l.length (some k)) e).trans (HT.sIx_nat _ _ _)
  rw [z, HT.sIx_none, List.drop_zero, Nat.sub_zero]
  rcases Nat.le_total n.toNat l.length with h1 | h1
  · rw [Nat.min_eq_left h1]
  · rw [Nat.min_eq_right h1, List.take_length, List.take_of_length_le h1]
theorem cut_from {α : Type} {l : List α} {n : Int} (h : 0 ≤ n) : cutL l (some n) none = l.drop n.toNat := by
  have e : n = ((n.toNat : Nat) : Int) := by omega
  unfold cutL
  have z : HT.sIx l.length 0 (some n) = min n.toNat l.length := (congrArg (fun k => HT.sIx l.length 0 (some k)) e).trans (HT.sIx_nat _ _ _)
  rw [z, HT.sIx_none]
  rcases Nat.le_total n.toNat l.length with h1 | h1
  · rw [Nat.min_eq_left h1, List.take_of_length_le (by rw [List.length_drop]; exact Nat.le_refl _)]
  · rw [Nat.min_eq_right h1, List.drop_length, List.drop_eq_nil_of_le h1]; simp
theorem cut_all {α : Type} {l : List α} : cutL l none none = l := by
  unfold cutL
  rw [HT.sIx_none, HT.sIx_none, List.drop_zero, Nat.sub_zero, List.take_length]
/-! ### heaps that keep -/
def Sub (G G' : Gh) : Prop := ∀ a c, G a = some c → G' a = some c
theorem Sub.refl {G : Gh} : Sub G G := fun _ _ h => h
theorem Sub.trans {G G1 G2 : Gh} (h : Sub G G1) (k : Sub G1 G2) : Sub G G2 := fun a c e => k a c (h a c e)
theorem Sub.new {G : Gh} {p : Addr} {c : Cell} (h : G p = none) : Sub G (gup G p c) := fun a d e => by
  rw [gup_ne (by rintro rfl; rw [h] at e; cases e)]; exact e
/-- all but t -/
def Old (t : Addr) (G G' : Gh) : Prop := ∀ a c, a ≠ t → G a = some c → G' a = some c
theorem Sub.old {G G' : Gh} {t : Addr} (h : Sub G G') : Old t G G' := fun a c _ e => h a c e
theorem Old.refl {G : Gh} {t : Addr} : Old t G G := fun _ _ _ h => h
theorem Old.trans {t : Addr} {G G1 G2 : Gh} (h : Old t G G1) (k : Old t G1 G2) : Old t G G2 := fun a c n e => k a c n (h a c n e)
theorem Old.set {t : Addr} {G : Gh} {c : Cell} : Old t G (gup G t c) := fun a d n e => by rw [gup_ne n]; exact e
theorem Old.sub {t : Addr} {G G1 G2 : Gh} (h : Old t G G1) (k : Sub G1 G2) : Old t G G2 := h.trans k.old
/-- what was made since may be changed -/
theorem Sub.own {G g g1 : Gh} {e : Addr} (h : Sub G g) (n : G e = none) (k : Old e g g1) : Sub G g1 := fun a c x => k a c (ne_gone x n) (h a c x)
theorem Old.own {t : Addr} {G g g1 : Gh} {e : Addr} (h : Old t G g) (n : G e = none) (k : Old e g g1) : Old t G g1 := fun a c ha x => k a c (ne_gone x n) (h a c ha x)
theorem Sub.look {G G1 : Gh} {a : Addr} {c : Cell} (h : Sub G G1) (e : G a = some c) : G1 a = some c := h a c e
theorem Old.look {G G1 : Gh} {t a : Addr} {c : Cell} (h : Old t G G1) (n : a ≠ t) (e : G a = some c) : G1 a = some c := h a c n e
/-- a tape: [cells, place, rest], the place at most n -/
structure TapeAt (G : Gh) (t c : Addr) (n : Nat) : Prop where
  ex : ∃ (cells : List Int) (i s : Int), G t = some (.lst [.ref c, .int i, .int s]) ∧ c ≠ t ∧ G c = some (.lst (cells.map DV.int)) ∧ 0 ≤ i ∧ i ≤ n
section
variable {G G' : Gh} {t c p : Addr} {n m : Nat}
theorem TapeAt.sub (h : TapeAt G t c n) (k : Sub G G') : TapeAt G' t c n := by
  obtain ⟨cells, i, s, h1, h2, h3, h4, h5⟩ := h.ex
  exact ⟨cells, i, s, k _ _ h1, h2, k _ _ h3, h4, h5⟩
theorem TapeAt.mono (h : TapeAt G t c n) (k : n ≤ m) : TapeAt G t c m := by
  obtain ⟨cells, i, s, h1, h2, h3, h4, h5⟩ := h.ex
  exact ⟨cells, i, s, h1, h2, h3, h4, by omega⟩
theorem TapeAt.ne1 (h : TapeAt G t c n) (k : G p = none) : p ≠ t := by
  obtain ⟨cells, i, s, h1, _⟩ := h.ex
  rintro rfl; rw [k] at h1; cases h1
theorem TapeAt.ne2 (h : TapeAt G t c n) (k : G p = none) : p ≠ c := by
  obtain ⟨cells, i, s, _, _, h1, _⟩ := h.ex
  rintro rfl; rw [k] at h1; cases h1
theorem TapeAt.nct (h : TapeAt G t c n) : c ≠ t := by
  obtain ⟨cells, i, s, _, h1, _⟩ := h.ex
  exact h1
theorem TapeAt.old {e : Addr} (h : TapeAt G t c n) (k : Old e G G') (n1 : e ≠ t) (n2 : e ≠ c) : TapeAt G' t c n := by
  obtain ⟨cells, i, s, h1, h2, h3, h4, h5⟩ := h.ex
  exact ⟨cells, i, s, k _ _ n1.symm h1, h2, k _ _ n2.symm h3, h4, h5⟩
end
theorem MulOk.i {i : Int} {n : Nat} (h0 : 0 ≤ i) (h : i ≤ n) (hn : n ≤ 1000000000001) {k : Int} (hk : k.natAbs < 2 ^ 40) : MulOk i k := MulOk.of (a := 60) (b := 40) (by omega) hk (by decide) (by decide) (by decide)
/-! new heaps by what is known of them -/
section
variable {G : Gh} {Q : DV → Gh → Prop} {l m : List DV} {d : DV} {a b : Int}
theorem x_mkL (h : l.length ≤ sizeLine) (q : ∀ p G1, G p = none → Sub G G1 → G1 p = some (.lst l) → Q (.ref p) G1) : mkLst l G Q := ⟨h, fun p hp => q p _ hp (Sub.new hp) gup_same⟩
/-- what a step that makes a new list owes -/
theorem x_new {l : List DV} (q : ∀ p G1, G p = none → Sub G G1 → G1 p = some (.lst l) → Q (.ref p) G1) : ∀ p, G p = none → Q (.ref p) (gup G p (.lst l)) := fun p hp => q p _ hp (Sub.new hp) gup_same
theorem x_setL {e : Addr} {n : Int} {j : Nat} {U : Gh → Prop} (he : G e = some (.lst l)) (h : ixN l.length n = some j) (h2 : l.set j d = m) (q : ∀ G1, Old e G G1 → G1 e = some (.lst m) → U G1) : dSet (.ref e) (.int n) d G U := ⟨l, j, he, h, by rw [h2]; exact q _ Old.set gup_same⟩
theorem x_append {e : Addr} (he : G e = some (.lst l)) (h : l.length < sizeLine) (q : ∀ G1, Old e G G1 → G1 e = some (.lst (l ++ [d])) → Q .non G1) : dAppend (.ref e) [d] G Q := ⟨l, he, h, q _ Old.set gup_same⟩
theorem x_extend {e f : Addr} (he : G e = some (.lst l)) (hf : G f = some (.lst m)) (h : l.length + m.length ≤ sizeLine) (q : ∀ G1, Old e G G1 → G1 e = some (.lst (l ++ m)) → Q .non G1) : dExtend (.ref e) [.ref f] G Q := ⟨l, m, he, hf, h, q _ Old.set gup_same⟩
theorem x_reverse {e : Addr} (he : G e = some (.lst l)) (q : ∀ G1, Old e G G1 → G1 e = some (.lst l.reverse) → Q .non G1) : dReverse (.ref e) [] G Q := ⟨l, he, q _ Old.set gup_same⟩
theorem x_addL {e f : Addr} (he : G e = some (.lst l)) (hf : G f = some (.lst m)) (h : l.length + m.length ≤ sizeLine) (q : ∀ p G1, G p = none → Sub G G1 → G1 p = some (.lst (l ++ m)) → Q (.ref p) G1) : dAdd (.ref e) (.ref f) G Q := ⟨l, m, he, hf, h, x_new q⟩
theorem x_slL {e : Addr} {lo hi : Option Int} (he : G e = some (.lst l)) (q : ∀ p G1, G p = none → Sub G G1 → G1 p = some (.lst (cutL l lo hi)) → Q (.ref p) G1) : dSl (.ref e) lo hi G Q := ⟨l, he, x_new q⟩
theorem x_slR {lo hi : Option Int} (q : ∀ p G1, G p = none → Sub G G1 → G1 p = some (.lst (cutL l lo hi)) → Q (.ref p) G1) : dSl (.ro l) lo hi G Q := x_new q
theorem x_listT (q : ∀ p G1, G p = none → Sub G G1 → G1 p = some (.lst l) → Q (.ref p) G1) : dList [.tup l] G Q := x_new q
theorem x_listR (q : ∀ p G1, G p = none → Sub G G1 → G1 p = some (.lst l) → Q (.ref p) G1) : dList [.ro l] G Q := x_new q
theorem x_listL {e : Addr} (he : G e = some (.lst l)) (q : ∀ p G1, G p = none → Sub G G1 → G1 p = some (.lst l) → Q (.ref p) G1) : dList [.ref e] G Q := ⟨l, he, x_new q⟩
end
end DL

namespace DL
open PySem PySem.Spec L2
open PyProof.Rows hiding St

/-! ### data of fair size, told by its parts -/
structure Fr (n k : Nat) (d : PyData) : Prop where
  short : d.leavesShort 600 = true
  light : d.bulk ≤ n
  show_ : d.showable = true
  lay : d.canLay0 = true
  flat : d.depth ≤ k
structure FrL (n k : Nat) (xs : List PyData) : Prop where
  short : PyData.leavesShortAll 600 xs = true
  light : PyData.bulkAll xs ≤ n
  show_ : PyData.showableAll xs = true
  lay : PyData.canLayAll0 xs = true
  flat : PyData.depthAll xs ≤ k
theorem Fr.fair {n k : Nat} {d : PyData} (f : Fr n k d) (hn : n ≤ 27000 := by decide) (hk : k ≤ 60 := by decide) : Fair d := ⟨f.short, Nat.le_trans f.light hn, f.show_, f.lay, Nat.le_trans f.flat hk⟩
theorem Fr.mono {n k m j : Nat} {d : PyData} (f : Fr n k d) (hn : n ≤ m) (hk : k ≤ j) : Fr m j d := ⟨f.short, Nat.le_trans f.light hn, f.show_, f.lay, Nat.le_trans f.flat hk⟩
theorem FrL.nil {k : Nat} : FrL 0 k [] := ⟨rfl, Nat.le_refl _, rfl, rfl, Nat.zero_le _⟩
theorem FrL.cons {n m k : Nat} {d : PyData} {xs : List PyData} (f : Fr n k d) (g : FrL m k xs) : FrL (n + 1 + m) k (d :: xs) where
  short := by simp only [PyData.leavesShortAll, f.short, g.short, Bool.and_true]
  light := by have := f.light; have := g.light; simp only [PyData.bulkAll]; omega
  show_ := by simp only [PyData.showableAll, f.show_, g.show_, Bool.and_true]
  lay := by simp only [PyData.canLayAll0, f.lay, g.lay, Bool.and_true]
  flat := by have := f.flat; have := g.flat; simp only [PyData.depthAll]; omega
theorem FrL.mono {n k m j : Nat} {d : List PyData} (f : FrL n k d) (hn : n ≤ m) (hk : k ≤ j) : FrL m j d := ⟨f.short, Nat.le_trans f.light hn, f.show_, f.lay, Nat.le_trans f.flat hk⟩
theorem FrL.all {n k : Nat} : ∀ {xs : List PyData}, (∀ d ∈ xs, Fr n k d) → ∀ {m : Nat}, xs.length ≤ m → FrL (m * (n + 1)) k xs
  | [], _, m, _ => FrL.nil.mono (Nat.zero_le _) (Nat.le_refl _)
  | d :: xs, h, m, hm => by
    have a := (FrL.cons (h d (by simp)) (FrL.all (xs := xs) (fun e he => h e (List.mem_cons_of_mem _ he)) (m := m - 1) (by simp at hm; omega)))
    refine a.mono ?_ (Nat.le_refl _)
    have e : m = (m - 1) + 1 := by simp at hm; omega
    rw [e, Nat.add_mul, Nat.add_sub_cancel]
    omega
theorem Fr.tup {n k : Nat} {xs : List PyData} (f : FrL n k xs) : Fr n (k + 1) (.tuple xs) :=
  ⟨f.short, f.light, f.show_, f.lay, Nat.succ_le_succ f.flat⟩
theorem Fr.lst {n k : Nat} {xs : List PyData} (f : FrL n k xs) : Fr n (k + 1) (.list xs) :=
  ⟨f.short, f.light, f.show_, f.lay, Nat.succ_le_succ f.flat⟩
theorem Fr.non {k : Nat} : Fr 0 k .none := ⟨rfl, Nat.le_refl _, rfl, rfl, Nat.zero_le _⟩
theorem Fr.bl {k : Nat} {b : Bool} : Fr 0 k (.bool b) := ⟨rfl, Nat.le_refl _, rfl, rfl, Nat.zero_le _⟩
theorem Fr.int {k b : Nat} {i : Int} (h : i.natAbs < 2 ^ b) (hb : b ≤ 590) : Fr 0 k (.int i) where
  short := by
    have hlen : (toString i).length ≤ 591 + 1 := int_text_length_le (by decide) (by
      by_cases hz : i.natAbs = 0
      · rw [hz]; decide
      · exact (Nat.log2_lt hz).mpr (Nat.lt_of_lt_of_le h (Nat.pow_le_pow_right (by decide) (by omega))))
    show decide ((PyData.shown (.int i)).length ≤ 600) = true
    have e : (PyData.shown (.int i)).length = (toString i).length := by
      show (Str.ofString (toString i)).length = _
      exact PySem.ofString_length _
    rw [e]
    exact decide_eq_true (by omega)
  light := Nat.le_refl _
  show_ := by
    show decide (i.natAbs.log2 < 1920) = true
    refine decide_eq_true ?_
    by_cases hz : i.natAbs = 0
    · rw [hz]; decide
    · exact (Nat.log2_lt hz).mpr (Nat.lt_of_lt_of_le h (Nat.pow_le_pow_right (by decide) (by omega)))
  lay := rfl
  flat := Nat.zero_le _
theorem Fr.str {n k : Nat} {x : Str} (h : x.cps.size ≤ n) (ok : x.cps.all (· < 0x110000) = true) : Fr n k (.str x) where
  short := by
    show x.cps.toList.all (fun c => decide (c < 16 ^ 8)) = true
    rw [List.all_eq_true]
    intro c hc
    have : c < 0x110000 := by
      have q := Array.all_eq_true.mp ok
      obtain ⟨i, hi, e⟩ := List.mem_iff_getElem.mp hc
      have z := q i (by simpa using hi)
      rw [← e]
      simpa using z
    exact decide_eq_true (by omega)
  light := h
  show_ := rfl
  lay := ok
  flat := Nat.zero_le _

/-! ### loops and comprehensions -/
section
variable {stay : Gh → Prop} {g : DG} {wl : DS} {De : DEnds} {env : Dv} {G : Gh} {tt : DT} {te : DE} {Q : DV → Gh → Prop} {items : List DV}
/-- a loop over a range -/
theorem forL_range {lo : Int} {n : Nat} (Inv : Nat → Dv → Gh → Prop) (h0 : Inv 0 env G)
    (ht : ∀ i env G (K : Dv → Gh → Prop), i < n → Inv i env G → (∀ e g, Inv (i + 1) e g → K e g) → g (.int (lo + i)) env G fun env1 G1 => wl { De with nx := K, ct := K, bk := De.nx } env1 G1)
    (he : ∀ env G, Inv n env G → De.nx env G) : forL (fun _ => True) g wl De (intsFrom lo n) env G := by
  refine forL_inv Inv h0 (fun _ _ _ _ _ => trivial) (fun i d env G K e hi p k => ?_) (fun env G p => he env G (by rw [intsFrom_len] at p; exact p))
  rw [intsFrom_get] at e
  split at e
  · cases e; exact ht i env G K (by assumption) p k
  · cases e
/-- a comprehension whose items are made by f; the heap keeps R, told by the number of turns -/
theorem lcL_map (f : DV → DV) (R : Nat → Gh → Prop) (h0 : R 0 G) (hs : ∀ i G, R i G → stay G) (hn : items.length ≤ sizeLine)
    (ht : ∀ i d G (K : DV → Gh → Prop) (K2 : Gh → Prop), items[i]? = some d → i < items.length → R i G → (∀ G1, R (i + 1) G1 → K (f d) G1) → g d env G fun env1 G1 => tt (fun _ _ _ => False) env1 G1 fun b G2 => if b = true then te (fun _ _ _ => False) env1 G2 K else K2 G2)
    (he : ∀ G, R items.length G → ∀ p G1, G p = none → Sub G G1 → G1 p = some (.lst (items.map f)) → Q (.ref p) G1) : lcL stay g tt te env Q items [] G := by
  refine lcL_inv (fun i acc G => acc = (items.take i).map f ∧ R i G) ⟨by simp, h0⟩ (fun i acc G _ h => hs i G h.2) (fun i d acc G K e hi ⟨ea, r⟩ k => ?_) (fun acc G ⟨ea, r⟩ p hp => he G r p _ hp (Sub.new hp) (by rw [ea, List.take_length]; exact gup_same))
  refine ht i d G (fun y G3 => acc.length < sizeLine ∧ K (acc ++ [y]) G3) (K acc) e hi r fun G1 r1 => ⟨?_, k _ _ ⟨?_, r1⟩⟩
  · rw [ea, List.length_map, List.length_take]; omega
  · rw [ea, List.take_add_one, e]; simp
/-- .. whose items are such that P -/
theorem lcL_all (P : Nat → DV → Prop) (R : Nat → Gh → Prop) (h0 : R 0 G) (hs : ∀ i G, R i G → stay G) (hn : items.length ≤ sizeLine)
    (ht : ∀ i d G (K : DV → Gh → Prop) (K2 : Gh → Prop), items[i]? = some d → i < items.length → R i G → (∀ y G1, P i y → R (i + 1) G1 → K y G1) → g d env G fun env1 G1 => tt (fun _ _ _ => False) env1 G1 fun b G2 => if b = true then te (fun _ _ _ => False) env1 G2 K else K2 G2)
    (he : ∀ G l, R items.length G → l.length = items.length → (∀ i y, l[i]? = some y → P i y) → ∀ p G1, G p = none → Sub G G1 → G1 p = some (.lst l) → Q (.ref p) G1) : lcL stay g tt te env Q items [] G := by
  refine lcL_inv (fun i acc G => (acc.length = i ∧ ∀ j y, acc[j]? = some y → P j y) ∧ R i G) ⟨⟨rfl, fun j y h => by simp at h⟩, h0⟩ (fun i acc G _ h => hs i G h.2) (fun i d acc G K e hi ⟨⟨el, ea⟩, r⟩ k => ?_) (fun acc G ⟨⟨el, ea⟩, r⟩ p hp => he G acc r el ea p _ hp (Sub.new hp) gup_same)
  refine ht i d G (fun y G3 => acc.length < sizeLine ∧ K (acc ++ [y]) G3) (K acc) e hi r fun y G1 py r1 => ⟨by omega, k _ _ ⟨⟨by simp [el], fun j z h => ?_⟩, r1⟩⟩
  by_cases hj : j < acc.length
  · rw [List.getElem?_append_left hj] at h; exact ea j z h
  · rw [List.getElem?_append_right (by omega)] at h
    have : j = acc.length := by
      by_cases hj2 : j = acc.length
      · exact hj2
      · rw [List.getElem?_eq_none (by simp; omega)] at h; cases h
    subst this
    simp at h
    subst h
    rw [el]; exact py
/-- .. with a test -/
theorem lcL_filter (c : DV → Bool) (f : DV → DV) (R : Nat → Gh → Prop) (h0 : R 0 G) (hs : ∀ i G, R i G → stay G) (hn : items.length ≤ sizeLine)
    (ht : ∀ i d G (K : DV → Gh → Prop) (K2 : Gh → Prop), items[i]? = some d → i < items.length → R i G → (c d = true → ∀ G1, R (i + 1) G1 → K (f d) G1) → (c d = false → ∀ G1, R (i + 1) G1 → K2 G1) →
      g d env G fun env1 G1 => tt (fun _ _ _ => False) env1 G1 fun b G2 => if b = true then te (fun _ _ _ => False) env1 G2 K else K2 G2)
    (he : ∀ G, R items.length G → ∀ p G1, G p = none → Sub G G1 → G1 p = some (.lst ((items.filter c).map f)) → Q (.ref p) G1) : lcL stay g tt te env Q items [] G := by
  refine lcL_inv (fun i acc G => acc = ((items.take i).filter c).map f ∧ R i G) ⟨by simp, h0⟩ (fun i acc G _ h => hs i G h.2) (fun i d acc G K e hi ⟨ea, r⟩ k => ?_) (fun acc G ⟨ea, r⟩ p hp => he G r p _ hp (Sub.new hp) (by rw [ea, List.take_length]; exact gup_same))
  refine ht i d G (fun y G3 => acc.length < sizeLine ∧ K (acc ++ [y]) G3) (K acc) e hi r (fun hc G1 r1 => ⟨?_, k _ _ ⟨?_, r1⟩⟩) (fun hc G1 r1 => k _ _ ⟨?_, r1⟩)
  · have := List.length_filter_le c (items.take i)
    rw [ea, List.length_map]
    rw [List.length_take] at this
    omega
  · rw [ea, List.take_add_one, e]; simp [hc]
  · rw [ea, List.take_add_one, e]; simp [hc]
end
theorem map_of {α : Type} (enc : α → DV) (p : α → Prop) : ∀ {l : List DV}, (∀ y ∈ l, ∃ a, y = enc a ∧ p a) → ∃ as : List α, l = as.map enc ∧ ∀ a ∈ as, p a
  | [], _ => ⟨[], rfl, by simp⟩
  | d :: l, h => by
    obtain ⟨a, e, q⟩ := h d (by simp)
    obtain ⟨as, e2, q2⟩ := map_of enc p (l := l) fun y hy => h y (by simp [hy])
    refine ⟨a :: as, by rw [e, e2]; rfl, fun b hb => ?_⟩
    rcases List.mem_cons.mp hb with rfl | hb
    · exact q
    · exact q2 b hb
theorem zip2L_map {α β : Type} (f : α → DV) (g : β → DV) : ∀ (l : List α) (m : List β), zip2L (l.map f) (m.map g) = (l.zip m).map fun p => .tup [f p.1, g p.2]
  | [], m => by simp [zip2L]
  | a :: l, [] => by simp [zip2L]
  | a :: l, b :: m => by simp [zip2L, zip2L_map f g l m]
theorem map_get {α : Type} {f : α → DV} {l : List α} {i : Nat} {d : DV} (h : (l.map f)[i]? = some d) : ∃ a, l[i]? = some a ∧ d = f a := by
  rw [List.getElem?_map] at h
  cases q : l[i]? with
  | none => rw [q] at h; cases h
  | some a => rw [q] at h; cases h; exact ⟨a, rfl, rfl⟩
theorem rng_get {lo : Int} {n i : Nat} {d : DV} (h : (intsFrom lo n)[i]? = some d) : i < n ∧ d = .int (lo + i) := by
  rw [intsFrom_get] at h
  split at h
  · cases h; exact ⟨by assumption, rfl⟩
  · cases h
theorem range_get {n i a : Nat} (h : (List.range n)[i]? = some a) : a = i ∧ i < n := by
  have hi := (List.getElem?_eq_some_iff.mp h).1
  rw [List.length_range] at hi
  rw [List.getElem?_range hi] at h
  exact ⟨(Option.some.inj h).symm, hi⟩
theorem sum_bound {B : Nat} : ∀ {l : List Int}, (∀ x ∈ l, x.natAbs ≤ B) → l.sum.natAbs ≤ l.length * B
  | [], _ => by simp
  | x :: l, h => by
    have h1 := h x (by simp)
    have h2 := sum_bound (l := l) fun y hy => h y (by simp [hy])
    rw [List.sum_cons, List.length_cons, Nat.add_mul, Nat.one_mul]
    omega
theorem at_int {α : Type} {f : α → DV} {l : List α} {i : Nat} {j : Int} {a : α} (e : l[i]? = some a) (hj : j = i) : L2.atI (l.map f) j = some (f a) := by
  subst hj
  exact L2.atI_nat (by rw [List.getElem?_map, e]; rfl)
theorem intsFrom_eq (lo : Int) (n : Nat) : intsFrom lo n = (List.range n).map fun (i : Nat) => DV.int (lo + (i : Int)) := by
  apply List.ext_getElem?
  intro i
  rw [intsFrom_get, List.getElem?_map]
  by_cases h : i < n
  · rw [if_pos h, List.getElem?_range h]; rfl
  · rw [if_neg h, List.getElem?_eq_none (by simpa using h)]; rfl
section
variable {α : Type} {stay : Gh → Prop} {g : DG} {wl : DS} {De : DEnds} {env : Dv} {G : Gh} {tt : DT} {te : DE} {Q : DV → Gh → Prop} {xs : List α}
/-- typed forms: the items are xs by enc -/
theorem lcT_map (enc f : α → DV) (R : Nat → Gh → Prop) (h0 : R 0 G) (hs : ∀ i G, R i G → stay G) (hn : xs.length ≤ sizeLine)
    (ht : ∀ i a G (K : DV → Gh → Prop) (K2 : Gh → Prop), xs[i]? = some a → a ∈ xs → R i G → (∀ G1, R (i + 1) G1 → K (f a) G1) → g (enc a) env G fun env1 G1 => tt (fun _ _ _ => False) env1 G1 fun b G2 => if b = true then te (fun _ _ _ => False) env1 G2 K else K2 G2)
    (he : ∀ G, R xs.length G → ∀ p G1, G p = none → Sub G G1 → G1 p = some (.lst (xs.map f)) → Q (.ref p) G1) : lcL stay g tt te env Q (xs.map enc) [] G := by
  refine lcL_inv (fun i acc G => acc = (xs.take i).map f ∧ R i G) ⟨by simp, h0⟩ (fun i acc G _ h => hs i G h.2) (fun i d acc G K e hi ⟨ea, r⟩ k => ?_) (fun acc G ⟨ea, r⟩ p hp => he G (by rw [List.length_map] at r; exact r) p _ hp (Sub.new hp) (by rw [ea, List.length_map, List.take_length]; exact gup_same))
  obtain ⟨a, e', rfl⟩ := map_get e
  rw [List.length_map] at hi
  refine ht i a G (fun y G3 => acc.length < sizeLine ∧ K (acc ++ [y]) G3) (K acc) e' (List.mem_of_getElem? e') r fun G1 r1 => ⟨?_, k _ _ ⟨?_, r1⟩⟩
  · rw [ea, List.length_map, List.length_take]; omega
  · rw [ea, List.take_add_one, e']; simp
theorem lcT_filter (enc f : α → DV) (c : α → Bool) (R : Nat → Gh → Prop) (h0 : R 0 G) (hs : ∀ i G, R i G → stay G) (hn : xs.length ≤ sizeLine)
    (ht : ∀ i a G (K : DV → Gh → Prop) (K2 : Gh → Prop), xs[i]? = some a → a ∈ xs → R i G → (c a = true → ∀ G1, R (i + 1) G1 → K (f a) G1) → (c a = false → ∀ G1, R (i + 1) G1 → K2 G1) →
      g (enc a) env G fun env1 G1 => tt (fun _ _ _ => False) env1 G1 fun b G2 => if b = true then te (fun _ _ _ => False) env1 G2 K else K2 G2)
    (he : ∀ G, R xs.length G → ∀ p G1, G p = none → Sub G G1 → G1 p = some (.lst ((xs.filter c).map f)) → Q (.ref p) G1) : lcL stay g tt te env Q (xs.map enc) [] G := by
  refine lcL_inv (fun i acc G => acc = ((xs.take i).filter c).map f ∧ R i G) ⟨by simp, h0⟩ (fun i acc G _ h => hs i G h.2) (fun i d acc G K e hi ⟨ea, r⟩ k => ?_) (fun acc G ⟨ea, r⟩ p hp => he G (by rw [List.length_map] at r; exact r) p _ hp (Sub.new hp) (by rw [ea, List.length_map, List.take_length]; exact gup_same))
  obtain ⟨a, e', rfl⟩ := map_get e
  rw [List.length_map] at hi
  refine ht i a G (fun y G3 => acc.length < sizeLine ∧ K (acc ++ [y]) G3) (K acc) e' (List.mem_of_getElem? e') r (fun hc G1 r1 => ⟨?_, k _ _ ⟨?_, r1⟩⟩) (fun hc G1 r1 => k _ _ ⟨?_, r1⟩)
  · have := List.length_filter_le c (xs.take i)
    rw [ea, List.length_map]
    rw [List.length_take] at this
    omega
  · rw [ea, List.take_add_one, e']; simp [hc]
  · rw [ea, List.take_add_one, e']; simp [hc]
/-- the results are some bs by dec, each such that P -/
theorem lcT_all {β : Type} (enc : α → DV) (dec : β → DV) (P : α → β → Prop) (R : Nat → Gh → Prop) (h0 : R 0 G) (hs : ∀ i G, R i G → stay G) (hn : xs.length ≤ sizeLine)
    (ht : ∀ i a G (K : DV → Gh → Prop) (K2 : Gh → Prop), xs[i]? = some a → a ∈ xs → R i G → (∀ b G1, P a b → R (i + 1) G1 → K (dec b) G1) → g (enc a) env G fun env1 G1 => tt (fun _ _ _ => False) env1 G1 fun b G2 => if b = true then te (fun _ _ _ => False) env1 G2 K else K2 G2)
    (he : ∀ G (bs : List β), R xs.length G → bs.length = xs.length → (∀ (i : Nat) (a : α) (b : β), xs[i]? = some a → bs[i]? = some b → P a b) → ∀ p G1, G p = none → Sub G G1 → G1 p = some (.lst (bs.map dec)) → Q (.ref p) G1) : lcL stay g tt te env Q (xs.map enc) [] G := by
  refine lcL_inv (fun i acc G => (∃ bs : List β, acc = bs.map dec ∧ bs.length = i ∧ ∀ (j : Nat) (a : α) (b : β), xs[j]? = some a → bs[j]? = some b → P a b) ∧ R i G) ⟨⟨[], rfl, rfl, fun j a b _ h => by simp at h⟩, h0⟩ (fun i acc G _ h => hs i G h.2) (fun i d acc G K e hi ⟨⟨bs, ea, el, eb⟩, r⟩ k => ?_)
    (fun acc G ⟨⟨bs, ea, el, eb⟩, r⟩ p hp => he G bs (by rw [List.length_map] at r; exact r) (by rw [el, List.length_map]) eb p _ hp (Sub.new hp) (by rw [← ea]; exact gup_same))
  obtain ⟨a, e', rfl⟩ := map_get e
  rw [List.length_map] at hi
  refine ht i a G (fun y G3 => acc.length < sizeLine ∧ K (acc ++ [y]) G3) (K acc) e' (List.mem_of_getElem? e') r fun b G1 pb r1 => ⟨by rw [ea, List.length_map]; omega, k _ _ ⟨⟨bs ++ [b], by rw [ea]; simp, by simp [el], fun j a' b' h1 h2 => ?_⟩, r1⟩⟩
  by_cases hj : j < bs.length
  · rw [List.getElem?_append_left hj] at h2; exact eb j a' b' h1 h2
  · have : j = bs.length := by
      by_cases hj2 : j = bs.length
      · exact hj2
      · rw [List.getElem?_eq_none (by simp; omega)] at h2; cases h2
    subst this
    rw [List.getElem?_append_right (Nat.le_refl _)] at h2
    simp at h2
    subst h2
    rw [el, e'] at h1
    cases h1
    exact pb
/-- a loop over typed items -/
theorem forT (enc : α → DV) (Inv : Nat → Dv → Gh → Prop) (h0 : Inv 0 env G) (hs : ∀ i env G, Inv i env G → stay G)
    (ht : ∀ i a env G (K : Dv → Gh → Prop), xs[i]? = some a → a ∈ xs → Inv i env G → (∀ e g, Inv (i + 1) e g → K e g) → g (enc a) env G fun env1 G1 => wl { De with nx := K, ct := K, bk := De.nx } env1 G1)
    (he : ∀ env G, Inv xs.length env G → De.nx env G) : forL stay g wl De (xs.map enc) env G := by
  refine forL_inv Inv h0 (fun i env G _ h => hs i env G h) (fun i d env G K e hi p k => ?_) (fun env G p => he env G (by rw [List.length_map] at p; exact p))
  obtain ⟨a, e', rfl⟩ := map_get e
  exact ht i a env G K e' (List.mem_of_getElem? e') p k
end
/-- one of some numbers, by a drawn place -/
theorem pickI {G : Gh} {Q : DV → Gh → Prop} (ns : List Int) (P : Int → Prop) (h : ∀ n ∈ ns, P n) {l : List DV} {e : Addr} {v : Int} (he : G e = some (.lst l)) (hl : l = ns.map DV.int) (h0 : 0 ≤ v) (h1 : v < ns.length) (q : ∀ n, P n → Q (.int n) G) : dIx (.ref e) (.int v) G Q := by
  subst hl
  obtain ⟨x, hx, hm⟩ := atI_ints (l := ns) h0 (by rw [List.length_map]; exact h1)
  exact s_ixL he hx (q x (h x hm))
/-- crosswise sums -/
def dot (a b : List Int) : Int := ((a.zip b).map fun p => p.1 * p.2).sum
theorem dot_nil {b : List Int} : dot [] b = 0 := by simp [dot]
theorem dot_step {a b : List Int} {i : Nat} {p : Int × Int} (h : (a.zip b)[i]? = some p) : (((a.zip b).take (i + 1)).map fun p => p.1 * p.2).sum = (((a.zip b).take i).map fun p => p.1 * p.2).sum + p.1 * p.2 := by
  rw [List.take_add_one, h]
  simp [List.sum_append]
theorem dot_bound {a b : List Int} {A B n : Nat} (ha : ∀ x ∈ a, x.natAbs ≤ A) (hb : ∀ x ∈ b, x.natAbs ≤ B) (hn : a.length ≤ n) : (dot a b).natAbs ≤ n * (A * B) := by
  have z : ∀ x ∈ (a.zip b).map (fun p => p.1 * p.2), x.natAbs ≤ A * B := by
    intro x hx
    obtain ⟨p, hp, rfl⟩ := List.mem_map.mp hx
    have hm := List.of_mem_zip (show (p.1, p.2) ∈ _ from hp)
    rw [Int.natAbs_mul]
    exact Nat.mul_le_mul (ha _ hm.1) (hb _ hm.2)
  refine Nat.le_trans (sum_bound z) (Nat.mul_le_mul_right _ ?_)
  rw [List.length_map, List.length_zip]
  omega
def Sm (l : List Int) : Prop := ∀ x ∈ l, x.natAbs < 2 ^ 2000
theorem Sm.of {l : List Int} {B : Nat} (h : ∀ x ∈ l, x.natAbs ≤ B) (hB : B < 2 ^ 2000) : Sm l := fun x hx => Nat.lt_of_le_of_lt (h x hx) hB
theorem Sm.mul {x y : Int} (hx : x.natAbs < 2 ^ 2000) (hy : y.natAbs < 2 ^ 2000) : MulOk x y := MulOk.of hx hy (by decide) (by decide) (by decide)
theorem fr_ints {k : Nat} {l : List Int} {B : Nat} (hb : B ≤ 590) (h : ∀ x ∈ l, x.natAbs < 2 ^ B) {m : Nat} (hm : l.length ≤ m) : FrL (m * 1) k (l.map PyData.int) :=
  FrL.all (fun d hd => by obtain ⟨x, hx, rfl⟩ := List.mem_map.mp hd; exact Fr.int (h x hx) hb) (by rw [List.length_map]; exact hm)
theorem pd_ints (l : List Int) : (l.map DV.int).map DV.pd = l.map PyData.int := by rw [List.map_map]; congr 1; funext x; simp
theorem pure_ints (l : List Int) : (l.map DV.int).all DV.pure = true := by simp
theorem Fr.shaped {n k : Nat} {d : PyData} (f : Fr n k d) (hk : k ≤ 64 := by decide) : SeqAt.shaped d = true := by
  unfold SeqAt.shaped
  rw [f.lay, decide_eq_true (Nat.le_trans f.flat hk)]; rfl
/-- a sequence: a tuple, or a list that stands -/
def SeqD (G : Gh) (d : DV) (l : List DV) : Prop := d = .tup l ∨ d = .ro l ∨ ∃ a, d = .ref a ∧ G a = some (.lst l)
section
variable {G G1 : Gh} {d : DV} {l : List DV} {Q : DV → Gh → Prop}
theorem SeqD.sub (h : SeqD G d l) (s : Sub G G1) : SeqD G1 d l := by
  rcases h with h | h | ⟨a, h, e⟩
  · exact .inl h
  · exact .inr (.inl h)
  · exact .inr (.inr ⟨a, h, s _ _ e⟩)
theorem SeqD.ne {e : Addr} (h : SeqD G d l) (n : G e = none) : d ≠ .ref e := by
  rcases h with rfl | rfl | ⟨a, rfl, k⟩
  · intro q; cases q
  · intro q; cases q
  · intro q; cases q; rw [n] at k; cases k
theorem SeqD.old {e : Addr} (h : SeqD G d l) (n : d ≠ .ref e) (s : Old e G G1) : SeqD G1 d l := by
  rcases h with h | h | ⟨a, h, k⟩
  · exact .inl h
  · exact .inr (.inl h)
  · exact .inr (.inr ⟨a, h, s _ _ (by rintro rfl; exact n h) k⟩)
theorem SeqD.ix {i : Int} {x : DV} (h : SeqD G d l) (e : L2.atI l i = some x) (q : Q x G) : dIx d (.int i) G Q := by
  rcases h with rfl | rfl | ⟨a, rfl, k⟩
  · exact s_ixT e q
  · exact s_ixR e q
  · exact s_ixL k e q
theorem SeqD.len (h : SeqD G d l) (q : Q (.int l.length) G) : dLen [d] G Q := by
  rcases h with rfl | rfl | ⟨a, rfl, k⟩
  · exact s_lenT q
  · exact s_lenR q
  · exact s_lenL k q
/-- what must stay while it is walked -/
def stays (d : DV) (l : List DV) (G : Gh) : Prop := match d with | .ref a => G a = some (.lst l) | _ => True
theorem SeqD.stays (h : SeqD G d l) : stays d l G := by
  rcases h with rfl | rfl | ⟨a, rfl, k⟩
  · trivial
  · trivial
  · exact k
theorem SeqD.walk {I : List DV → (Gh → Prop) → Gh → Prop} (h : SeqD G d l) (q : I l (DL.stays d l) G) : seqK I d G := by
  rcases h with rfl | rfl | ⟨a, rfl, k⟩
  · exact s_seqT q
  · exact s_seqR q
  · exact s_seqL k q
theorem SeqD.src {S : List DV → (Gh → Prop) → Prop} (h : SeqD G d l) (q : S l (DL.stays d l)) : srcD d G S := by
  rcases h with rfl | rfl | ⟨a, rfl, k⟩
  · exact s_srcT q
  · exact s_srcR q
  · exact s_srcL k q
theorem SeqD.tuple (h : SeqD G d l) (q : Q (.tup l) G) : dTuple [d] G Q := by
  rcases h with rfl | rfl | ⟨a, rfl, k⟩
  · exact s_tupleT q
  · exact s_tupleR q
  · exact s_tupleL k q
theorem SeqD.list (h : SeqD G d l) (q : ∀ p G1, G p = none → Sub G G1 → G1 p = some (.lst l) → Q (.ref p) G1) : dList [d] G Q := by
  rcases h with rfl | rfl | ⟨a, rfl, k⟩
  · exact x_listT q
  · exact x_listR q
  · exact x_listL k q
end
theorem SeqD.t {G : Gh} {l : List DV} : SeqD G (.tup l) l := .inl rfl
theorem SeqD.r {G : Gh} {a : Addr} {l : List DV} (h : G a = some (.lst l)) : SeqD G (.ref a) l := .inr (.inr ⟨a, rfl, h⟩)
theorem at_some {α : Type} {f : α → DV} {l : List α} {i : Nat} {j : Int} (hi : i < l.length) (hj : j = i) : L2.atI (l.map f) j = some (f l[i]) := at_int (List.getElem?_eq_getElem hi) hj
theorem sum_step {α : Type} {l : List α} {i : Nat} {a : α} (f : α → Int) (h : l[i]? = some a) : ((l.take (i + 1)).map f).sum = ((l.take i).map f).sum + f a := by
  rw [List.take_add_one, h]
  simp [List.sum_append]
theorem zip_range {n : Nat} {l : List Int} (g : Nat → Int) (h : Int → Int → Int) (hl : l.length = n) : (((List.range n).map g).zip l).map (fun p => h p.1 p.2) = (List.range n).map fun j => h (g j) (l.getD j 0) := by
  apply List.ext_getElem?
  intro i
  by_cases hi : i < n
  · have e1 : ((List.range n).map g)[i]? = some (g i) := by rw [List.getElem?_map, List.getElem?_range hi]; rfl
    have e2 : l[i]? = some (l.getD i 0) := by rw [List.getD_eq_getElem?_getD, List.getElem?_eq_getElem (by omega)]; rfl
    have e3 : (((List.range n).map g).zip l)[i]? = some (g i, l.getD i 0) := by rw [List.getElem?_zip_eq_some]; exact ⟨e1, e2⟩
    rw [List.getElem?_map, e3, List.getElem?_map, List.getElem?_range hi]; rfl
  · rw [List.getElem?_eq_none (by simp; omega), List.getElem?_eq_none (by simp; omega)]
end DL

namespace DL
open PySem PySem.Spec L2
open PyProof.Rows hiding St

/-! ### a tuple so many times, by any number -/
theorem tuple_mulSame (l : Addr) (items : Array Value) (n : Nat) (dd : Option Addr) (sl : Array (Option Value)) (x : Int) (u : Tok) (c0 : (decide (x < -(2 ^ 63)) || decide (x ≥ 2 ^ 63)) = false) (c1 : (items.isEmpty || x == 1) = true) :
    Meets (Builtin.«tuple.__mul__» ⟨[.ref l, .int x u], []⟩) (fun _ R s => s.heap.get? l = some { cls := .type "tuple", dict := dd, data := .seq items n, slots := sl } ∧ R (.ok (.ret (Value.ref l))) s) :=
  .of_wp fun prog w A R s h => by
    obtain ⟨hp, g, d, tk, os⟩ := s
    obtain ⟨hl, h⟩ := h
    have f1 := AutoSeq1.idx_int
    wp_walk using wpAny_loadPart' hl
    repeat (first
      | (refine wpAny_ite_false (decide_eq_false (by rw [c0]; exact Bool.false_ne_true)) ?_; wp_walk using wpAny_loadPart' hl)
      | (refine wpAny_ite_true (decide_eq_true c1) ?_; wp_walk using wpAny_loadPart' hl))
    exact ⟨_, rfl, h⟩
theorem tuple_mulNone (l : Addr) (items : Array Value) (n : Nat) (dd : Option Addr) (sl : Array (Option Value)) (x : Int) (u : Tok) (c0 : (decide (x < -(2 ^ 63)) || decide (x ≥ 2 ^ 63)) = false) (c1 : (items.isEmpty || x == 1) = false) (c2 : (decide (x ≤ 0) || items.isEmpty) = true) :
    Meets (Builtin.«tuple.__mul__» ⟨[.ref l, .int x u], []⟩) (fun _ R s => s.heap.get? l = some { cls := .type "tuple", dict := dd, data := .seq items n, slots := sl } ∧
      R (.ok (.ret (Value.ref s.heap.objs.size))) { s with heap := s.heap.push { cls := Value.type "tuple", data := Data.seq #[] }, toks := s.toks }) :=
  .of_wp fun prog w A R s h => by
    obtain ⟨hp, g, d, tk, os⟩ := s
    obtain ⟨hl, h⟩ := h
    have f1 := AutoSeq1.idx_int
    wp_walk using wpAny_loadPart' hl
    repeat (first
      | (refine wpAny_ite_false (decide_eq_false (by rw [c0]; exact Bool.false_ne_true)) ?_; wp_walk using wpAny_loadPart' hl)
      | (refine wpAny_ite_false (decide_eq_false (by rw [c1]; exact Bool.false_ne_true)) ?_; wp_walk using wpAny_loadPart' hl)
      | (refine wpAny_ite_true (decide_eq_true c2) ?_; wp_walk using wpAny_loadPart' hl)
      | (refine wpAny_ite_false (decide_eq_false (Nat.not_lt.mpr (Nat.zero_le _))) ?_; wp_walk using wpAny_loadPart' hl))
    exact ⟨_, rfl, h⟩
theorem flat_one {α : Type} (xs : List α) : (List.replicate 1 xs).flatten = xs := by simp
theorem flat_nil {α : Type} (n : Nat) : (List.replicate n ([] : List α)).flatten = [] := by induction n with | zero => rfl | succ n ih => rw [List.replicate_succ, List.flatten_cons, ih]; rfl
section
variable {X : Cx}
def rTimes (K : PySem.W.Frag) : R2 := fun x y H Q => ∃ l k xs, x = .ref l ∧ y = .int k ∧ SqT K H l xs ∧ -1000 ≤ k ∧ k ≤ 1000 ∧ xs.length ≤ 1000 ∧ (xs = [] ∨ k = 1 → Q (.ref l) H) ∧ ∀ p, H p = none → Q (.ref p) (upd H p (.tup (List.replicate k.toNat xs).flatten))
theorem op_times : OpR X (binaryOp .Mult) (rTimes X.K) := by
  intro pins s σ H x y v u Q I rx ry h
  obtain ⟨l, k, xs, rfl, rfl, hT, h1, h2, hz, q1, q⟩ := h
  by_cases same : xs = [] ∨ k = 1 ∨ k ≤ 0
  · cases rx
    obtain ⟨t, rfl⟩ := ry
    obtain ⟨its, r, ⟨⟨cls, dd, data, sl⟩, ho, hc, n, hd⟩, hs⟩ := I.tuple hT
    simp only at hc hd
    subst hc hd
    have c0 : (decide (k < -(2 ^ 63)) || decide (k ≥ 2 ^ 63)) = false := by
      rw [decide_eq_false (by omega), decide_eq_false (by omega)] <;> rfl
    by_cases e1 : xs = [] ∨ k = 1
    · have c1 : (its.toArray.isEmpty || k == 1) = true := by
        rcases e1 with rfl | rfl
        · cases r; rfl
        · simp
      exact wpAny_binaryOp_repeat_ref (T := "tuple") (U := "int") (by decide) ⟨_, ho, rfl⟩ (fun s' => typeIs_int s' k t) noFill_tuple_mul F.fills_int_mul F.slot_int_rmul repeat_tuple F.slot_int_index.lookup
        (call_meets F.slot_int_rmul (typeIs_int s k t) F.entry_int_rmul (F.args_int_rmul_2 _ _) (int_rmul_tuple k t l its.toArray n dd sl)
          ⟨ho, rfl, ⟨_, ho, rfl⟩, call_meets F.slot_tuple_mul ⟨_, ho, rfl⟩ F.entry_tuple_mul (F.args_tuple_mul_2 _ _) (tuple_mulSame l its.toArray n dd sl k t c0 c1) ⟨ho, ⟨.ref l, H, I, rfl, q1 e1⟩⟩⟩)
    · have hk : k ≤ 0 := by
        rcases same with h | h | h
        · exact absurd (.inl h) e1
        · exact absurd (.inr h) e1
        · exact h
      have c1 : (its.toArray.isEmpty || k == 1) = false := by
        have : its ≠ [] := fun z => e1 (.inl (by subst z; cases r; rfl))
        cases its with
        | nil => exact absurd rfl this
        | cons a b => exact beq_eq_false_iff_ne.mpr (by omega)
      have c2 : (decide (k ≤ 0) || its.toArray.isEmpty) = true := by rw [decide_eq_true hk]; rfl
      refine wpAny_binaryOp_repeat_ref (T := "tuple") (U := "int") (by decide) ⟨_, ho, rfl⟩ (fun s' => typeIs_int s' k t) noFill_tuple_mul F.fills_int_mul F.slot_int_rmul repeat_tuple F.slot_int_index.lookup
        (call_meets F.slot_int_rmul (typeIs_int s k t) F.entry_int_rmul (F.args_int_rmul_2 _ _) (int_rmul_tuple k t l its.toArray n dd sl)
          ⟨ho, rfl, ⟨_, ho, rfl⟩, call_meets F.slot_tuple_mul ⟨_, ho, rfl⟩ F.entry_tuple_mul (F.args_tuple_mul_2 _ _) (tuple_mulNone l its.toArray n dd sl k t c0 c1 c2) ⟨ho, ?_⟩⟩)
      have e : (List.replicate k.toNat xs).flatten = [] := by rw [show k.toNat = 0 by omega]; rfl
      have q2 := q _ (I.hok.fresh (Nat.le_refl _))
      rw [e] at q2
      refine ⟨.ref s.heap.objs.size, _, I.laid (t' := s.toks) (o := .tup []) (fun b ob q => Heap.get?_push_of_some _ q) (Nat.le_refl _) ?_, rfl, q2⟩
      exact ⟨Nat.zero_le _, [], .nil, IsTup.new _ _⟩
  · exact op_repT pins s σ H _ _ v u Q I rx ry ⟨l, k, xs, rfl, rfl, hT, fun z => same (.inl z), by omega, h2, hz, q⟩
/-- products: numbers, lists and tuples so many times -/
def dMulA : D2 := fun x y G Q => match x, y with
  | .tup l, .int n => -1000 ≤ n ∧ n ≤ 1000 ∧ l.length ≤ 1000 ∧ Q (.tup (List.replicate n.toNat l).flatten) G
  | x, y => dMul x y G Q
theorem o_mulA : OpD X (binaryOp .Mult) dMulA := by
  rintro pins s σ H x y v u Q I rx ry ⟨dx, dy, G, P, vx, vy, wg, h, k⟩
  unfold dMulA at h
  split at h
  · rename_i l n
    cases vx with
    | tup sq rs =>
      cases vy
      obtain ⟨h1, h2, h3, h⟩ := h
      refine op_times pins s σ H _ _ v u Q I rx ry ⟨_, _, _, rfl, rfl, (SqT.of sq), h1, h2, by rw [rs.len]; exact h3, fun e => ?_, fun p np => ?_⟩
      · have e2 : (List.replicate n.toNat l).flatten = l := by
          rcases e with e | rfl
          · subst e; cases rs; exact flat_nil _
          · exact flat_one _
        rw [e2] at h
        exact op_end wg k h (.tup sq rs)
      · exact k _ _ _ _ h (wg.new np) (Ext.new np) (VR.newT wg np (rs.reps _))
  · exact o_mul pins s σ H x y v u Q I rx ry ⟨dx, dy, G, P, vx, vy, wg, h, k⟩
variable {G : Gh} {Q : DV → Gh → Prop} {l m : List DV} {a b : Int}
theorem s_mulT (h : -1000 ≤ a ∧ a ≤ 1000 ∧ l.length ≤ 1000) (q : Q (.tup (List.replicate a.toNat l).flatten) G) : dMulA (.tup l) (.int a) G Q := ⟨h.1, h.2.1, h.2.2, q⟩
theorem s_mulA (h : MulOk a b) (q : Q (.int (a * b)) G) : dMulA (.int a) (.int b) G Q := ⟨h, q⟩
theorem x_mulL {e : Addr} (he : G e = some (.lst l)) (h : -(2 ^ 63) ≤ a ∧ a < 2 ^ 63 ∧ l.length * a.toNat ≤ sizeLine) (q : ∀ p G1, G p = none → Sub G G1 → G1 p = some (.lst (List.replicate a.toNat l).flatten) → Q (.ref p) G1) : dMul (.ref e) (.int a) G Q := ⟨l, he, h.1, h.2.1, h.2.2, x_new q⟩
theorem x_mulLA {e : Addr} (he : G e = some (.lst l)) (h : -(2 ^ 63) ≤ a ∧ a < 2 ^ 63 ∧ l.length * a.toNat ≤ sizeLine) (q : ∀ p G1, G p = none → Sub G G1 → G1 p = some (.lst (List.replicate a.toNat l).flatten) → Q (.ref p) G1) : dMulA (.ref e) (.int a) G Q := ⟨l, he, h.1, h.2.1, h.2.2, x_new q⟩
theorem flat_int (n : Nat) (x : Int) : (List.replicate n [DV.int x]).flatten = (List.replicate n x).map DV.int := by
  induction n with
  | zero => rfl
  | succ n ih => rw [List.replicate_succ, List.flatten_cons, ih]; rfl

/-! ### list(range(n)) -/
variable {W : WX} {e : Expr} {wr : DA} {wa : DE} {pos p p2 : Pos}
def lrK (Q : DV → Gh → Prop) (d : DV) (G : Gh) : Prop := match d with
  | .int n => (0 ≤ n ∧ n ≤ 1000000) ∧ ∀ p, G p = none → Q (.ref p) (gup G p (.lst (intsFrom 0 n.toNat)))
  | _ => False
def wListRg (wa : DE) : DE := fun Y env G Q => wa Y env G (lrK Q)
theorem rgV_ints {K : PySem.W.Frag} {H : Hp} (n : Int) : VRs K H (rgV 0 n) (intsFrom 0 n.toNat) := by
  have e1 : rgV 0 n = ((List.range n.toNat).map fun i => (0 + (i : Nat) : Int)).map V.int := by unfold rgV; rw [List.map_map, Int.sub_zero]; rfl
  have e2 : intsFrom 0 n.toNat = ((List.range n.toNat).map fun i => (0 + (i : Nat) : Int)).map DV.int := by rw [intsFrom_eq, List.map_map]; rfl
  rw [e1, e2]
  exact VRs.ints _
theorem q_listRg (hm : X.mg "list" = none) (hr : X.mg "range" = none) (hc : X.calm = true) (he : QE X W e wa) (hg : Gl X "list" := by rfl) (hgr : Gl X "range" := by rfl) (na : starEach [.Call (.Name "range" p2) [e] [] pos] X.env = (false, eval (.Call (.Name "range" p2) [e] [] pos) X.env) :: starEach [] X.env := by rfl)
    (na2 : starEach [e] X.env = (false, eval e X.env) :: starEach [] X.env := by rfl) {pos2 : Pos} : QE X W (.Call (.Name "list" p) [.Call (.Name "range" p2) [e] [] pos] [] pos2) (wListRg wa) :=
  ⟨PE.wk (pe_listRg hc hg hm (prg_1 hgr hr he.pe na2) na) fun σ H Q ⟨Y, env, G, P, er, wg, h, k, kx⟩ => ⟨Y, env, G, _, er, wg, h, fun d G1 v H1 h1 w1 x1 r => by
    cases d <;> first | exact h1.elim | skip
    cases r
    obtain ⟨hn, h1⟩ := h1
    exact ⟨_, rfl, RgOk.of_le (Int.le_refl 0) (by omega) (by decide) hn.1, fun q nq => k _ _ _ _ (h1 q (w1.non nq)) (w1.newL nq (rgV_ints _)) (x1.trans (Ext.newC nq)) (.ref q)⟩, kx⟩⟩
variable {Y : DX} {env : Dv}
theorem s_listRg {wa : DE} (q : wa Y env G (lrK Q)) : wListRg wa Y env G Q := q
theorem x_lr {n : Int} (h : 0 ≤ n ∧ n ≤ 1000000) (q : ∀ p G1, G p = none → Sub G G1 → G1 p = some (.lst (intsFrom 0 n.toNat)) → Q (.ref p) G1) : lrK Q (.int n) G := ⟨h, x_new q⟩
end
/-! ### list.insert(i, x) -/
section
variable {X : Cx}
def dInsert : DM := fun x ds G Q => match x, ds with
  | .ref a, [.int i, d] => ∃ l, G a = some (.lst l) ∧ l.length < sizeLine ∧ 0 ≤ i ∧ i < 2 ^ 63 ∧ Q .non (gup G a (.lst (l.take i.toNat ++ [d] ++ l.drop i.toNat)))
  | _, _ => False
theorem m_insert : MtD X "list.insert" dInsert := by
  rintro pins s σ H x xs v us Q I rx rs ⟨dx, ds, G, P, vx, vs, wg, h, k⟩
  match dx, ds, vx, vs, h with
  | .ref a, [.int i, d], .ref _, .cons (.int _) (.cons r .nil), ⟨l, ga, hl, i0, i1, h⟩ =>
    obtain ⟨ys, ha, ra⟩ := wg _ _ ga
    exact mt_insert pins s σ H _ _ v us Q I rx rs ⟨a, ys, i, _, rfl, rfl, ha, by rw [ra.len]; exact hl, i0, i1, k _ _ _ _ h (wg.setL ga (((ra.take _).app (.one r)).app (ra.drop _))) (Ext.setC ga) .non⟩
variable {G : Gh} {Q : DV → Gh → Prop} {l : List DV} {d : DV}
theorem x_insert {e : Addr} {i : Int} (he : G e = some (.lst l)) (h : l.length < sizeLine ∧ 0 ≤ i ∧ i < 2 ^ 63) (q : ∀ G1, Old e G G1 → G1 e = some (.lst (l.take i.toNat ++ [d] ++ l.drop i.toNat)) → Q .non G1) : dInsert (.ref e) [.int i, d] G Q := ⟨l, he, h.1, h.2.1, h.2.2, q _ Old.set gup_same⟩
theorem x_pop {e : Addr} (he : G e = some (.lst l)) (h : l[l.length - 1]? = some d) (q : ∀ G1, Old e G G1 → G1 e = some (.lst l.dropLast) → Q d G1) : dPop (.ref e) [] G Q := ⟨l, d, he, h, q _ Old.set gup_same⟩
theorem x_popAt {e : Addr} {i : Int} {n : Nat} (he : G e = some (.lst l)) (h : -(2 ^ 63) ≤ i ∧ i < 2 ^ 63) (hn : seqIndex? i l.length = some n) (hd : l[n]? = some d) (q : ∀ G1, Old e G G1 → G1 e = some (.lst (l.eraseIdx n)) → Q d G1) : dPop (.ref e) [.int i] G Q := ⟨l, n, d, he, h.1, h.2, hn, hd, q _ Old.set gup_same⟩
end
/-! ### places -/
theorem ixN_lt {n : Nat} {v : Int} (h0 : 0 ≤ v) (h1 : v < n) : ixN n v = some v.toNat := by
  unfold ixN; rw [if_pos h0, if_pos h1]
theorem seqIndex_lt {n : Nat} {v : Int} (h0 : 0 ≤ v) (h1 : v < n) : seqIndex? v n = some v.toNat := (ixN_seq (ixN_lt h0 h1)).1
theorem set_ints {xs : List Int} {j : Nat} {y : Int} : (xs.map DV.int).set j (.int y) = (xs.set j y).map DV.int := by rw [List.map_set]
theorem mem_set_of {α : Type} {xs : List α} {P : α → Prop} {j : Nat} {y : α} (h : ∀ x ∈ xs, P x) (hy : P y) : ∀ x ∈ xs.set j y, P x := fun x hx => by
  rcases List.mem_or_eq_of_mem_set hx with h1 | h1
  · exact h x h1
  · rw [h1]; exact hy
theorem erase_ints {α : Type} {f : α → DV} : ∀ {xs : List α} {j : Nat}, (xs.map f).eraseIdx j = (xs.eraseIdx j).map f
  | [], _ => rfl
  | _ :: _, 0 => rfl
  | x :: xs, j + 1 => by
    show f x :: (xs.map f).eraseIdx j = f x :: (xs.eraseIdx j).map f
    rw [erase_ints]
theorem log_small {m : Int} (h0 : 0 < m) (h : m ≤ 1000000000000) : m.natAbs.log2 < 9000 := by
  refine Nat.lt_of_lt_of_le ((Nat.log2_lt (by omega)).mpr (show m.natAbs < 2 ^ 40 by omega)) (by decide)
section
variable {G : Gh} {Q : DV → Gh → Prop}
/-- one of some things, by a place within -/
theorem pickA {α : Type} (enc : α → DV) (as : List α) {l : List DV} {e : Addr} {v : Int} (he : G e = some (.lst l)) (hl : l = as.map enc) (h0 : 0 ≤ v) (h1 : v < as.length) (q : ∀ a, a ∈ as → Q (enc a) G) : dIx (.ref e) (.int v) G Q := by
  subst hl
  have hj : v.toNat < as.length := by omega
  exact s_ixL he (at_some hj (by omega)) (q _ (List.getElem_mem hj))
theorem x_setI {e : Addr} {xs : List Int} {v y : Int} {U : Gh → Prop} (he : G e = some (.lst (xs.map DV.int))) (h0 : 0 ≤ v) (h1 : v < xs.length) (q : ∀ G1, Old e G G1 → G1 e = some (.lst ((xs.set v.toNat y).map DV.int)) → U G1) : dSet (.ref e) (.int v) (.int y) G U :=
  x_setL he (by rw [List.length_map]; exact ixN_lt h0 h1) set_ints q
end
end DL

namespace DL
open PySem PySem.Spec L2
open PyProof.Rows hiding St

/-! ### dicts with numbers and texts as keys -/
def valD {α κ : Type} [DecidableEq κ] (kvs : List (κ × α)) (k : κ) : Option α := (kvs.find? fun kv => decide (kv.1 = k)).map (·.2)
def putD {α κ : Type} [DecidableEq κ] (kvs : List (κ × α)) (k : κ) (v : α) : List (κ × α) :=
  if (kvs.any fun kv => decide (kv.1 = k)) = true then kvs.map (fun kv => if kv.1 = k then (kv.1, v) else kv) else kvs ++ [(k, v)]
def mergeD {α κ : Type} [DecidableEq κ] (kvs more : List (κ × α)) : List (κ × α) := more.foldl (fun acc kv => putD acc kv.1 kv.2) kvs
def keyD : DV → Option Key
  | .int i => some (.inl i)
  | .str s => some (.inr s)
  | _ => none
/-- the keys of a tuple of numbers and texts -/
def keysD : List DV → Option (List Key)
  | [] => some []
  | d :: r => match keyD d, keysD r with
    | some k, some ks => some (k :: ks)
    | _, _ => none
def keyT : DV → Option (List Key)
  | .tup l => keysD l
  | _ => none
def kD : Key → DV
  | .inl i => .int i
  | .inr s => .str s
section
variable {K : PySem.W.Frag} {H : Hp} {κ : Type} [DecidableEq κ]
theorem KR.len : ∀ {xs : List (κ × V)} {ys : List (κ × DV)}, KR K H xs ys → xs.length = ys.length
  | _, _, .nil => rfl
  | _, _, .cons _ t => by simp [t.len]
theorem KR.val {k : κ} {d : DV} : ∀ {xs : List (κ × V)} {ys : List (κ × DV)}, KR K H xs ys → valD ys k = some d → ∃ v, valV xs k = some v ∧ VR K H v d
  | _, _, .nil, e => by simp [valD] at e
  | _, (_ :: ys'), .cons (k := k') (v := v) (d := d') r t, e => by
    by_cases hk : k' = k
    · subst hk
      simp [valD, List.find?_cons] at e
      subst e
      exact ⟨v, by simp [valV, List.find?_cons], r⟩
    · have e' : valD ys' k = some d := by simpa [valD, List.find?_cons, hk] using e
      obtain ⟨w, h1, h2⟩ := t.val e'
      exact ⟨w, by simpa [valV, List.find?_cons, hk] using h1, h2⟩
theorem KR.isSome {k : κ} : ∀ {xs : List (κ × V)} {ys : List (κ × DV)}, KR K H xs ys → (valV xs k).isSome = (valD ys k).isSome
  | _, _, .nil => rfl
  | _, _, .cons (k := k') r t => by
    by_cases hk : k' = k
    · simp [valV, valD, List.find?_cons, hk]
    · have := t.isSome (k := k)
      simpa [valV, valD, List.find?_cons, hk] using this
theorem KR.any {k : κ} : ∀ {xs : List (κ × V)} {ys : List (κ × DV)}, KR K H xs ys → (xs.any fun kv => decide (kv.1 = k)) = (ys.any fun kv => decide (kv.1 = k))
  | _, _, .nil => rfl
  | _, _, .cons r t => by rw [List.any_cons, List.any_cons, t.any]
theorem KR.app : ∀ {xs us : List (κ × V)} {ys ds : List (κ × DV)}, KR K H xs ys → KR K H us ds → KR K H (xs ++ us) (ys ++ ds)
  | _, _, _, _, .nil, s => s
  | _, _, _, _, .cons r t, s => .cons r (t.app s)
theorem KR.over {k : κ} {v : V} {d : DV} (r : VR K H v d) : ∀ {xs : List (κ × V)} {ys : List (κ × DV)}, KR K H xs ys → KR K H (xs.map fun kv => if kv.1 = k then (kv.1, v) else kv) (ys.map fun kv => if kv.1 = k then (kv.1, d) else kv)
  | _, _, .nil => .nil
  | _, _, .cons (k := k') q t => by
    rw [List.map_cons, List.map_cons]
    by_cases hk : k' = k
    · simp only [hk, if_true]; exact .cons r (t.over r)
    · simp only [hk, if_false]; exact .cons q (t.over r)
theorem KR.put {k : κ} {v : V} {d : DV} {xs : List (κ × V)} {ys : List (κ × DV)} (t : KR K H xs ys) (r : VR K H v d) : KR K H (putK xs k v) (putD ys k d) := by
  unfold putK putD
  rw [t.any (k := k)]
  split
  · exact t.over r
  · exact t.app (.cons r .nil)
omit [DecidableEq κ] in
theorem KR.merge : ∀ {us : List (Key × V)} {ds : List (Key × DV)} {xs : List (Key × V)} {ys : List (Key × DV)}, KR K H us ds → KR K H xs ys → KR K H (mergeK xs us) (mergeD ys ds)
  | _, _, _, _, .nil, s => s
  | _, _, _, _, .cons r t, s => t.merge (s.put r)
theorem VR.key {v : V} {d : DV} {k : Key} (r : VR K H v d) (h : keyD d = some k) : v = kV k := by
  cases r <;> first | (cases h; rfl) | cases h
theorem VRs.keys : ∀ {vs : List V} {ds : List DV} {ks : List Key}, VRs K H vs ds → keysD ds = some ks → vs = ks.map kV
  | _, _, ks, .nil, h => by cases h; rfl
  | _, _, ks, .cons (d := d) (ds := ds) r t, h => by
    unfold keysD at h
    cases hk : keyD d with
    | none => rw [hk] at h; cases h
    | some k =>
      cases hr : keysD ds with
      | none => rw [hk, hr] at h; cases h
      | some ks' =>
        rw [hk, hr] at h
        cases h
        rw [r.key hk, VRs.keys t hr]; rfl
theorem VR.keyT {v : V} {d : DV} {ks : List Key} (r : VR K H v d) (h : DL.keyT d = some ks) : ∃ b, v = .ref b ∧ H b = some (.tup (ks.map kV)) := by
  cases r with
  | tup e rs => exact ⟨_, rfl, by rw [← rs.keys h]; exact e⟩
  | _ => cases h
theorem keysD_ints (l : List Int) : keysD (l.map DV.int) = some (l.map Sum.inl) := by
  induction l with
  | nil => rfl
  | cons a l ih => simp only [List.map_cons, keysD, ih, keyD]
/-- pairs -/
inductive PRs (K : PySem.W.Frag) (H : Hp) : List (V × V) → List (DV × DV) → Prop
  | nil : PRs K H [] []
  | cons {x y : V} {a b : DV} {xs : List (V × V)} {ys : List (DV × DV)} : VR K H x a → VR K H y b → PRs K H xs ys → PRs K H ((x, y) :: xs) ((a, b) :: ys)
theorem PRs.keys : ∀ {us : List (V × V)} {kvs : List (Key × DV)}, PRs K H us (kvs.map fun kv => (kD kv.1, kv.2)) → ∃ ws : List (Key × V), us = ws.map (fun kv => (kV kv.1, kv.2)) ∧ KR K H ws kvs
  | _, [], .nil => ⟨[], rfl, .nil⟩
  | _, (k, d) :: kvs, .cons (y := y) r q t => by
    obtain ⟨ws, e, r2⟩ := PRs.keys (kvs := kvs) t
    have : _ = kV k := VR.key (k := k) r (by cases k <;> rfl)
    exact ⟨(k, y) :: ws, by rw [e, this]; rfl, .cons q r2⟩
end
def dPairs : List (DE × DE) → DX → Dv → Gh → (List (DV × DV) → Gh → Prop) → Prop
  | [], _, _, G, Q => Q [] G
  | (k, v) :: r, Y, env, G, Q => k Y env G fun x G1 => v Y env G1 fun y G2 => dPairs r Y env G2 fun ps G3 => Q ((x, y) :: ps) G3
def wDisp (trs : List (DE × DE)) : DE := fun Y env G Q => dPairs trs Y env G fun ps G1 => ∃ kvs : List (Key × DV), ps = kvs.map (fun kv => (kD kv.1, kv.2)) ∧ kvs.length ≤ 15 ∧ ∀ p, G1 p = none → Q (.ref p) (gup G1 p (.dic (mergeD [] kvs)))
section
variable {X : Cx} {W : WX} {pos : Pos}
def TEp (K : PySem.W.Frag) (W : WX) (t : DE × DE) : TE × TE := (TEl K W t.1, TEl K W t.2)
theorem PRs.ext {K : PySem.W.Frag} {G G' : Gh} {H H' : Hp} (w : WG K G H) (x : Ext G H G' H') : ∀ {us : List (V × V)} {ps : List (DV × DV)}, PRs K H us ps → PRs K H' us ps
  | _, _, .nil => .nil
  | _, _, .cons r q t => .cons (r.ext w x) (q.ext w x) (t.ext w x)
theorem pairs_parts {K : PySem.W.Frag} : ∀ (trs : List (DE × DE)) (σ : L2.St) (H : Hp) (Q : List (V × V) → Hp → Prop) (Y : DX) (env : Dv) (G : Gh) (P : List (DV × DV) → Gh → Prop), ER K H σ env → WG K G H → dPairs trs Y env G P →
    (∀ ps G' us H', P ps G' → WG K G' H' → Ext G H G' H' → PRs K H' us ps → Q us H') → XLe K G H Y (fun c d => W c d σ) → tPairs (trs.map (TEp K W)) σ H Q
  | [], σ, H, Q, Y, env, G, P, er, wg, h, k, kx => k [] G [] H h wg Ext.refl .nil
  | (a, b) :: r, σ, H, Q, Y, env, G, P, er, wg, h, k, kx =>
    ⟨Y, env, G, _, er, wg, h, fun x G1 v H1 h1 w1 x1 r1 => ⟨Y, env, G1, _, er.ext wg x1, w1, h1, fun y G2 u H2 h2 w2 x2 r2 =>
      pairs_parts r σ H2 _ Y env G2 _ ((er.ext wg x1).ext w1 x2) w2 h2 (fun ps G3 us H3 h3 w3 x3 r3 => k _ _ _ _ h3 w3 ((x1.trans x2).trans x3) (.cons ((r1.ext w1 x2).ext w2 x3) (r2.ext w2 x3) r3)) ((kx.step x1).step x2), kx.step x1⟩, kx⟩
theorem q_disp {keys : List (Option Expr)} {values : List Expr} {trs : List (DE × DE)} (h : PPs X pos keys values (trs.map (TEp X.K W))) (hall : keys.all (·.isSome) = true := by rfl) (hl : keys.length = values.length := by rfl) (h0 : keys ≠ [] := by intro z; cases z)
    (h15 : keys.length ≤ 15 := by decide) : QE X W (.Dict keys values pos) (wDisp trs) := by
  refine ⟨PE.wk (pe_disp h hall hl h0 h15) ?_⟩
  rintro σ H Q ⟨Y, env, G, P, er, wg, hw, k, kx⟩ p hp
  have x0 : Ext G H G (upd H p (.dK [])) := Ext.new hp
  refine pairs_parts trs σ _ _ Y env G _ (er.ext wg x0) (wg.new hp) hw (fun ps G1 us H1 ⟨kvs, e1, e15, q⟩ w1 x1 r1 => ?_) (kx.step x0)
  subst e1
  obtain ⟨ws, rfl, kr⟩ := PRs.keys r1
  obtain ⟨e2, n2⟩ := x1 p _ upd_same (wg.non hp)
  have wp : WG X.K (gup G1 p (.dic [])) H1 := fun a c e => by
    by_cases ha : a = p
    · subst ha
      rw [gup_same] at e; cases e
      exact ⟨[], e2, .nil⟩
    · rw [gup_ne ha] at e; exact w1 a c e
  have kr2 : KR X.K H1 (mergeK [] ws) (mergeD [] kvs) := kr.merge .nil
  have xp : Ext (gup G1 p (.dic [])) H1 (gup (gup G1 p (.dic [])) p (.dic (mergeD [] kvs))) (upd H1 p (.dK (mergeK [] ws))) := Ext.setC gup_same
  have w2 : WG X.K (gup G1 p (.dic (mergeD [] kvs))) (upd H1 p (.dK (mergeK [] ws))) := by
    have := wp.put (a := p) (c := .dic (mergeD [] kvs)) (o := .dK (mergeK [] ws)) (.inr ⟨_, gup_same⟩) ⟨_, upd_same, kr2.ext wp xp⟩
    rw [gup_gup] at this
    exact this
  refine ⟨e2, ws, rfl, by rw [kr.len]; exact e15, k _ _ _ _ (q p n2) w2 (fun a o e n => ?_) (.ref p)⟩
  have hap : a ≠ p := by rintro rfl; rw [hp] at e; cases e
  have e0 : (upd H p (.dK [])) a = some o := by rw [upd_ne hap]; exact e
  obtain ⟨e3, n3⟩ := x1 a o e0 n
  exact ⟨by rw [upd_ne hap]; exact e3, by rw [gup_ne hap]; exact n3⟩
/-- d[k] -/
def dIxD : D2 := fun x y G Q => match x with
  | .ref a => (∃ kvs k d, G a = some (.dic kvs) ∧ keyD y = some k ∧ valD kvs k = some d ∧ Q d G) ∨ ∃ kvs k d, G a = some (.dt kvs) ∧ keyT y = some k ∧ valD kvs k = some d ∧ Q d G
  | _ => False
theorem ix_dict (hu : X.A.units + 1 < cLine) : IxR X (fun x y H Q => ∃ a v, x = .ref a ∧ DGet H a y (some v) ∧ Q v H) := by
  intro value slice pins s σ H x y v u Q I rx ry h hs
  obtain ⟨a, z, rfl, g, q⟩ := h
  obtain rfl : v = Value.ref a := rx
  have hT := dict_typeIs I g
  unfold subscriptTail
  refine wpAny_bind ?_
  rw [getitemInPython_of_ne hT.not_modules]
  refine wpAny_bind (wpAny_specialOf hT PySem.F.slot_dict_getitem.lookup ?_)
  have fin : wpAny (model X.prog X.w) X.A (subscripted slice false (.ref a) u) (fun r s₃ => wpAny (model X.prog X.w) X.A (letTemporaryGo value (.ref a) r >>= fun _ => pure r) (EP X pins σ Q) X.xe s₃) X.xe s := by
    rw [hs]
    exact wpAny_operating (wpAny_mono (d_getItem (Q := EP X pins σ Q) hu I g ry fun w' s3 I3 rw' => ⟨z, H, I3, rw', q⟩) (fun r s₃ h₃ => wpAny_bind (wpAny_letTemporaryGo (wpAny_pure h₃))) fun _ _ x => x)
  first
    | exact wpAny_pure (wpAny_bind fin)
    | exact wpAny_bind (wpAny_pure (wpAny_bind fin))
    | exact wpAny_bind fin
theorem o_ixD (hu : X.A.units + 64 < cLine) : IxD X dIxD := by
  rintro value slice pins s σ H x y v u Q I rx ry ⟨dx, dy, G, P, vx, vy, wg, h, k⟩ hs
  cases dx <;> first | exact h.elim | skip
  rename_i a
  cases vx
  rcases h with ⟨kvs, kk, d, ga, hk, hv, q⟩ | ⟨kvs, kk, d, ga, hk, hv, q⟩
  · obtain ⟨ws, ha, kr⟩ := wg _ _ ga
    obtain ⟨z, hz, rz⟩ := kr.val hv
    rw [vy.key hk] at ry
    exact ix_dict (by omega) value slice pins s σ H _ _ v u Q I rx ry ⟨a, z, rfl, hz ▸ DGet.k ha, op_end wg k q rz⟩ hs
  · obtain ⟨ws, ha, kr⟩ := wg _ _ ga
    obtain ⟨z, hz, rz⟩ := kr.val hv
    obtain ⟨b, rfl, eb⟩ := vy.keyT hk
    exact ix_dict (by omega) value slice pins s σ H _ _ v u Q I rx ry ⟨a, z, rfl, hz ▸ DGet.t ha eb, op_end wg k q rz⟩ hs
/-- d[k] = v -/
def dSetDi : D3 := fun o i v G Q => match o with
  | .ref a => (∃ kvs k, G a = some (.dic kvs) ∧ keyD i = some k ∧ kvs.length < sizeLine ∧ Q (gup G a (.dic (putD kvs k v)))) ∨ ∃ kvs k, G a = some (.dt kvs) ∧ keyT i = some k ∧ kvs.length < sizeLine ∧ Q (gup G a (.dt (putD kvs k v)))
  | _ => False
theorem o_setDi (hu : X.A.units + 64 < cLine) : SetD X dSetDi := by
  rintro pins s σ H o i v ov iv u Q I ro ri rv ⟨dv, dx, dy, G, P, vo, vi, vv, wg, h, k⟩
  cases dv <;> first | exact h.elim | skip
  rename_i a
  cases vo
  rcases h with ⟨kvs, kk, ga, hk, hl, q⟩ | ⟨kvs, kk, ga, hk, hl, q⟩
  · obtain ⟨ws, ha, kr⟩ := wg _ _ ga
    rw [vi.key hk] at ri
    have kr2 := kr.put (k := kk) vv
    have xp : Ext G H (gup G a (.dic (putD kvs kk dy))) (upd H a (.dK (putK ws kk v))) := Ext.setC ga
    exact set_dict (by omega) pins s σ H _ _ v ov iv u Q I ro ri rv ⟨a, _, rfl, DPut.k ha (by rw [kr.len]; exact hl), k _ _ q (wg.put (.inr ⟨_, ga⟩) ⟨_, upd_same, kr2.ext wg xp⟩) xp⟩
  · obtain ⟨ws, ha, kr⟩ := wg _ _ ga
    obtain ⟨b, rfl, eb⟩ := vi.keyT hk
    have kr2 := kr.put (k := kk) vv
    have xp : Ext G H (gup G a (.dt (putD kvs kk dy))) (upd H a (.dT (putK ws kk v))) := Ext.setC ga
    exact set_dict (by omega) pins s σ H _ _ v ov iv u Q I ro ri rv ⟨a, _, rfl, DPut.t ha eb (by rw [kr.len]; exact hl), k _ _ q (wg.put (.inr ⟨_, ga⟩) ⟨_, upd_same, kr2.ext wg xp⟩) xp⟩
variable {G : Gh} {Q : DV → Gh → Prop} {d y : DV} {e : Addr} {k : Key} {kvs : List (Key × DV)}
theorem s_ixD (he : G e = some (.dic kvs)) (hk : keyD y = some k) (hv : valD kvs k = some d) (q : Q d G) : dIxD (.ref e) y G Q := .inl ⟨kvs, k, d, he, hk, hv, q⟩
theorem s_ixDt {ks : List Key} {kws : List (List Key × DV)} (he : G e = some (.dt kws)) (hk : keyT y = some ks) (hv : valD kws ks = some d) (q : Q d G) : dIxD (.ref e) y G Q := .inr ⟨kws, ks, d, he, hk, hv, q⟩
theorem x_setDi {i : DV} {U : Gh → Prop} (he : G e = some (.dic kvs)) (hk : keyD i = some k) (hl : kvs.length < sizeLine) (q : ∀ G1, Old e G G1 → G1 e = some (.dic (putD kvs k d)) → U G1) : dSetDi (.ref e) i d G U := .inl ⟨kvs, k, he, hk, hl, q _ Old.set gup_same⟩
theorem x_setDt {i : DV} {U : Gh → Prop} {ks : List Key} {kws : List (List Key × DV)} (he : G e = some (.dt kws)) (hk : keyT i = some ks) (hl : kws.length < sizeLine) (q : ∀ G1, Old e G G1 → G1 e = some (.dt (putD kws ks d)) → U G1) : dSetDi (.ref e) i d G U := .inr ⟨kws, ks, he, hk, hl, q _ Old.set gup_same⟩
variable {Y : DX} {env : Dv} {trs : List (DE × DE)} {wa wb : DE} {R : List (DV × DV) → Gh → Prop}
def dispK (Q : DV → Gh → Prop) (ps : List (DV × DV)) (G1 : Gh) : Prop := ∃ kvs : List (Key × DV), ps = kvs.map (fun kv => (kD kv.1, kv.2)) ∧ kvs.length ≤ 15 ∧ ∀ p, G1 p = none → Q (.ref p) (gup G1 p (.dic (mergeD [] kvs)))
theorem s_disp (q : dPairs trs Y env G (dispK Q)) : wDisp trs Y env G Q := q
theorem s_pairs0 (q : R [] G) : dPairs [] Y env G R := q
theorem s_pairs (q : wa Y env G fun x G1 => wb Y env G1 fun y G2 => dPairs trs Y env G2 fun ps G3 => R ((x, y) :: ps) G3) : dPairs ((wa, wb) :: trs) Y env G R := q
theorem x_disp {ps : List (DV × DV)} (kvs : List (Key × DV)) (h : ps = kvs.map (fun kv => (kD kv.1, kv.2))) (hl : kvs.length ≤ 15) (q : ∀ p G1, G p = none → Sub G G1 → G1 p = some (.dic (mergeD [] kvs)) → Q (.ref p) G1) : dispK Q ps G := ⟨kvs, h, hl, fun p hp => q p _ hp (Sub.new hp) gup_same⟩
end
section
variable {X : Cx} {W : WX} {pos : Pos} {Y : DX} {env : Dv} {G : Gh} {Q : DV → Gh → Prop}
def wDnew : DE := fun _ _ G Q => ∀ p, G p = none → Q (.ref p) (gup G p (.dic []))
theorem q_dnew : QE X W (.Dict [] [] pos) wDnew :=
  ⟨PE.wk pe_dnewK fun σ H Q ⟨Y, env, G, P, er, wg, h, k, kx⟩ p hp => k _ _ _ _ (h p (wg.non hp)) (wg.put (.inl hp) ⟨[], upd_same, .nil⟩) (Ext.newC hp) (.ref p)⟩
theorem x_dnew (q : ∀ p G1, G p = none → Sub G G1 → G1 p = some (.dic []) → Q (.ref p) G1) : wDnew Y env G Q := fun p hp => q p _ hp (Sub.new hp) gup_same
end
theorem Sub.transR {G G1 G2 : Gh} (k : Sub G1 G2) (h : Sub G G1) : Sub G G2 := h.trans k
theorem Sub.ownR {G g g1 : Gh} {e : Addr} (k : Old e g g1) (n : G e = none) (h : Sub G g) : Sub G g1 := h.own n k
theorem none_sub {G G1 : Gh} {e : Addr} (n : G1 e = none) (h : Sub G G1) : G e = none := by
  cases z : G e with
  | none => rfl
  | some u => rw [h _ _ z] at n; cases n
def toK : List (DV × DV) → Option (List (Key × DV))
  | [] => some []
  | (a, b) :: r => match keyD a, toK r with
    | some k, some l => some ((k, b) :: l)
    | _, _ => none
theorem toK_ok : ∀ {ps : List (DV × DV)} {kvs : List (Key × DV)}, toK ps = some kvs → ps = kvs.map (fun kv => (kD kv.1, kv.2))
  | [], _, h => by cases h; rfl
  | (a, b) :: r, kvs, h => by
    unfold toK at h
    cases ka : keyD a with
    | none => rw [ka] at h; cases h
    | some k =>
      cases kr : toK r with
      | none => rw [ka, kr] at h; cases h
      | some l =>
        rw [ka, kr] at h
        cases h
        rw [toK_ok kr]
        have : a = kD k := by cases a <;> first | (cases ka; rfl) | cases ka
        rw [this]; rfl
theorem x_dispR {G : Gh} {Q : DV → Gh → Prop} {ps : List (DV × DV)} {kvs m : List (Key × DV)} (h : toK ps = some kvs) (hm : mergeD [] kvs = m) (hl : kvs.length ≤ 15) (q : ∀ p G1, G p = none → Sub G G1 → G1 p = some (.dic m) → Q (.ref p) G1) : dispK Q ps G := by
  subst hm
  exact x_disp kvs (toK_ok h) hl q
theorem kv_few {α : Type} {l : List α} (h : Nat.ble l.length 1000 = true) : l.length < sizeLine := Nat.lt_of_le_of_lt (Nat.le_of_ble_eq_true h) (by decide)
theorem ne_goneR {G : Gh} {a b : Addr} {c : Cell} (h' : G b = none) (h : G a = some c) : a ≠ b := ne_gone h h'
/-! loops and comprehensions over a written list, turn by turn -/
section
variable {stay : Gh → Prop} {g : DG} {wl : DS} {De : DEnds} {env : Dv} {G : Gh} {tt : DT} {te : DE} {Q : DV → Gh → Prop} {x : DV} {r acc : List DV}
theorem s_lcNil (hs : stay G) (q : ∀ p G1, G p = none → Sub G G1 → G1 p = some (.lst acc) → Q (.ref p) G1) : lcL stay g tt te env Q [] acc G := ⟨hs, fun p hp => q p _ hp (Sub.new hp) gup_same⟩
def lcTl (stay : Gh → Prop) (g : DG) (tt : DT) (te : DE) (env : Dv) (Q : DV → Gh → Prop) (r acc : List DV) (y : DV) (G3 : Gh) : Prop := acc.length < sizeLine ∧ lcL stay g tt te env Q r (acc ++ [y]) G3
theorem s_lcCons (hs : stay G) (q : g x env G fun env1 G1 => tt (fun _ _ _ => False) env1 G1 fun b G2 => if b = true then te (fun _ _ _ => False) env1 G2 (lcTl stay g tt te env Q r acc) else lcL stay g tt te env Q r acc G2) : lcL stay g tt te env Q (x :: r) acc G := ⟨hs, q⟩
theorem s_lcTl {y : DV} {m : List DV} (h : acc.length < sizeLine) (e : acc ++ [y] = m) (q : lcL stay g tt te env Q r m G) : lcTl stay g tt te env Q r acc y G := by subst e; exact ⟨h, q⟩
theorem s_foNil (hs : stay G) (q : De.nx env G) : forL stay g wl De [] env G := ⟨hs, q⟩
theorem s_foCons (hs : stay G) (q : g x env G fun env1 G1 => wl { De with nx := forL stay g wl De r, ct := forL stay g wl De r, bk := De.nx } env1 G1) : forL stay g wl De (x :: r) env G := ⟨hs, q⟩
end
theorem shaped_ints (ns : List Int) : SeqAt.shaped (.list (ns.map PyData.int)) = true := by
  have h1 : PyData.canLayAll0 (ns.map PyData.int) = true := by
    induction ns with
    | nil => rfl
    | cons n r ih => rw [List.map_cons]; simp only [PyData.canLayAll0, PyData.canLay0, ih, Bool.and_true]
  have h2 : PyData.depthAll (ns.map PyData.int) = 0 := by
    clear h1
    induction ns with
    | nil => rfl
    | cons n r ih => rw [List.map_cons]; simp only [PyData.depthAll, PyData.depth, ih, Nat.max_self]
  unfold SeqAt.shaped
  have e1 : (PyData.list (ns.map PyData.int)).canLay0 = true := h1
  have e2 : (PyData.list (ns.map PyData.int)).depth ≤ 64 := by show PyData.depthAll _ + 1 ≤ 64; rw [h2]; decide
  rw [e1, decide_eq_true e2]; rfl
end DL

namespace PySem
open Sem (wp)
open AutoSeq1 (wpAny_loadPart')
/-- enumerate(v): over what begins -/
theorem meets_enumerate_new1 {v : Value} {o : Obj} {H : Heap → Prop} (B : Begins v o H) :
    Meets (Builtin.«enumerate.__new__» ⟨[.type "enumerate", v], []⟩) (fun _ R s => H s.heap ∧
      R (.ok (.ret (.ref (s.heap.push o).objs.size))) { s with heap := (s.heap.push o).push { cls := .type "enumerate", data := .fields #[.none, .bool false, .ref s.heap.objs.size, rawInt 0, .none, .none] } }) :=
  .of_wp fun prog w A R s h => by
    obtain ⟨hp, g, d, tk, os⟩ := s; obtain ⟨h1, h⟩ := h
    have hsub := sub_enumerate
    have q1 : ∀ {A' : Around} {E : Value → Shared → Prop} {Q : Value → Shared → Prop}, Q (.ref hp.objs.size) ⟨hp.push o, g, d, tk, os⟩ → wpAny (model prog w) A' (pyIter v) Q E ⟨hp, g, d, tk, os⟩ :=
      fun q => B.iter prog w _ _ ⟨hp, g, d, tk, os⟩ _ h1 q
    wp_walk using q1
    refine wpAny_stack_any fun st => wpAny_pure ?_
    split
    · rename_i c _ _ _ _ _
      cases (c == Value.type "enumerate")
      · wp_walk using q1
        exact ⟨_, rfl, h⟩
      · wp_walk using q1
        exact ⟨_, rfl, h⟩
    · wp_walk using q1
      exact ⟨_, rfl, h⟩
section
variable {prog : Program} {w : World} {A : Around} {E : Value → Shared → Prop} {s : Shared}
theorem enum_begins1 {v : Value} {o : Obj} {H : Heap → Prop} {Q : Value → Shared → Prop} (B : Begins v o H) (h1 : H s.heap)
    (h : ∀ h', IsEnum h' (s.heap.objs.size + 1) s.heap.objs.size 0 .none → h'.get? s.heap.objs.size = some o → h'.objs.size = s.heap.objs.size + 2 →
      (∀ b o, s.heap.get? b = some o → h'.get? b = some o) → Q (.ref (s.heap.objs.size + 1)) { s with heap := h' }) :
    wpAny (model prog w) A (call (.type "enumerate") [v]) Q E s := by
  refine callType_new F.called_enumerate (by decide) (F.typeCall_enumerate_1 _) (F.newCall_enumerate_1 _) (fun obj => F.args_object_init_2 obj _) F.entry_enumerate_new
    (meets_enumerate_new1 B) ⟨h1, ?_⟩
  have hz : (s.heap.push o).objs.size = s.heap.objs.size + 1 := Heap.size_push ..
  show _ ∧ _
  rw [hz]
  have he : IsEnum ((s.heap.push o).push { cls := .type "enumerate", data := .fields #[.none, .bool false, .ref s.heap.objs.size, rawInt 0, .none, .none] }) (s.heap.objs.size + 1) s.heap.objs.size 0 .none := by
    have := Heap.get?_push_size (s.heap.push o) (o := { cls := .type "enumerate", data := .fields #[.none, .bool false, .ref s.heap.objs.size, rawInt 0, .none, .none] }) rfl
    rw [hz] at this; exact this
  refine ⟨⟨_, he, rfl⟩, h _ he (Heap.get?_push_of_some _ (Heap.get?_push_size _ B.free)) (by rw [Heap.size_push, hz]) fun b o x => Heap.get?_push_of_some _ (Heap.get?_push_of_some _ x)⟩
end
end PySem
namespace DL
open PySem PySem.Spec L2
open PyProof.Rows hiding St
/-- the sequence at a as it stands at each turn, each item in a new pair -/
def IteB (K : PySem.W.Frag) (t : Bool) (a : Addr) : It :=
  ⟨fun i H => ∃ (xs : List V) (x : V), SqB K H t a xs ∧ xs[i]? = some x, fun i H v H' => ∃ T x, v = .ref T ∧ H T = none ∧ H' = upd H T (.tup [.int (i : Nat), x]) ∧ ∀ xs, SqB K H t a xs → xs[i]? = some x, fun i H => ∃ xs : List V, SqB K H t a xs ∧ xs.length = i⟩
theorem turn_enumB {P : Program} {w : World} {K : PySem.W.Frag} {elts : List Expr} {kk : Nat} {tpos : Pos} {t : Bool} {a N : Addr} (la : a < N) :
    Turn P w K (.Tuple elts kk tpos) (IteB K t a) [N + 1, N] (N + 1) (fun i h => (∃ old, IsEnum h (N + 1) N ((0 : Int) + (i : Int)) old) ∧ ItB h t N a i) where
  mem := by simp
  obj := fun i h st c hc => by
    obtain ⟨⟨old, he⟩, h1⟩ := st
    have e' : c = N + 1 ∨ c = N := by simpa using hc
    rcases e' with q | q
    · rw [q]; exact ⟨_, he, fun v q => nomatch q⟩
    · rw [q]; exact h1.obj
  keep := fun i h h' st k => by
    obtain ⟨⟨old, he⟩, h1⟩ := st
    exact ⟨⟨old, k _ (by simp) _ he⟩, h1.at fun o q => k N (by simp) o q⟩
  item := by
    intro X hP hw hK hc i pins s σ H E I hf st hg
    subst hP hw hK
    obtain ⟨he, h1⟩ := st
    obtain ⟨xs, x, hqx, hx⟩ := hg
    obtain ⟨its, rv, p, _, _⟩ := srcB I hqx
    obtain ⟨u, hu, ru⟩ := rv.get hx
    have D1 := drawsB (prog := X.prog) (w := X.w) (A := X.A.in1) (I.ok.hd hc) t N a (Nat.ne_of_lt la) its.toArray
    have l1 : i < its.toArray.size := (List.getElem?_eq_some_iff.mp hu).1
    have W := WalksT.enumFrom 0 D1 (N + 1) (Nat.succ_ne_self N) (fun hm => by
      rcases List.mem_cons.mp hm with h | h
      · exact absurd h (Nat.succ_ne_self N)
      · exact absurd (List.mem_singleton.mp h) (Nat.ne_of_gt (Nat.lt_succ_of_lt la))) (by simp)
    refine thn (wt_item (elts := elts) (k := kk) (pos := tpos) (xs := [.int (i : Nat), x]) W I (fun c hcm => hf c ?_) l1 ⟨he, ⟨h1, p⟩⟩ (fun vals hv => ?_) (by show 2 ≤ sizeLine; decide)) ?_
    · have e' : c = N + 1 ∨ c = N := by simpa using hcm
      rcases e' with q | q <;> rw [q] <;> simp
    · obtain ⟨tk, x1, e1, rfl⟩ := hv
      have q1 : x1 = u := by
        have z : its[i]? = some x1 := by simpa using e1
        rw [hu] at z; exact (Option.some.inj z).symm
      subst q1
      rw [Int.zero_add]
      exact .cons ⟨tk, rfl⟩ (.cons ru .nil)
    · rintro r s1 ⟨v, hr, hgo⟩
      refine ⟨v, hr, thn hgo ?_⟩
      rintro _ s2 ⟨T, I2, rfl, hT, st2⟩
      have nT : H T = none := I.hok.fresh hT
      refine ⟨.ref T, _, I2, rfl, ⟨T, x, rfl, nT, rfl, fun l hl => by rw [SqB.inj I hl hqx]; exact hx⟩, ?_, fun c hcm => ?_⟩
      · obtain ⟨z1, z2⟩ := st2
        exact ⟨z1, z2.1⟩
      · have hlt : c < s.heap.objs.size := by
          have e' : c = N + 1 ∨ c = N := by simpa using hcm
          rcases e' with q | q
          · rw [q]; obtain ⟨_, he⟩ := he; exact Heap.lt_size he
          · rw [q]; obtain ⟨_, e1, _⟩ := h1.obj; exact Heap.lt_size e1
        rw [upd_ne (Nat.ne_of_lt (Nat.lt_of_lt_of_le hlt hT))]
        exact (hf c hcm).1
  done := by
    intro X hP hw hK hc i pins s σ H E I hf st hg
    subst hP hw hK
    obtain ⟨he, h1⟩ := st
    obtain ⟨xs, hqx, hend⟩ := hg
    obtain ⟨its, rv, p, _, _⟩ := srcB I hqx
    have D1 := drawsB (prog := X.prog) (w := X.w) (A := X.A.in1) (I.ok.hd hc) t N a (Nat.ne_of_lt la) its.toArray
    have W := WalksT.enumFrom 0 D1 (N + 1) (Nat.succ_ne_self N) (fun hm => by
      rcases List.mem_cons.mp hm with h | h
      · exact absurd h (Nat.succ_ne_self N)
      · exact absurd (List.mem_singleton.mp h) (Nat.ne_of_gt (Nat.lt_succ_of_lt la))) (by simp)
    have e : i = its.toArray.size := by rw [← hend, List.size_toArray, rv.length]
    subst e
    refine wt_done W I (fun c hcm => hf c ?_) ⟨he, ⟨h1, p⟩⟩
    have e' : c = N + 1 ∨ c = N := by simpa using hcm
    rcases e' with q | q <;> rw [q] <;> simp
  self := fun A i s Q E st h => by
    obtain ⟨⟨_, he⟩, _⟩ := st
    exact wpAny_pyIter_enum he h
def enumL (n : Nat) : List DV → List DV
  | [] => []
  | a :: r => .tup [.int (n : Int), a] :: enumL (n + 1) r
theorem enumL_len : ∀ (l : List DV) (n : Nat), (enumL n l).length = l.length
  | [], n => rfl
  | a :: r, n => by simp [enumL, enumL_len r]
theorem enumL_get : ∀ (l : List DV) (n i : Nat) (d : DV), (enumL n l)[i]? = some d → ∃ x, d = .tup [.int ((n + i : Nat) : Int), x] ∧ l[i]? = some x
  | [], n, i, d, h => by simp [enumL] at h
  | a :: r, n, 0, d, h => by simp [enumL] at h; exact ⟨a, h.symm, rfl⟩
  | a :: r, n, i + 1, d, h => by
    obtain ⟨x, e, e1⟩ := enumL_get r (n + 1) i d (by simpa [enumL] using h)
    exact ⟨x, by rw [e]; congr 3; omega, by simpa using e1⟩
theorem enumL_map {α : Type} (f : α → DV) : ∀ (l : List α) (n : Nat), enumL n (l.map f) = (l.zipIdx n).map fun p => .tup [.int (p.2 : Nat), f p.1]
  | [], n => rfl
  | a :: r, n => by simp [enumL, enumL_map f r, List.zipIdx_cons]
theorem itd_enum {K : PySem.W.Frag} {t : Bool} {a : Addr} {l : List DV} {s1 : Gh → Prop} {G : Gh} {H : Hp} (o1 : SrcOk K t a l s1 G H) : ItD K (IteB K t a) (enumL 0 l) s1 G H where
  go := fun i H1 G1 d wg x st e => by
    obtain ⟨dx, rfl, ex⟩ := enumL_get l 0 i d e
    obtain ⟨xs, qx, rx⟩ := o1.all _ _ wg x st
    obtain ⟨v, ev, rv⟩ := rx.get ex
    refine ⟨⟨xs, v, qx, ev⟩, ?_⟩
    rintro z H' ⟨T, x', rfl, nT, rfl, f1⟩
    have q1 := f1 xs qx
    rw [ev] at q1; cases q1
    rw [Nat.zero_add]
    exact ⟨wg.new nT, Ext.new nT, VR.newT wg nT (.cons (.int _) (.cons rv .nil))⟩
  stop := fun i H1 G1 wg x st hl => by
    obtain ⟨xs, qx, rx⟩ := o1.all _ _ wg x st
    exact ⟨xs, qx, by rw [rx.len, ← hl, enumL_len]⟩
def wiEnumerate1 (wr : DA) : DI := fun Y env G R => wr Y env G fun ds G1 => match ds with
  | [x] => srcD x G1 fun l s1 => R (enumL 0 l) s1 G1
  | _ => False
section
variable {X : Cx} {W : WX} {e : Expr} {wr : DA} {pos p tpos : Pos} {elts : List Expr} {kk : Nat}
theorem qi_enumerate1 (hm : X.mg "enumerate" = none) (ha : QA X W [e] wr) (hg : Gl X "enumerate" := by rfl) (hs : starEach [e] X.env = (false, eval e X.env) :: starEach [] X.env := by rfl) (hpl : (backTo pos (starEach [] X.env)).any (·.1) = false := by rfl) :
    QI X W (.Tuple elts kk tpos) (.Call (.Name "enumerate" p) [e] [] pos) (wiEnumerate1 wr) := by
  refine ⟨⟨?_⟩⟩
  rintro pins s σ H R I ⟨Y, env, G, P, er, wg, hw, k, kx⟩
  refine Call_ (ld_blt I hg hm boot_enumerate (PyProof.Rows.callWith_type1 (thn (ha.pa.run pos pins s σ H (fun vs H1 => ∃ ds G1, VRs X.K H1 vs ds ∧ WG X.K G1 H1 ∧ Ext G H G1 H1 ∧ (match ds with
    | [x] => srcD x G1 fun l s1 => P (enumL 0 l) s1 G1
    | _ => False)) I ⟨Y, env, G, _, er, wg, hw, fun ds G1 vs H1 h1 w1 x1 r1 => ⟨ds, G1, r1, w1, x1, h1⟩, kx⟩) fun us s1 ⟨vs, H1, I1, r1, ds, G1, rs, w1, x1, h1⟩ => ?_) hs hpl))
  match ds, rs, h1 with
  | [dx], .cons rx .nil, h1 =>
    obtain ⟨t1, a, l, st1, rfl, h2, sg1, ok1⟩ := srcD.ok w1 rx h1
    cases r1 with
    | cons ra rr =>
      cases rr
      cases ra
      obtain ⟨xs, qx, _⟩ := ok1.all _ _ w1 Ext.refl sg1
      obtain ⟨its, _, p1, _, la⟩ := srcB I1 qx
      refine enum_begins1 (beginsB t1 a its.toArray) p1 fun h' he h1 hsz hk => wpAny_pyIter_enum he ?_
      have I2 : L2.Inv X pins σ H1 { s1 with heap := h' } := I1.kept (t' := s1.toks) hk
      refine ⟨s1.heap.objs.size + 1, _, _, _, H1, rfl, I2, turn_enumB (t := t1) la, ⟨⟨_, he⟩, ItB.start h1⟩, fun c hcm => ?_, k _ _ _ _ _ h2 w1 x1 (itd_enum ok1)⟩
      have e' : c = s1.heap.objs.size + 1 ∨ c = s1.heap.objs.size := by simpa using hcm
      have hle : s1.heap.objs.size ≤ c := by
        rcases e' with z | z <;> (rw [z]; first | exact Nat.le_refl _ | exact Nat.le_add_right _ _)
      exact I1.fpOk hle (I1.hok.fresh hle)
end
section
variable {wr : DA} {Y : DX} {env : Dv} {G : Gh} {I : List DV → (Gh → Prop) → Gh → Prop} {x : DV}
def enum1K (I : List DV → (Gh → Prop) → Gh → Prop) (ds : List DV) (G1 : Gh) : Prop := match ds with
  | [x] => srcD x G1 fun l s1 => I (enumL 0 l) s1 G1
  | _ => False
theorem s_wiEnum1 (q : wr Y env G (enum1K I)) : wiEnumerate1 wr Y env G I := q
theorem s_enum1 (q : srcD x G fun l s1 => I (enumL 0 l) s1 G) : enum1K I [x] G := q
end
end DL

namespace DL
open PySem PySem.Spec L2
open PyProof.Rows hiding St
theorem Old.subR {t : Addr} {G G1 G2 : Gh} (k : Sub G1 G2) (h : Old t G G1) : Old t G G2 := h.trans k.old
theorem Old.transR {t : Addr} {G G1 G2 : Gh} (k : Old t G1 G2) (h : Old t G G1) : Old t G G2 := h.trans k
theorem Old.ownR2 {t e : Addr} {G G1 G2 : Gh} (k : Old e G1 G2) (n : G e = none) (h : Old t G G1) : Old t G G2 := h.own n k
theorem none_old {G G1 : Gh} {t e : Addr} (n : G1 e = none) (h : Old t G G1) (ne : e ≠ t) : G e = none := by
  cases z : G e with
  | none => rfl
  | some u => rw [h _ _ ne z] at n; cases n
theorem all_rangeA {α : Type} {n : Nat} {bs : List α} {P : α → Prop} (hb : bs.length = (List.range n).length) (h : ∀ (i a : Nat) (b : α), (List.range n)[i]? = some a → bs[i]? = some b → P b) : ∀ b ∈ bs, P b := by
  intro y hy
  obtain ⟨j, hj⟩ := List.mem_iff_getElem?.mp hy
  have hj2 : j < n := by
    have := (List.getElem?_eq_some_iff.mp hj).1
    rw [hb, List.length_range] at this; exact this
  exact h j j y (List.getElem?_range hj2) hj
theorem s_andS {x : Bool} (y : Bool) {A : Prop} {G : Gh} {Q : DV → Gh → Prop} (h : (∀ G', Sub G G' → Q (.bl y) G') → A) (q : ∀ G', Sub G G' → Q (.bl (x && y)) G') : if x = true then A else Q (.bl false) G := by
  cases x
  · exact q _ Sub.refl
  · exact h q
theorem s_orS {x : Bool} (y : Bool) {A : Prop} {G : Gh} {Q : DV → Gh → Prop} (h : (∀ G', Sub G G' → Q (.bl y) G') → A) (q : ∀ G', Sub G G' → Q (.bl (x || y)) G') : if x = true then Q (.bl true) G else A := by
  cases x
  · exact h q
  · exact q _ Sub.refl
theorem zip_getD {n : Nat} {a b : List Int} (h : Int → Int → Int) (ha : a.length = n) (hb : b.length = n) : (a.zip b).map (fun p => h p.1 p.2) = (List.range n).map fun j => h (a.getD j 0) (b.getD j 0) := by
  refine List.ext_getElem (by simp [ha, hb]) fun i x y => ?_
  have hi : i < n := by simpa using y
  simp [List.getD, List.getElem?_eq_getElem (show i < a.length by omega), List.getElem?_eq_getElem (show i < b.length by omega)]
/-- a comprehension over a range -/
theorem lcR_map {n : Nat} {stay : Gh → Prop} {g : DG} {env : Dv} {G : Gh} {tt : DT} {te : DE} {Q : DV → Gh → Prop} (f : Nat → DV) (R : Nat → Gh → Prop) (h0 : R 0 G) (hs : ∀ i G, R i G → stay G) (hn : n ≤ 1000000)
    (ht : ∀ i G (K : DV → Gh → Prop) (K2 : Gh → Prop), i < n → R i G → (∀ G1, R (i + 1) G1 → K (f i) G1) → g (.int (0 + (i : Int))) env G fun env1 G1 => tt (fun _ _ _ => False) env1 G1 fun b G2 => if b = true then te (fun _ _ _ => False) env1 G2 K else K2 G2)
    (he : ∀ G, R n G → ∀ p G1, G p = none → Sub G G1 → G1 p = some (.lst ((List.range n).map f)) → Q (.ref p) G1) : lcL stay g tt te env Q (intsFrom 0 n) [] G := by
  rw [intsFrom_eq]
  refine lcT_map _ f R h0 hs (by rw [List.length_range, sizeLine_eq]; omega) (fun i a G K K2 e me r k => ?_) (fun G r => he G (by rwa [List.length_range] at r))
  obtain ⟨rfl, hi⟩ := range_get e
  exact ht _ _ _ _ hi r k
/-- a comprehension over a range, the results some by dec, each such that P -/
theorem lcR_all {n : Nat} {β : Type} {stay : Gh → Prop} {g : DG} {env : Dv} {G : Gh} {tt : DT} {te : DE} {Q : DV → Gh → Prop} (dec : β → DV) (P : β → Prop) (R : Nat → Gh → Prop) (h0 : R 0 G) (hs : ∀ i G, R i G → stay G) (hn : n ≤ 1000000)
    (ht : ∀ i G (K : DV → Gh → Prop) (K2 : Gh → Prop), i < n → R i G → (∀ b G1, P b → R (i + 1) G1 → K (dec b) G1) → g (.int (0 + (i : Int))) env G fun env1 G1 => tt (fun _ _ _ => False) env1 G1 fun b G2 => if b = true then te (fun _ _ _ => False) env1 G2 K else K2 G2)
    (he : ∀ G (bs : List β), R n G → bs.length = n → (∀ b ∈ bs, P b) → ∀ p G1, G p = none → Sub G G1 → G1 p = some (.lst (bs.map dec)) → Q (.ref p) G1) : lcL stay g tt te env Q (intsFrom 0 n) [] G := by
  rw [intsFrom_eq]
  refine lcT_all _ dec (fun _ b => P b) R h0 hs (by rw [List.length_range, sizeLine_eq]; omega) (fun i a G K K2 e me r k => ?_) (fun G bs r hl hP => he G bs (by rwa [List.length_range] at r) (by rwa [List.length_range] at hl) (all_rangeA hl hP))
  obtain ⟨rfl, hi⟩ := range_get e
  exact ht _ _ _ _ hi r k
/-- the results are some bs by dec, each such that P; all of them -/
theorem lcT_all' {α β : Type} {xs : List α} {stay : Gh → Prop} {g : DG} {env : Dv} {G : Gh} {tt : DT} {te : DE} {Q : DV → Gh → Prop} (enc : α → DV) (dec : β → DV) (P : β → Prop) (R : Nat → Gh → Prop) (h0 : R 0 G) (hs : ∀ i G, R i G → stay G) (hn : xs.length ≤ 1000000)
    (ht : ∀ i a G (K : DV → Gh → Prop) (K2 : Gh → Prop), xs[i]? = some a → a ∈ xs → R i G → (∀ b G1, P b → R (i + 1) G1 → K (dec b) G1) → g (enc a) env G fun env1 G1 => tt (fun _ _ _ => False) env1 G1 fun b G2 => if b = true then te (fun _ _ _ => False) env1 G2 K else K2 G2)
    (he : ∀ G (bs : List β), R xs.length G → bs.length = xs.length → (∀ b ∈ bs, P b) → ∀ p G1, G p = none → Sub G G1 → G1 p = some (.lst (bs.map dec)) → Q (.ref p) G1) : lcL stay g tt te env Q (xs.map enc) [] G := by
  refine lcT_all enc dec (fun _ b => P b) R h0 hs (by rw [sizeLine_eq]; omega) ht (fun G bs r hl hP => he G bs r hl fun y hy => ?_)
  obtain ⟨j, hj⟩ := List.mem_iff_getElem?.mp hy
  have hj2 : j < xs.length := by have := (List.getElem?_eq_some_iff.mp hj).1; omega
  exact hP j _ y (List.getElem?_eq_getElem hj2) hj
/-- a loop over a range -/
theorem forR {n : Nat} {stay : Gh → Prop} {g : DG} {wl : DS} {De : DEnds} {env : Dv} {G : Gh} (Inv : Nat → Dv → Gh → Prop) (h0 : Inv 0 env G) (hs : ∀ i env G, Inv i env G → stay G)
    (ht : ∀ (i : Nat) env G (K : Dv → Gh → Prop), i < n → Inv i env G → (∀ e g, Inv (i + 1) e g → K e g) → g (.int (0 + (i : Int))) env G fun env1 G1 => wl { De with nx := K, ct := K, bk := De.nx } env1 G1)
    (he : ∀ env G, Inv n env G → De.nx env G) : forL stay g wl De (intsFrom 0 n) env G := by
  rw [intsFrom_eq]
  refine forT _ Inv h0 hs (fun i a env G K e me p k => ?_) (fun env G p => he env G (by rwa [List.length_range] at p))
  obtain ⟨rfl, hi⟩ := range_get e
  exact ht _ _ _ _ hi p k
end DL

namespace DL
open PySem PySem.Spec L2
open PyProof.Rows hiding St
/-! ### defs that call themselves -/
def dNo : DF := fun _ _ _ _ => False
theorem FG.no {P : Program} {w : World} {K : PySem.W.Frag} {mg : Str → Option Value} {base : Heap} {k : Nat} {f : Addr} {fd : FuncData} {ps : List Str} {d : DF} (no : ∀ ds G Q Y, d ds G Q Y → False) : FG P w K mg base k f fd ps d :=
  ⟨fun _ _ _ _ h => (no _ _ _ _ h).elim, fun _ _ _ _ _ _ _ _ _ _ _ _ _ _ ⟨_, _, _, _, _, _, h, _⟩ => (no _ _ _ _ h).elim⟩
/-! ### sorted of a list of data -/
section
variable {X : Cx}
theorem each_fun {α β : Type} {R R' : α → β → Prop} : ∀ {vs : List α} {bs : List β}, PySem.W.EachIs R vs bs → (∀ v b, b ∈ bs → R v b → R' v b) → PySem.W.EachIs R' vs bs
  | _, _, .nil, _ => .nil
  | _, _, .cons h t, f => .cons (f _ _ (by simp) h) (each_fun t fun v b hb => f v b (by simp [hb]))
theorem each_of {K : PySem.W.Frag} {H : Hp} : ∀ {xs : List V} {us : List Value} {ps : List (DV × PyData)}, VRs K H xs (ps.map Prod.fst) → Vals xs us → PySem.W.EachIs (fun u b => ∃ x, VR K H x b.1 ∧ RelV x u) us ps
  | _, _, [], r, v => by cases r; cases v; exact .nil
  | _, _, p :: ps, r, v => by
    cases r with
    | cons r1 rs =>
      cases v with
      | cons v1 vs => exact .cons ⟨_, r1, v1⟩ (each_of rs vs)
theorem of_each {K : PySem.W.Frag} {H : Hp} : ∀ {us : List Value} {ps : List (DV × PyData)}, PySem.W.EachIs (fun u b => ∃ x, VR K H x b.1 ∧ RelV x u) us ps → ∃ xs, VRs K H xs (ps.map Prod.fst) ∧ Vals xs us
  | _, _, .nil => ⟨[], .nil, .nil⟩
  | _, _, .cons ⟨x, r, v⟩ t => by
    obtain ⟨xs, rs, vs⟩ := of_each t
    exact ⟨x :: xs, .cons r rs, .cons v vs⟩
/-- the items' data -/
def dSorted : DC := fun ds G Q => match ds with
  | [.ref a] => ∃ ps : List (DV × PyData), G a = some (.lst (ps.map Prod.fst)) ∧ (∀ p ∈ ps, DR G p.1 p.2) ∧ PySem.W.AllAlike (ps.map Prod.snd) ∧ PySem.W.Sortable (ps.map Prod.snd) ∧ (∀ p ∈ ps, p.2.depth ≤ 60) ∧
      ∀ p, G p = none → Q (.ref p) (gup G p (.lst ((ps.mergeSort (PySem.W.dataLe false Prod.snd)).map Prod.fst)))
  | _ => False
theorem c_sorted (hu : X.A.units + 64 < cLine) : CallD X (.builtin "sorted") dSorted := by
  rintro pins s σ H xs us Q I rs ⟨ds, G, P, vs, wg, h, k⟩
  match ds, vs, h with
  | [.ref a], .cons (.ref _) .nil, ⟨ps, ga, hr, hal, hso, hdp, h⟩ =>
    obtain ⟨ys, ha, rr⟩ := wg _ _ ga
    obtain ⟨its, rv, hl, hz⟩ := I.list (SqL.of ha)
    rw [Vals.ref1 rs]
    have hlen : ps.length ≤ sizeLine := by
      have := rr.len
      rw [List.length_map] at this
      omega
    have e := each_of (ps := ps) rr rv
    refine PySem.W.sorted_data (R := fun u b => ∃ x, VR X.K H x b.1 ∧ RelV x u) hl.isList e (each_fun e ?_) hal hso hlen ?_ ?_
    · rintro u b hb ⟨x, r, v⟩
      exact Dp.reads I b.2 x u ((hr b hb).dp wg r) v
    · intro b hb
      have := hdp b hb
      omega
    · intro out hout eo
      obtain ⟨zs, rz, vz⟩ := of_each eo
      have hn : H (s.heap.objs.size + 1) = none := I.hok.fresh (Nat.le_succ _)
      obtain ⟨n, hn2⟩ := PyProof.Rows.sortedAll_at s.heap its (List.toArray out)
      have hzl : zs.length ≤ sizeLine := by rw [vz.length, hout]; exact hlen
      have J : Inv X pins σ (upd H (s.heap.objs.size + 1) (.lst zs)) { s with heap := PyProof.Rows.sortedAll s.heap its (List.toArray out), toks := s.toks } :=
        I.laid (t' := s.toks) (fun b o e => PyProof.Rows.sortedAll_old e) (Nat.le_succ _) ⟨hzl, out, n, vz, hn2⟩
      refine ⟨.ref _, _, J, rfl, ?_⟩
      exact k _ _ _ _ (h _ (wg.non hn)) (wg.newL hn rz) (Ext.newC hn) (.ref _)
theorem perm_map_inv {α β : Type} (f : α → β) {l l' : List β} (h : l.Perm l') : ∀ {xs : List α}, l' = xs.map f → ∃ ys : List α, ys.Perm xs ∧ l = ys.map f := by
  induction h with
  | nil => intro xs e; exact ⟨[], by cases xs with | nil => exact .nil | cons => simp at e, rfl⟩
  | cons x _ ih =>
    intro xs e
    cases xs with
    | nil => simp at e
    | cons a xs =>
      rw [List.map_cons] at e
      cases e
      obtain ⟨ys, hp, rfl⟩ := ih rfl
      exact ⟨a :: ys, hp.cons a, rfl⟩
  | swap x y l =>
    intro xs e
    match xs, e with
    | a :: b :: xs, e =>
      rw [List.map_cons, List.map_cons] at e
      cases e
      exact ⟨b :: a :: xs, .swap a b xs, rfl⟩
  | trans _ _ ih1 ih2 =>
    intro xs e
    obtain ⟨ys, hp, rfl⟩ := ih2 e
    obtain ⟨zs, hq, rfl⟩ := ih1 rfl
    exact ⟨zs, hq.trans hp, rfl⟩
theorem x_sortedT {α : Type} {G : Gh} {Q : DV → Gh → Prop} {e : Addr} (enc : α → DV) (key : α → PyData) {xs : List α} (he : G e = some (.lst (xs.map enc))) (hp : ∀ a ∈ xs, DR G (enc a) (key a)) (hal : ∀ a ∈ xs, ∀ b ∈ xs, PySem.W.alike (key a) (key b) = true)
    (hso : PySem.W.Sortable (xs.map key)) (hd : ∀ a ∈ xs, (key a).depth ≤ 60) (q : ∀ (ys : List α) p G1, ys.Perm xs → ys.Pairwise (fun a b => PySem.W.dataLe false key a b = true) → G p = none → Sub G G1 → G1 p = some (.lst (ys.map enc)) → Q (.ref p) G1) : dSorted [.ref e] G Q := by
  refine ⟨xs.map fun a => (enc a, key a), by rw [he, List.map_map]; rfl, ?_, ?_, by rw [List.map_map]; exact hso, ?_, fun p np => ?_⟩
  · intro p h
    obtain ⟨a, ha, rfl⟩ := List.mem_map.mp h
    exact hp a ha
  · intro d h d' h'
    rw [List.map_map] at h h'
    obtain ⟨a, ha, rfl⟩ := List.mem_map.mp h
    obtain ⟨b, hb, rfl⟩ := List.mem_map.mp h'
    exact hal a ha b hb
  · intro p h
    obtain ⟨a, ha, rfl⟩ := List.mem_map.mp h
    exact hd a ha
  · have tot : PySem.W.TotalLe (PySem.W.dataLe false (Prod.snd : DV × PyData → PyData)) := PySem.W.sortLe_total _ false _
    have hs := List.pairwise_mergeSort (le := PySem.W.dataLe false (Prod.snd : DV × PyData → PyData)) tot.trans (fun a b => by rw [Bool.or_eq_true]; exact tot.total a b) (xs.map fun a => (enc a, key a))
    obtain ⟨ys, py, ey⟩ := perm_map_inv (fun a => (enc a, key a)) (List.mergeSort_perm (xs.map fun a => (enc a, key a)) (PySem.W.dataLe false Prod.snd)) rfl
    rw [ey] at hs ⊢
    rw [List.map_map]
    refine q ys p _ py ?_ np (Sub.new np) gup_same
    exact List.pairwise_map.mp hs
theorem sort_unique {α : Type} {le : α → α → Bool} (anti : ∀ a b, le a b = true → le b a = true → a = b) {l l' : List α} (p : l.Perm l') (h : l.Pairwise (fun a b => le a b = true)) (h' : l'.Pairwise (fun a b => le a b = true)) : l = l' :=
  List.Perm.eq_of_pairwise (fun a b _ _ => anti a b) h h' p
end
/-! ### tuple(range(n)) -/
section
variable {X : Cx} {W : WX} {e : Expr} {wa : DE} {pos p p2 : Pos} {G : Gh} {Q : DV → Gh → Prop} {Y : DX} {env : Dv}
def trK (Q : DV → Gh → Prop) (d : DV) (G : Gh) : Prop := match d with
  | .int n => (0 ≤ n ∧ n ≤ 1000000) ∧ Q (.tup (intsFrom 0 n.toNat)) G
  | _ => False
def wTupRg (wa : DE) : DE := fun Y env G Q => wa Y env G (trK Q)
theorem q_tupRg (hm : X.mg "tuple" = none) (hr : X.mg "range" = none) (hc : X.calm = true) (he : QE X W e wa) (hg : Gl X "tuple" := by rfl) (hgr : Gl X "range" := by rfl) (na : starEach [.Call (.Name "range" p2) [e] [] pos] X.env = (false, eval (.Call (.Name "range" p2) [e] [] pos) X.env) :: starEach [] X.env := by rfl)
    (na2 : starEach [e] X.env = (false, eval e X.env) :: starEach [] X.env := by rfl) {pos2 : Pos} : QE X W (.Call (.Name "tuple" p) [.Call (.Name "range" p2) [e] [] pos] [] pos2) (wTupRg wa) :=
  ⟨PE.wk (pe_tupRg hc hg hm (prg_1 hgr hr he.pe na2) na) fun σ H Q ⟨Y, env, G, P, er, wg, h, k, kx⟩ => ⟨Y, env, G, _, er, wg, h, fun d G1 v H1 h1 w1 x1 r => by
    cases d <;> first | exact h1.elim | skip
    cases r
    obtain ⟨hn, h1⟩ := h1
    exact ⟨_, rfl, RgOk.of_le (Int.le_refl 0) (by omega) (by decide) hn.1, fun q nq => k _ _ _ _ h1 (w1.new nq) (x1.trans (Ext.new nq)) (VR.newT w1 nq (rgV_ints _))⟩, kx⟩⟩
theorem s_tupRg {wa : DE} (q : wa Y env G (trK Q)) : wTupRg wa Y env G Q := q
theorem x_tr {n : Int} (h : 0 ≤ n ∧ n ≤ 1000000) (q : Q (.tup (intsFrom 0 n.toNat)) G) : trK Q (.int n) G := ⟨h, q⟩
end
/-! ### targets within targets -/
def LiveGs (gs : DGs) : Prop := ∀ ds env G (P : Dv → Gh → Prop), gs ds env G P → ∃ e g', P e g'
theorem liveGs_nil : LiveGs wgNil := fun ds env G P h => by
  cases ds with
  | nil => exact ⟨_, _, h⟩
  | cons => exact h.elim
theorem liveGs_cons {g : DG} {gs : DGs} (l : LiveG g) (l2 : LiveGs gs) : LiveGs (wgCons g gs) := fun ds env G P h => by
  cases ds with
  | nil => exact h.elim
  | cons d ds => obtain ⟨e, g', q⟩ := l _ _ _ _ h; exact l2 _ _ _ _ q
theorem liveG_tup {gs : DGs} (l : LiveGs gs) : LiveG (wgTup gs) := fun d env G P h => by
  cases d <;> first | exact h.elim | skip
  exact l _ _ _ _ h
/-! ### the module's own values -/
def ConstAt (K : PySem.W.Frag) (mg : Str → Option Value) (x : Str) (d : DV) : Prop := ∃ u v, mg x = some u ∧ RelV v u ∧ ∀ H, VR K H v d
section
variable {X : Cx} {W : WX} {x : Str} {d : DV} {pos : Pos} {K : PySem.W.Frag} {mg : Str → Option Value}
theorem q_cst (C : ConstAt X.K X.mg x d) (hg : Gl X x := by rfl) (hd : (x == ("__debug__" : Str)) = false := by decide) : QE X W (.Name x pos) (wC d) := by
  obtain ⟨u, v, hm, r, hv⟩ := C
  exact ⟨PE.wk (pe_glob hg hm r hd) fun σ H Q ⟨Y, env, G, P, er, wg, h, k, kx⟩ => k d G v H h wg Ext.refl (hv H)⟩
theorem ConstAt.int {i : Int} {t : Tok} (h : mg x = some (.int i t)) : ConstAt K mg x (.int i) := ⟨_, .int i, h, ⟨t, rfl⟩, fun H => .int i⟩
theorem ConstAt.str {z : Str} {t : Tok} (h : mg x = some (.str z t)) : ConstAt K mg x (.str z) := ⟨_, .str z, h, ⟨t, rfl⟩, fun H => .str z⟩
theorem ConstAt.tupS {a : Addr} {o : Obj} {its : Array Value} {n : Nat} (ss : List Str) (h : mg x = some (.ref a)) (l : K.lookup a = some o) (hc : o.cls = .type "tuple") (hd : o.data = .seq its n) (hz : its.size ≤ 1000) (hv : Vals (ss.map V.str) its.toList) (hn : o.dict = none := by rfl) : ConstAt K mg x (.kt (ss.map .str)) :=
  ⟨_, .ref a, h, rfl, fun H => .kt (.inr ⟨.inr ⟨o, its, n, l, hc, hd, by rw [sizeLine_eq]; omega, hv⟩, o, l, hc, hn⟩) (VRs.strs ss)⟩
end
theorem cut_mid {α : Type} {l : List α} {a b : Nat} : cutL l (some (a : Int)) (some (b : Int)) = (l.drop a).take (b - a) := by
  unfold cutL
  rw [HT.sIx_nat, HT.sIx_nat]
  rcases Nat.le_total a l.length with h1 | h1
  · rw [Nat.min_eq_left h1]
    rcases Nat.le_total b l.length with h2 | h2
    · rw [Nat.min_eq_left h2]
    · rw [Nat.min_eq_right h2, List.take_of_length_le (by rw [List.length_drop]; omega), List.take_of_length_le (by rw [List.length_drop]; omega)]
  · rw [Nat.min_eq_right h1, List.drop_length, List.drop_eq_nil_of_le h1]; simp
end DL

namespace RevT
open PySem PyProof.Rows HT
variable {prog : Program} {w : World} {A : Around} {E : Value → Shared → Prop} {s : Shared}
theorem fmc {α β : Type} {f g : α → Option β} : ∀ {l : List α}, (∀ x ∈ l, f x = g x) → l.filterMap f = l.filterMap g
  | [], _ => rfl
  | a :: l, h => by
    rw [List.filterMap_cons, List.filterMap_cons, h a (by simp), fmc fun x hx => h x (by simp [hx])]
theorem pick_rev (xs : Array Value) : (((List.range xs.size).filterMap fun (k : Nat) => xs[(((xs.size : Int) - 1) + (k : Int) * (-1)).toNat]?).toArray) = xs.toList.reverse.toArray := by
  congr 1
  have e : (List.range xs.size).filterMap (fun (k : Nat) => xs[(((xs.size : Int) - 1) + (k : Int) * (-1)).toNat]?) = ((List.range xs.size).map fun k => xs.size - 1 - k).filterMap (xs[·]?) := by
    rw [List.filterMap_map]
    refine fmc fun k hk => ?_
    have := List.mem_range.mp hk
    show _ = xs[xs.size - 1 - k]?
    congr 1
    omega
  rw [e, PySem.W.krv_range, List.filterMap_reverse, PySem.W.krv_all]
theorem places_rev (n : Nat) : Builtin.Slice.slicePlaces ((n : Int) - 1) (-1) (-1) = n := by
  unfold Builtin.Slice.slicePlaces
  have h1 : ¬ ((-1 : Int) > 0) := by omega
  simp only [h1, if_false]
  rw [show (- -1 : Int) = 1 by decide, Int.ediv_one]
  split <;> omega
theorem sliceApplied_rev {sl : Addr} {vl vu vs : Value} {n : Nat} {Q : Int × Int × Nat → Shared → Prop} (hs : s.heap.IsSliceOf sl vl vu vs) (pl : IsPart vl none) (pu : IsPart vu none) (ps : IsPart vs (some (-1)))
    (h : Q ((n : Int) - 1, -1, n) s) : wpAny (model prog w) A (Builtin.Slice.sliceApplied (.ref sl) (pure (n : Int))) Q E s := by
  obtain ⟨os, hos, hcs, hds⟩ := id hs
  unfold Builtin.Slice.sliceApplied Builtin.Slice.sliceFields
  refine wpAny_bind (wpAny_bind (wpAny_field hos hds (x := vl) rfl (wpAny_bind (wpAny_field hos hds (x := vu) rfl (wpAny_bind (wpAny_field hos hds (x := vs) rfl (wpAny_pure ?_)))))))
  refine wpAny_bind (slicePart_ ps ?_)
  show wpAny _ _ (if ((-1 : Int) == 0) = true then _ else _) _ _ s
  rw [if_neg (by decide)]
  refine wpAny_bind (slicePart_ pl (wpAny_bind (slicePart_ pu (wpAny_bind (wpAny_pure ?_)))))
  show wpAny _ _ (pure (((n : Int) - 1), (-1 : Int), Builtin.Slice.slicePlaces ((n : Int) - 1) (-1) (-1))) _ _ s
  rw [places_rev]
  exact wpAny_pure h
theorem getItem_tuple_rev {t sl : Addr} {items : Array Value} {vl vu vs : Value} {Q : Value → Shared → Prop} (ht : IsTup s.heap t items) (hs : s.heap.IsSliceOf sl vl vu vs) (pl : IsPart vl none) (pu : IsPart vu none) (ps : IsPart vs (some (-1)))
    (h : Q (.ref s.heap.objs.size) { s with heap := s.heap.push { cls := .type "tuple", data := .seq items.toList.reverse.toArray } })
    (hsz : items.size ≤ sizeLine) : wpAny (model prog w) A (getItem (.ref t) (.ref sl)) Q E s := by
  have htake : sizeOk (.seq items.toList.reverse.toArray) := by
    show items.toList.reverse.toArray.size ≤ sizeLine
    rw [List.size_toArray, List.length_reverse, Array.length_toList]
    exact hsz
  obtain ⟨os, hos, hcs, hds⟩ := id hs
  have hTs : s.TypeIs (.ref sl) "slice" := ⟨os, hos, hcs⟩
  unfold getItem
  try with_reducible refine wpAny_holding ?_
  first | refine wpAny_bind (wpAny_pure ?_) | skip
  refine wpAny_bind (wpAny_sequenceKey ht.typeIs (by decide) ?_)
  refine wpAny_bind (wpAny_callSpecial?_slot (name := Str.ofString "__getitem__") ht.typeIs PyProof.Rows.slot_tuple_getitem
    (wpAny_call_entry PyProof.Rows.slot_tuple_getitem ht.typeIs entry_tuple_getitem ?_ (args_tuple_getitem _ _)))
  show wpAny _ _ (Builtin.Tuple.tupleItemsOf (.ref t) >>= _) _ _ s
  refine wpAny_bind (tupleItemsOf_ ht ?_)
  refine wpAny_bind (wpAny_typeOf hTs ?_)
  rw [if_pos (by decide)]
  refine wpAny_bind (sliceApplied_rev hs pl pu ps ?_)
  have hno : ¬ ((((items.size : Int) - 1) == 0 && (-1 : Int) == 1 && items.size == items.size) = true) := by
    intro q
    rw [Bool.and_eq_true, Bool.and_eq_true] at q
    exact absurd q.1.2 (by decide)
  show wpAny _ _ (if (((items.size : Int) - 1) == 0 && (-1 : Int) == 1 && items.size == items.size) = true then _ else _) _ _ s
  rw [if_neg hno, pick_rev]
  first
    | exact wpAny_bind (m := Builtin.Tuple.tupleExact _) (wpAny_newObj_type (wpAny_pure ⟨_, rfl, wpAny_pure h⟩) htake)
    | exact wpAny_bind (m := Builtin.Tuple.tupleExact _) (wpAny_newObj_type (wpAny_bind (wpAny_pure (wpAny_pure ⟨_, rfl, wpAny_pure h⟩))) htake)
    | exact wpAny_bind (wpAny_bind (m := Builtin.Tuple.tupleExact _) (wpAny_newObj_type (wpAny_pure (wpAny_pure ⟨_, rfl, wpAny_pure h⟩)) htake))
    | exact wpAny_bind (wpAny_bind (m := Builtin.Tuple.tupleExact _) (wpAny_newObj_type (wpAny_pure ⟨_, rfl, wpAny_pure h⟩) htake))
end RevT
namespace L2
open PySem PySem.Spec PyProof.Rows
section
variable {X : Cx}
/-- xs[::-1] of a list or a tuple -/
def tRevA (K : PySem.W.Frag) (te : TE) : TE := fun σ H Q => te σ H fun x H1 => (∃ a xs, x = .ref a ∧ SqL K H1 a xs ∧ ∀ p, H1 p = none → Q (.ref p) (upd H1 p (.lst xs.reverse))) ∨ (∃ a xs, x = .ref a ∧ SqT K H1 a xs ∧ ∀ p, H1 p = none → Q (.ref p) (upd H1 p (.tup xs.reverse)))
theorem pe_revA {e : Expr} {te : TE} {k : Nat} {p1 p2 p3 pos : Pos} (he : PE X e te) : PE X (.Subscript e (.Slice none none (some (.UnaryOp .USub (.Constant (.int 1) k p1) p2)) p3) pos) (tRevA X.K te) := by
  refine ⟨fun pins s σ H Q I h => ?_⟩
  refine Subscript_ (thn (he.run pins s σ H _ I h) fun v s1 ⟨x, H1, I1, r1, q1⟩ => ?_)
  have hst : PO X (some (.UnaryOp .USub (.Constant (.int 1) k p1) p2)) (tPart (tUn (rU fun i => .int (-i)) (tC (.int 1)))) := po_some (pe_un un_neg pe_int)
  refine wpAny_Slice (thn (po_none.run pins s1 σ H1 (fun o H2 => o = none ∧ H2 = H1) I1 ⟨rfl, rfl⟩) fun vl s2 ⟨l, H2, I2, pl, el, e2⟩ => ?_)
  subst el e2
  refine thn (po_none.run pins s2 σ H2 (fun o H3 => o = none ∧ H3 = H2) I2 ⟨rfl, rfl⟩) fun vu s3 ⟨u, H3, I3, pu, eu, e3⟩ => ?_
  subst eu e3
  refine thn (hst.run pins s3 σ H3 (fun o H4 => o = some (-1) ∧ H4 = H3) I3 ⟨1, rfl, -1, rfl, rfl, rfl⟩) fun vs s4 ⟨o, H4, I4, ps, eo, e4⟩ => ?_
  subst eo e4
  have I5 : Inv X pins σ H4 { s4 with heap := s4.heap.push { cls := .type "slice", data := .fields #[vl, vu, vs] } } := I4.kept (t' := s4.toks) fun b ob q => Heap.get?_push_of_some _ q
  rcases q1 with ⟨a, xs, ex, hx, q⟩ | ⟨a, xs, ex, hx, q⟩
  · subst ex
    cases r1
    obtain ⟨its, r, ht, hz⟩ := I5.list hx
    have hlen := r.length
    show wpAny (model X.prog X.w) X.A (subscriptTail e (.Slice none none (some (.UnaryOp .USub (.Constant (.int 1) k p1) p2)) p3) (.ref a) (.ref s4.heap.objs.size)) (EP X pins σ Q) X.xe { s4 with heap := s4.heap.push { cls := .type "slice", data := .fields #[vl, vu, vs] } }
    refine tail_any (ops := [.ref a, .ref s4.heap.objs.size]) ht.isList.typeIs (PySem.slot_list_getitem.lookup) ?_ (by with_unfolding_all rfl)
    refine wpAny_getItem_list_slice ht.isList (Heap.IsSliceOf.new _ vl vu vs) pl pu ps (by decide) ?_ (by rw [List.size_toArray]; omega)
    rw [PySem.W.krv_pick]
    refine ⟨.ref _, _, I5.laid (t' := s4.toks) (o := .lst xs.reverse) (fun b ob q => Heap.get?_push_of_some _ q) (Nat.le_refl _) ?_, rfl, q _ (I5.hok.fresh (Nat.le_refl _))⟩
    exact ⟨by rw [List.length_reverse]; exact hz, _, 0, r.reverse, Heap.get?_push_size _ rfl⟩
  · subst ex
    cases r1
    obtain ⟨its, r, ht, hz⟩ := I5.tuple hx
    have hlen := r.length
    show wpAny (model X.prog X.w) X.A (subscriptTail e (.Slice none none (some (.UnaryOp .USub (.Constant (.int 1) k p1) p2)) p3) (.ref a) (.ref s4.heap.objs.size)) (EP X pins σ Q) X.xe { s4 with heap := s4.heap.push { cls := .type "slice", data := .fields #[vl, vu, vs] } }
    refine tail_any (ops := [.ref a, .ref s4.heap.objs.size]) ht.typeIs (PyProof.Rows.slot_tuple_getitem.lookup) ?_ (by with_unfolding_all rfl)
    refine RevT.getItem_tuple_rev ht (Heap.IsSliceOf.new _ vl vu vs) pl pu ps ?_ (by rw [List.size_toArray]; omega)
    refine ⟨.ref _, _, I5.laid (t' := s4.toks) (o := .tup xs.reverse) (fun b ob q => Heap.get?_push_of_some _ q) (Nat.le_refl _) ?_, rfl, q _ (I5.hok.fresh (Nat.le_refl _))⟩
    exact ⟨by rw [List.length_reverse]; exact hz, _, r.reverse, IsTup.new _ _⟩
/-- xs == [] -/
theorem op_eqNil (hu : X.A.units + 64 < cLine) : OpR X (compareOp .Eq) (fun x y H Q => ∃ a b xs, x = .ref a ∧ y = .ref b ∧ SqL X.K H a xs ∧ SqL X.K H b [] ∧ Q (.bl xs.isEmpty) H) := by
  intro pins s σ H x y v u Q I rx ry h
  obtain ⟨a, b, xs, rfl, rfl, ha, hb, q⟩ := h
  cases rx
  cases ry
  obtain ⟨its, r1, p1, _⟩ := I.list ha
  obtain ⟨its2, r2, p2, _⟩ := I.list hb
  cases r2
  cases r1 with
  | nil =>
    have := SeqAt.RcAt.lists (A := X.A) (s := s) (e := fun _ => true) p1.isList p2.isList rfl (by omega) (fun j h => absurd h (by simp))
    exact this X.prog X.w X.xe _ ⟨.bl _, H, I, rfl, q⟩
  | cons r t =>
    have := SeqAt.RcAt.lists_lengths (A := X.A) (s := s) p1.isList p2.isList (by simp) (by omega)
    exact this X.prog X.w X.xe _ ⟨.bl _, H, I, rfl, q⟩
theorem op_neNil (hu : X.A.units + 64 < cLine) : OpR X (compareOp .NotEq) (fun x y H Q => ∃ a b xs, x = .ref a ∧ y = .ref b ∧ SqL X.K H a xs ∧ SqL X.K H b [] ∧ Q (.bl (!xs.isEmpty)) H) := by
  intro pins s σ H x y v u Q I rx ry h
  obtain ⟨a, b, xs, rfl, rfl, ha, hb, q⟩ := h
  cases rx
  cases ry
  obtain ⟨its, r1, p1, _⟩ := I.list ha
  obtain ⟨its2, r2, p2, _⟩ := I.list hb
  cases r2
  cases r1 with
  | nil =>
    have := SeqAt.RcNeAt.lists (A := X.A) (s := s) (e := fun _ => true) p1.isList p2.isList rfl (by omega) (fun j h => absurd h (by simp))
    exact this X.prog X.w X.xe _ ⟨.bl _, H, I, rfl, q⟩
  | cons r t =>
    have := SeqAt.RcNeAt.lists_lengths (A := X.A) (s := s) p1.isList p2.isList (by simp) (by omega)
    exact this X.prog X.w X.xe _ ⟨.bl _, H, I, rfl, q⟩
end
end L2
namespace DL
open PySem PySem.Spec L2
open PyProof.Rows hiding St
section
variable {X : Cx} {W : WX} {e : Expr} {wa : DE}
def dEqNil (neg : Bool) : D2 := fun x y G Q => match x, y with
  | .ref a, .ref b => ∃ l, G a = some (.lst l) ∧ G b = some (.lst []) ∧ Q (.bl (neg ^^ l.isEmpty)) G
  | .ro l, .ref b => G b = some (.lst []) ∧ Q (.bl (neg ^^ l.isEmpty)) G
  | _, _ => False
theorem VRs.isE {K : PySem.W.Frag} {H : Hp} {vs : List V} {ds : List DV} (r : VRs K H vs ds) : vs.isEmpty = ds.isEmpty := by cases r <;> rfl
theorem nil_sq {K : PySem.W.Frag} {G : Gh} {H : Hp} {b : Addr} (wg : WG K G H) (h : G b = some (.lst [])) : SqL K H b [] := by
  obtain ⟨xs, e, r⟩ := wg _ _ h
  cases r
  exact SqL.of e
theorem o_eqNil (hu : X.A.units + 64 < cLine) : OpD X (compareOp .Eq) (dEqNil false) := by
  rintro pins s σ H x y v u Q I rx ry ⟨dx, dy, G, P, vx, vy, wg, h, k⟩
  match dx, dy, vx, vy, h with
  | .ref a, .ref b, .ref _, .ref _, ⟨l, ga, gb, h⟩ =>
    obtain ⟨xs, ha, rs⟩ := wg _ _ ga
    exact op_eqNil hu pins s σ H _ _ v u Q I rx ry ⟨a, b, xs, rfl, rfl, SqL.of ha, nil_sq wg gb, op_end wg k h (by rw [rs.isE, Bool.false_xor]; exact .bl _)⟩
  | .ro l, .ref b, .ro sq rs, .ref _, ⟨gb, h⟩ =>
    exact op_eqNil hu pins s σ H _ _ v u Q I rx ry ⟨_, b, _, rfl, rfl, sq.sq, nil_sq wg gb, op_end wg k h (by rw [rs.isE, Bool.false_xor]; exact .bl _)⟩
theorem o_neNil (hu : X.A.units + 64 < cLine) : OpD X (compareOp .NotEq) (dEqNil true) := by
  rintro pins s σ H x y v u Q I rx ry ⟨dx, dy, G, P, vx, vy, wg, h, k⟩
  match dx, dy, vx, vy, h with
  | .ref a, .ref b, .ref _, .ref _, ⟨l, ga, gb, h⟩ =>
    obtain ⟨xs, ha, rs⟩ := wg _ _ ga
    exact op_neNil hu pins s σ H _ _ v u Q I rx ry ⟨a, b, xs, rfl, rfl, SqL.of ha, nil_sq wg gb, op_end wg k h (by rw [rs.isE, Bool.true_xor]; exact .bl _)⟩
  | .ro l, .ref b, .ro sq rs, .ref _, ⟨gb, h⟩ =>
    exact op_neNil hu pins s σ H _ _ v u Q I rx ry ⟨_, b, _, rfl, rfl, sq.sq, nil_sq wg gb, op_end wg k h (by rw [rs.isE, Bool.true_xor]; exact .bl _)⟩
theorem s_eqNil {a b : Addr} {G : Gh} {Q : DV → Gh → Prop} {l : List DV} (ha : G a = some (.lst l)) (hb : G b = some (.lst [])) (q : Q (.bl l.isEmpty) G) : dEqNil false (.ref a) (.ref b) G Q := ⟨l, ha, hb, by rw [Bool.false_xor]; exact q⟩
theorem s_neNil {a b : Addr} {G : Gh} {Q : DV → Gh → Prop} {l : List DV} (ha : G a = some (.lst l)) (hb : G b = some (.lst [])) (q : Q (.bl (!l.isEmpty)) G) : dEqNil true (.ref a) (.ref b) G Q := ⟨l, ha, hb, by rw [Bool.true_xor]; exact q⟩
theorem s_eqNilR {b : Addr} {G : Gh} {Q : DV → Gh → Prop} {l : List DV} (hb : G b = some (.lst [])) (q : Q (.bl l.isEmpty) G) : dEqNil false (.ro l) (.ref b) G Q := ⟨hb, by rw [Bool.false_xor]; exact q⟩
theorem s_neNilR {b : Addr} {G : Gh} {Q : DV → Gh → Prop} {l : List DV} (hb : G b = some (.lst [])) (q : Q (.bl (!l.isEmpty)) G) : dEqNil true (.ro l) (.ref b) G Q := ⟨hb, by rw [Bool.true_xor]; exact q⟩
/-! ### xs[::-1] -/
def revK (Q : DV → Gh → Prop) (d : DV) (G : Gh) : Prop := match d with
  | .tup l => Q (.tup l.reverse) G
  | .ref a => ∃ l, G a = some (.lst l) ∧ ∀ p, G p = none → Q (.ref p) (gup G p (.lst l.reverse))
  | .ro l => ∀ p, G p = none → Q (.ref p) (gup G p (.lst l.reverse))
  | _ => False
def wRev (wa : DE) : DE := fun Y env G Q => wa Y env G (revK Q)
theorem q_rev {k : Nat} {p1 p2 p3 pos : Pos} (he : QE X W e wa) : QE X W (.Subscript e (.Slice none none (some (.UnaryOp .USub (.Constant (.int 1) k p1) p2)) p3) pos) (wRev wa) :=
  ⟨PE.wk (pe_revA he.pe) fun σ H Q ⟨Y, env, G, P, er, wg, h, k, kx⟩ => ⟨Y, env, G, _, er, wg, h, fun d G1 v H1 h1 w1 x1 r => by
    cases r <;> first | exact h1.elim | skip
    · obtain ⟨l, ga, h1⟩ := h1
      obtain ⟨xs, ha, rs⟩ := w1 _ _ ga
      exact .inl ⟨_, xs, rfl, SqL.of ha, fun p np => k _ _ _ _ (h1 p (w1.non np)) (w1.newL np rs.rev) (x1.trans (Ext.newC np)) (.ref p)⟩
    · rename_i sq rs
      exact .inr ⟨_, _, rfl, (SqT.of sq), fun p np => k _ _ _ _ h1 (w1.new np) (x1.trans (Ext.new np)) (VR.newT w1 np rs.rev)⟩
    · rename_i sq rs
      exact .inl ⟨_, _, rfl, sq.sq, fun p np => k _ _ _ _ (h1 p (w1.non np)) (w1.newL np rs.rev) (x1.trans (Ext.newC np)) (.ref p)⟩, kx⟩⟩
variable {Y : DX} {env : Dv} {G : Gh} {Q : DV → Gh → Prop} {l : List DV}
theorem s_rev (q : wa Y env G (revK Q)) : wRev wa Y env G Q := q
theorem s_revT (q : Q (.tup l.reverse) G) : revK Q (.tup l) G := q
theorem x_revL {a : Addr} (he : G a = some (.lst l)) (q : ∀ p G1, G p = none → Sub G G1 → G1 p = some (.lst l.reverse) → Q (.ref p) G1) : revK Q (.ref a) G := ⟨l, he, x_new q⟩
end
end DL

namespace DL
open PySem PySem.Spec L2
open PyProof.Rows hiding St
/-! ### is of truths -/
section
variable {X : Cx}
def dIsBl (neg : Bool) : D2 := fun x y G Q => match x, y with
  | .bl a, .bl b => Q (.bl (neg ^^ decide (a = b))) G
  | _, _ => False
theorem o_isBl : OpD X (compareOp .Is) (dIsBl false) := by
  rintro pins s σ H x y v u Q I rx ry ⟨dx, dy, G, P, vx, vy, wg, h, k⟩
  match dx, dy, vx, vy, h with
  | .bl a, .bl b, .bl _, .bl _, h => exact op_is_bl pins s σ H _ _ v u Q I rx ry ⟨a, b, rfl, rfl, op_end wg k h (by rw [Bool.false_xor]; exact .bl _)⟩
theorem o_isntBl : OpD X (compareOp .IsNot) (dIsBl true) := by
  rintro pins s σ H x y v u Q I rx ry ⟨dx, dy, G, P, vx, vy, wg, h, k⟩
  match dx, dy, vx, vy, h with
  | .bl a, .bl b, .bl _, .bl _, h => exact op_isnot_bl pins s σ H _ _ v u Q I rx ry ⟨a, b, rfl, rfl, op_end wg k h (by rw [Bool.true_xor]; exact .bl _)⟩
variable {G : Gh} {Q : DV → Gh → Prop}
theorem s_isBl {a b : Bool} (q : Q (.bl (decide (a = b))) G) : dIsBl false (.bl a) (.bl b) G Q := by show Q (.bl (false ^^ _)) G; rw [Bool.false_xor]; exact q
theorem s_isntBl {a b : Bool} (q : Q (.bl (!decide (a = b))) G) : dIsBl true (.bl a) (.bl b) G Q := by show Q (.bl (true ^^ _)) G; rw [Bool.true_xor]; exact q
theorem s_isiD {e : Addr} {l : List (Key × DV)} {c : String} (he : G e = some (.dic l)) (hc : c ∈ ["int", "bool", "str", "tuple", "list", "dict"]) (q : Q (.bl (isaB "dict" c)) G) : dIsi [.ref e, .ty c] G Q := by
  refine ⟨hc, ?_⟩
  show (match G e with | some (.lst _) => Q (.bl (isaB "list" c)) G | some (.dic _) => Q (.bl (isaB "dict" c)) G | some (.dt _) => _ | _ => False)
  rw [he]; exact q
end
/-! ### things of any kind -/
/-- a thing: a tree of tuples over numbers, truths, texts, None, lists and dicts that stand, none of them at t -/
inductive Tm (t : Addr) (G : Gh) : DV → Prop
  | non : Tm t G .non
  | bl (b : Bool) : Tm t G (.bl b)
  | int (i : Int) (h : i.natAbs < 2 ^ 1000) : Tm t G (.int i)
  | str (z : Str) : Tm t G (.str z)
  | tup {l : List DV} (h : ∀ d ∈ l, Tm t G d) (hl : l.length ≤ 1000) : Tm t G (.tup l)
  | lst {a : Addr} {l : List DV} (h : G a = some (.lst l)) (n : a ≠ t) : Tm t G (.ref a)
  | dic {a : Addr} {l : List (Key × DV)} (h : G a = some (.dic l)) (n : a ≠ t) : Tm t G (.ref a)
theorem Tm.old {t : Addr} {G G' : Gh} (k : Old t G G') : ∀ {d : DV}, Tm t G d → Tm t G' d := by
  intro d h
  induction h with
  | non => exact .non
  | bl b => exact .bl b
  | int i h => exact .int i h
  | str z => exact .str z
  | tup _ hl ih => exact .tup ih hl
  | lst h n => exact .lst (k _ _ n h) n
  | dic h n => exact .dic (k _ _ n h) n
theorem Tm.i {t : Addr} {G : Gh} {x : Int} (h : x.natAbs ≤ 1000000000) : Tm t G (.int x) := .int x (Nat.lt_of_le_of_lt h (by decide))
theorem Tm.items {t : Addr} {G : Gh} {l : List DV} (h : Tm t G (.tup l)) : (∀ d ∈ l, Tm t G d) ∧ l.length ≤ 1000 := by
  cases h with
  | tup h hl => exact ⟨h, hl⟩
theorem Tm.sub {t : Addr} {G G' : Gh} (k : Sub G G') {d : DV} (h : Tm t G d) : Tm t G' d := h.old k.old
/-- is it of that kind (int, bool, str, tuple) -/
def DV.isa (d : DV) (c : String) : Bool := match d with
  | .non => isaB "NoneType" c | .bl _ => isaB "bool" c | .int _ => isaB "int" c | .str _ => isaB "str" c | .tup _ => isaB "tuple" c | .ro _ => isaB "list" c | _ => false
theorem s_isiTm {t : Addr} {G : Gh} {Q : DV → Gh → Prop} {d : DV} {c : String} (h : Tm t G d) (hc : c ∈ ["int", "bool", "str", "tuple"]) (q : Q (.bl (d.isa c)) G) : dIsi [d, .ty c] G Q := by
  have hc' : c ∈ ["int", "bool", "str", "tuple", "list", "dict"] := by
    simp only [List.mem_cons, List.not_mem_nil, or_false] at hc ⊢
    rcases hc with h | h | h | h <;> simp [h]
  cases h with
  | non => exact ⟨hc', q⟩
  | bl b => exact ⟨hc', q⟩
  | int i _ => exact ⟨hc', q⟩
  | str z => exact ⟨hc', q⟩
  | tup _ => exact ⟨hc', q⟩
  | lst h n =>
    refine s_isiL h hc' ?_
    have e : isaB "list" c = false := by
      simp only [List.mem_cons, List.not_mem_nil, or_false] at hc
      rcases hc with rfl | rfl | rfl | rfl <;> decide
    rw [e]; exact q
  | dic h n =>
    refine s_isiD h hc' ?_
    have e : isaB "dict" c = false := by
      simp only [List.mem_cons, List.not_mem_nil, or_false] at hc
      rcases hc with rfl | rfl | rfl | rfl <;> decide
    rw [e]; exact q
/-- a whole number from lo to hi -/
def wholeB (d : DV) (lo hi : Int) : Bool := match d with
  | .int i => decide (lo ≤ i) && decide (i ≤ hi)
  | _ => false
theorem at_0 {x : DV} {r : List DV} : L2.atI (x :: r) 0 = some x := L2.atI_nat (j := 0) rfl
theorem at_1 {x y : DV} {r : List DV} : L2.atI (x :: y :: r) 1 = some y := L2.atI_nat (j := 1) rfl
theorem at_2 {x y z : DV} {r : List DV} : L2.atI (x :: y :: z :: r) 2 = some z := L2.atI_nat (j := 2) rfl
theorem log2_small {x : Int} (h : x.natAbs < 2 ^ 600) : x.natAbs.log2 < 1920 := by
  by_cases hz : x.natAbs = 0
  · rw [hz]; decide
  · exact (Nat.log2_lt hz).mpr (Nat.lt_of_lt_of_le h (Nat.pow_le_pow_right (by decide) (by decide)))
end DL
/-! ### d.update(e) -/
namespace L2
open PySem PySem.Spec PyProof.Rows
theorem mt_dupdate {X : Cx} : MtR X "dict.update" (fun x xs H Q => ∃ (a b : Addr) (kvs more : List (Key × V)), x = .ref a ∧ xs = [.ref b] ∧ H a = some (.dK kvs) ∧ H b = some (.dK more) ∧ a ≠ b ∧ kvs.length + more.length ≤ sizeLine ∧ Q .non (upd H a (.dK (mergeK kvs more)))) := by
  intro pins s σ H x xs v us Q I rx rs h
  obtain ⟨a, b, kvs, more, rfl, rfl, ea, eb, hne, hz, q⟩ := h
  cases rx
  rw [Vals.ref1 rs]
  obtain ⟨z, hd, vs, rel, dd⟩ := dk_of I.hok ea
  obtain ⟨z2, hd2, vs2, rel2, dd2⟩ := dk_of I.hok eb
  refine call_meetsIn PySem.F.slot_dict_update dd.typeIs PySem.F.entry_dict_update (PySem.F.args_dict_update_2 _ _) (meets_dict_update (mixKind X.prog X.w) a b hne hd2)
    ⟨vs, vs2, dd, dd2, by rw [← rel.length, ← rel2.length]; exact hz, fun h' dd' _ hs => ⟨.non, _, ?_, rfl, q⟩⟩
  have he : ∃ q, h'.get? a = some q := let ⟨q, _, _, hq, _⟩ := dd'; ⟨q, hq⟩
  exact d_write (t' := s.toks) I (by rw [ea]; exact True.intro) hs he (dk_new (Nat.le_trans (length_mergeK more kvs) hz) hd (rel2.merge rel) dd')
end L2
namespace DL
open PySem PySem.Spec L2
open PyProof.Rows hiding St
def dDupdate : DM := fun x ds G Q => match x, ds with
  | .ref a, [.ref b] => ∃ kvs more, G a = some (.dic kvs) ∧ G b = some (.dic more) ∧ a ≠ b ∧ kvs.length + more.length ≤ sizeLine ∧ Q .non (gup G a (.dic (mergeD kvs more)))
  | _, _ => False
theorem m_dupdate {X : Cx} : MtD X "dict.update" dDupdate := by
  rintro pins s σ H x xs v us Q I rx rs ⟨dx, ds, G, P, vx, vs, wg, h, k⟩
  match dx, ds, vx, vs, h with
  | .ref a, [.ref b], .ref _, .cons (.ref _) .nil, ⟨kvs, more, ga, gb, hne, hz, h⟩ =>
    obtain ⟨ys, ha, ra⟩ := wg _ _ ga
    obtain ⟨zs, hb, rb⟩ := wg _ _ gb
    have p : Put G H a := .inr ⟨_, ga⟩
    refine mt_dupdate pins s σ H _ _ v us Q I rx rs ⟨a, b, ys, zs, rfl, rfl, ha, hb, hne, by rw [ra.len, rb.len]; exact hz, k _ _ _ _ h (wg.put p ⟨_, upd_same, (rb.merge ra).ext wg (p.ext (c := .dic (mergeD kvs more)))⟩) (Ext.setC ga) .non⟩
theorem x_dupdate {a b : Addr} {G : Gh} {Q : DV → Gh → Prop} {kvs more : List (Key × DV)} (ha : G a = some (.dic kvs)) (hb : G b = some (.dic more)) (hne : a ≠ b) (hz : kvs.length + more.length ≤ sizeLine) (q : ∀ G1, Old a G G1 → G1 a = some (.dic (mergeD kvs more)) → Q .non G1) : dDupdate (.ref a) [.ref b] G Q :=
  ⟨kvs, more, ha, hb, hne, hz, q _ Old.set gup_same⟩
end DL

namespace DL
open PySem PySem.Spec L2
open PyProof.Rows hiding St
/-! ### a statement that is never reached -/
def wNever : DS := fun _ _ _ => False
theorem qs_never {X : Cx} {W : WX} {st : Stmt} : QS X W st wNever := ⟨PS.wk ps_never fun _ _ _ ⟨_, _, _, _, _, h, _⟩ => h.elim⟩
/-! ### zip of three -/
def Itz3 (K : PySem.W.Frag) (t1 t2 t3 : Bool) (a b d : Addr) : It :=
  ⟨fun i H => ∃ (xs ys zs : List V) (x y z : V), SqB K H t1 a xs ∧ SqB K H t2 b ys ∧ SqB K H t3 d zs ∧ xs[i]? = some x ∧ ys[i]? = some y ∧ zs[i]? = some z,
    fun i H v H' => ∃ T x y z, v = .ref T ∧ H T = none ∧ H' = upd H T (.tup [x, y, z]) ∧ (∀ xs, SqB K H t1 a xs → xs[i]? = some x) ∧ (∀ ys, SqB K H t2 b ys → ys[i]? = some y) ∧ ∀ zs, SqB K H t3 d zs → zs[i]? = some z,
    fun i H => ∃ xs ys zs : List V, SqB K H t1 a xs ∧ SqB K H t2 b ys ∧ SqB K H t3 d zs ∧ min (min xs.length ys.length) zs.length = i⟩
theorem turn_z3 {P : Program} {w : World} {K : PySem.W.Frag} {elts : List Expr} {kk : Nat} {tpos : Pos} {t1 t2 t3 : Bool} {a b d : Addr} {N : Nat} (la : a < N) (lb : b < N) (ld : d < N) :
    Turn P w K (.Tuple elts kk tpos) (Itz3 K t1 t2 t3 a b d) [N + 5, N + 3, N + 4, N, N + 1, N + 2] (N + 5)
      (fun i h => IsZip h (N + 5) (N + 3) (N + 4) .none ∧ IsTupOf3 h (N + 3) (.ref N) (.ref (N + 1)) (.ref (N + 2)) ∧ (∃ x y z, IsTupOf3 h (N + 4) x y z) ∧ ItB h t1 N a i ∧ ItB h t2 (N + 1) b i ∧ ItB h t3 (N + 2) d i) where
  mem := by simp
  obj := fun i h st c hc => by
    obtain ⟨hz, hTI, ⟨x, y, z, hTO⟩, h1, h2, h3⟩ := st
    have e' : c = N + 5 ∨ c = N + 3 ∨ c = N + 4 ∨ c = N ∨ c = N + 1 ∨ c = N + 2 := by simpa using hc
    rcases e' with q | q | q | q | q | q
    · rw [q]; exact ⟨_, hz, fun v q => nomatch q⟩
    · rw [q]; exact ⟨_, hTI, fun v q => nomatch q⟩
    · rw [q]; exact ⟨_, hTO, fun v q => nomatch q⟩
    · rw [q]; exact h1.obj
    · rw [q]; exact h2.obj
    · rw [q]; exact h3.obj
  keep := fun i h h' st k => by
    obtain ⟨hz, hTI, ⟨x, y, z, hTO⟩, h1, h2, h3⟩ := st
    exact ⟨k _ (by simp) _ hz, k _ (by simp) _ hTI, ⟨x, y, z, k _ (by simp) _ hTO⟩, h1.at fun o q => k N (by simp) o q, h2.at fun o q => k (N + 1) (by simp) o q, h3.at fun o q => k (N + 2) (by simp) o q⟩
  item := by
    intro X hP hw hK hc i pins s σ H E I hf st hg
    subst hP hw hK
    obtain ⟨hz, hTI, hTO, h1, h2, h3⟩ := st
    obtain ⟨xs, ys, zs, x, y, z, hqx, hqy, hqz, hx, hy, hzz⟩ := hg
    obtain ⟨its, rv, p, _, _⟩ := srcB I hqx
    obtain ⟨its2, rv2, p2, _, _⟩ := srcB I hqy
    obtain ⟨its3, rv3, p3, _, _⟩ := srcB I hqz
    obtain ⟨u, hu, ru⟩ := rv.get hx
    obtain ⟨u2, hu2, ru2⟩ := rv2.get hy
    obtain ⟨u3, hu3, ru3⟩ := rv3.get hzz
    have S : ZipSep3 (N + 5) (N + 3) (N + 4) N (N + 1) (N + 2) [N, a] [N + 1, b] [N + 2, d] := zip_sep3 (N := N) (fp1 := [a]) (fp2 := [b]) (fp3 := [d]) (by simpa using la) (by simpa using lb) (by simpa using ld)
    have D1 := drawsB (prog := X.prog) (w := X.w) (A := X.A.in1) (I.ok.hd hc) t1 N a (Nat.ne_of_lt la) its.toArray
    have D2 := drawsB (prog := X.prog) (w := X.w) (A := X.A.in1) (I.ok.hd hc) t2 (N + 1) b (Nat.ne_of_lt (Nat.lt_succ_of_lt lb)) its2.toArray
    have D3 := drawsB (prog := X.prog) (w := X.w) (A := X.A.in1) (I.ok.hd hc) t3 (N + 2) d (Nat.ne_of_lt (Nat.lt_succ_of_lt (Nat.lt_succ_of_lt ld))) its3.toArray
    have l1 : i < its.toArray.size := (List.getElem?_eq_some_iff.mp hu).1
    have l2 : i < its2.toArray.size := (List.getElem?_eq_some_iff.mp hu2).1
    have l3 : i < its3.toArray.size := (List.getElem?_eq_some_iff.mp hu3).1
    refine thn (wt_item (elts := elts) (k := kk) (pos := tpos) (xs := [x, y, z]) (WalksT.zipD3 S D1 D2 D3) I (fun c hcm => hf c ?_) (Nat.lt_min.mpr ⟨Nat.lt_min.mpr ⟨l1, l2⟩, l3⟩) ⟨hz, hTI, hTO, ⟨h1, p⟩, ⟨h2, p2⟩, ⟨h3, p3⟩⟩ (fun vals hv => ?_) (by show 3 ≤ sizeLine; decide)) ?_
    · have e' : c = N + 5 ∨ c = N + 4 ∨ c = N ∨ c = N + 1 ∨ c = N + 2 := by simpa using hcm
      rcases e' with q | q | q | q | q <;> rw [q] <;> simp
    · obtain ⟨x1, x2, x3, e1, e2, e3, rfl⟩ := hv
      have q1 : x1 = u := by
        have z : its[i]? = some x1 := by simpa using e1
        rw [hu] at z; exact (Option.some.inj z).symm
      have q2 : x2 = u2 := by
        have z : its2[i]? = some x2 := by simpa using e2
        rw [hu2] at z; exact (Option.some.inj z).symm
      have q3 : x3 = u3 := by
        have z : its3[i]? = some x3 := by simpa using e3
        rw [hu3] at z; exact (Option.some.inj z).symm
      subst q1 q2 q3
      exact .cons ru (.cons ru2 (.cons ru3 .nil))
    · rintro r s1 ⟨v, hr, hgo⟩
      refine ⟨v, hr, thn hgo ?_⟩
      rintro _ s2 ⟨T, I2, rfl, hT, st2⟩
      have nT : H T = none := I.hok.fresh hT
      refine ⟨.ref T, _, I2, rfl, ⟨T, x, y, z, rfl, nT, rfl, fun l hl => by rw [SqB.inj I hl hqx]; exact hx, fun l hl => by rw [SqB.inj I hl hqy]; exact hy, fun l hl => by rw [SqB.inj I hl hqz]; exact hzz⟩, ?_, fun c hcm => ?_⟩
      · obtain ⟨z1, z2, z3, z4, z5, z6⟩ := st2
        exact ⟨z1, z2, z3, z4.1, z5.1, z6.1⟩
      · have hlt : c < s.heap.objs.size := by
          have e' : c = N + 5 ∨ c = N + 3 ∨ c = N + 4 ∨ c = N ∨ c = N + 1 ∨ c = N + 2 := by simpa using hcm
          obtain ⟨_, _, _, hTO⟩ := hTO
          rcases e' with q | q | q | q | q | q
          · rw [q]; exact Heap.lt_size hz
          · rw [q]; exact Heap.lt_size hTI
          · rw [q]; exact Heap.lt_size hTO
          · rw [q]; obtain ⟨_, e1, _⟩ := h1.obj; exact Heap.lt_size e1
          · rw [q]; obtain ⟨_, e2, _⟩ := h2.obj; exact Heap.lt_size e2
          · rw [q]; obtain ⟨_, e3, _⟩ := h3.obj; exact Heap.lt_size e3
        rw [upd_ne (Nat.ne_of_lt (Nat.lt_of_lt_of_le hlt hT))]
        exact (hf c hcm).1
  done := by
    intro X hP hw hK hc i pins s σ H E I hf st hg
    subst hP hw hK
    obtain ⟨hz, hTI, hTO, h1, h2, h3⟩ := st
    obtain ⟨xs, ys, zs, hqx, hqy, hqz, hend⟩ := hg
    obtain ⟨its, rv, p, _, _⟩ := srcB I hqx
    obtain ⟨its2, rv2, p2, _, _⟩ := srcB I hqy
    obtain ⟨its3, rv3, p3, _, _⟩ := srcB I hqz
    have S : ZipSep3 (N + 5) (N + 3) (N + 4) N (N + 1) (N + 2) [N, a] [N + 1, b] [N + 2, d] := zip_sep3 (N := N) (fp1 := [a]) (fp2 := [b]) (fp3 := [d]) (by simpa using la) (by simpa using lb) (by simpa using ld)
    have D1 := drawsB (prog := X.prog) (w := X.w) (A := X.A.in1) (I.ok.hd hc) t1 N a (Nat.ne_of_lt la) its.toArray
    have D2 := drawsB (prog := X.prog) (w := X.w) (A := X.A.in1) (I.ok.hd hc) t2 (N + 1) b (Nat.ne_of_lt (Nat.lt_succ_of_lt lb)) its2.toArray
    have D3 := drawsB (prog := X.prog) (w := X.w) (A := X.A.in1) (I.ok.hd hc) t3 (N + 2) d (Nat.ne_of_lt (Nat.lt_succ_of_lt (Nat.lt_succ_of_lt ld))) its3.toArray
    have e : i = min (min its.toArray.size its2.toArray.size) its3.toArray.size := by rw [← hend, List.size_toArray, List.size_toArray, List.size_toArray, rv.length, rv2.length, rv3.length]
    subst e
    refine wt_done (WalksT.zipD3 S D1 D2 D3) I (fun c hcm => hf c ?_) ⟨hz, hTI, hTO, ⟨h1, p⟩, ⟨h2, p2⟩, ⟨h3, p3⟩⟩
    have e' : c = N + 5 ∨ c = N + 4 ∨ c = N ∨ c = N + 1 ∨ c = N + 2 := by simpa using hcm
    rcases e' with q | q | q | q | q <;> rw [q] <;> simp
  self := fun A i s Q E st h => wpAny_pyIter_zip st.1 h
def zip3L : List DV → List DV → List DV → List DV
  | a :: r, b :: s, c :: t => .tup [a, b, c] :: zip3L r s t
  | _, _, _ => []
theorem zip3L_len : ∀ l m n : List DV, (zip3L l m n).length = min (min l.length m.length) n.length
  | [], m, n => by simp [zip3L]
  | a :: r, [], n => by simp [zip3L]
  | a :: r, b :: s, [] => by simp [zip3L]
  | a :: r, b :: s, c :: t => by simp [zip3L, zip3L_len r s t]
theorem zip3L_get : ∀ (l m n : List DV) (i : Nat) (d : DV), (zip3L l m n)[i]? = some d → ∃ x y z, d = .tup [x, y, z] ∧ l[i]? = some x ∧ m[i]? = some y ∧ n[i]? = some z
  | [], m, n, i, d, h => by simp [zip3L] at h
  | a :: r, [], n, i, d, h => by simp [zip3L] at h
  | a :: r, b :: s, [], i, d, h => by simp [zip3L] at h
  | a :: r, b :: s, c :: t, 0, d, h => by simp [zip3L] at h; exact ⟨a, b, c, h.symm, rfl, rfl, rfl⟩
  | a :: r, b :: s, c :: t, i + 1, d, h => by
    obtain ⟨x, y, z, e, e1, e2, e3⟩ := zip3L_get r s t i d (by simpa [zip3L] using h)
    exact ⟨x, y, z, e, by simpa using e1, by simpa using e2, by simpa using e3⟩
theorem itd_z3 {K : PySem.W.Frag} {t1 t2 t3 : Bool} {a b d : Addr} {l m n : List DV} {s1 s2 s3 : Gh → Prop} {G : Gh} {H : Hp} (o1 : SrcOk K t1 a l s1 G H) (o2 : SrcOk K t2 b m s2 G H) (o3 : SrcOk K t3 d n s3 G H) : ItD K (Itz3 K t1 t2 t3 a b d) (zip3L l m n) (fun G => s1 G ∧ s2 G ∧ s3 G) G H where
  go := fun i H1 G1 dd wg x st e => by
    obtain ⟨dx, dy, dz, rfl, ex, ey, ez⟩ := zip3L_get l m n i dd e
    obtain ⟨xs, qx, rx⟩ := o1.all _ _ wg x st.1
    obtain ⟨ys, qy, ry⟩ := o2.all _ _ wg x st.2.1
    obtain ⟨zs, qz, rz⟩ := o3.all _ _ wg x st.2.2
    obtain ⟨v, ev, rv⟩ := rx.get ex
    obtain ⟨u, eu, ru⟩ := ry.get ey
    obtain ⟨p, ep, rp⟩ := rz.get ez
    refine ⟨⟨xs, ys, zs, v, u, p, qx, qy, qz, ev, eu, ep⟩, ?_⟩
    rintro z H' ⟨T, x', y', z', rfl, nT, rfl, f1, f2, f3⟩
    have q1 := f1 xs qx
    rw [ev] at q1; cases q1
    have q2 := f2 ys qy
    rw [eu] at q2; cases q2
    have q3 := f3 zs qz
    rw [ep] at q3; cases q3
    exact ⟨wg.new nT, Ext.new nT, VR.newT wg nT (.cons rv (.cons ru (.cons rp .nil)))⟩
  stop := fun i H1 G1 wg x st hl => by
    obtain ⟨xs, qx, rx⟩ := o1.all _ _ wg x st.1
    obtain ⟨ys, qy, ry⟩ := o2.all _ _ wg x st.2.1
    obtain ⟨zs, qz, rz⟩ := o3.all _ _ wg x st.2.2
    exact ⟨xs, ys, zs, qx, qy, qz, by rw [rx.len, ry.len, rz.len, ← zip3L_len]; exact hl⟩
def zip3K (I : List DV → (Gh → Prop) → Gh → Prop) : List DV → Gh → Prop := fun ds G1 => match ds with
  | [x, y, z] => srcD x G1 fun l s1 => srcD y G1 fun m s2 => srcD z G1 fun n s3 => I (zip3L l m n) (fun G => s1 G ∧ s2 G ∧ s3 G) G1
  | _ => False
def wiZip3 (wr : DA) : DI := fun Y env G R => wr Y env G (zip3K R)
section
variable {X : Cx} {W : WX} {e e2 e3 : Expr} {wr : DA} {pos p tpos : Pos} {elts : List Expr} {kk : Nat}
theorem qi_zip3 (hm : X.mg "zip" = none) (ha : QA X W [e, e2, e3] wr) (hg : Gl X "zip" := by rfl) (hs : starEach [e, e2, e3] X.env = (false, eval e X.env) :: starEach [e2, e3] X.env := by rfl) (hpl : (backTo pos (starEach [e2, e3] X.env)).any (·.1) = false := by rfl) :
    QI X W (.Tuple elts kk tpos) (.Call (.Name "zip" p) [e, e2, e3] [] pos) (wiZip3 wr) := by
  refine ⟨⟨?_⟩⟩
  rintro pins s σ H R I ⟨Y, env, G, P, er, wg, hw, k, kx⟩
  refine Call_ (ld_blt I hg hm PyProof.Rows.boot_zip (PyProof.Rows.callWith_type1 (thn (ha.pa.run pos pins s σ H (fun vs H1 => ∃ ds G1, VRs X.K H1 vs ds ∧ WG X.K G1 H1 ∧ Ext G H G1 H1 ∧ zip3K P ds G1) I ⟨Y, env, G, _, er, wg, hw, fun ds G1 vs H1 h1 w1 x1 r1 => ⟨ds, G1, r1, w1, x1, h1⟩, kx⟩) fun us s1 ⟨vs, H1, I1, r1, ds, G1, rs, w1, x1, h1⟩ => ?_) hs hpl))
  match ds, rs, h1 with
  | [dx, dy, dz], .cons rx (.cons ry (.cons rz .nil)), h1 =>
    have h1 : srcD dx G1 fun l s1 => srcD dy G1 fun m s2 => srcD dz G1 fun n s3 => P (zip3L l m n) (fun G => s1 G ∧ s2 G ∧ s3 G) G1 := h1
    obtain ⟨t1, a, l, st1, rfl, h2, sg1, ok1⟩ := srcD.ok w1 rx h1
    obtain ⟨t2, b, m, st2, rfl, h3, sg2, ok2⟩ := srcD.ok w1 ry h2
    obtain ⟨t3, d, n, st3, rfl, h4, sg3, ok3⟩ := srcD.ok w1 rz h3
    cases r1 with
    | cons ra rr =>
      cases rr with
      | cons rb rr =>
        cases rr with
        | cons rc rr =>
          cases rr
          cases ra
          cases rb
          cases rc
          obtain ⟨xs, qx, _⟩ := ok1.all _ _ w1 Ext.refl sg1
          obtain ⟨ys, qy, _⟩ := ok2.all _ _ w1 Ext.refl sg2
          obtain ⟨zs, qz, _⟩ := ok3.all _ _ w1 Ext.refl sg3
          obtain ⟨its, _, p1, _, la⟩ := srcB I1 qx
          obtain ⟨its2, _, p2, _, lb⟩ := srcB I1 qy
          obtain ⟨its3, _, p3, _, ld⟩ := srcB I1 qz
          refine zip_begins3 (beginsB t1 a its.toArray) (beginsB t2 b its2.toArray) (beginsB t3 d its3.toArray) p1 p2 p3 fun h' hz hTI hTO h1 h2 h3 hsz hk => wpAny_pyIter_zip hz ?_
          have I2 : L2.Inv X pins σ H1 { s1 with heap := h' } := I1.kept (t' := s1.toks) hk
          refine ⟨s1.heap.objs.size + 5, _, _, _, H1, rfl, I2, turn_z3 (t1 := t1) (t2 := t2) (t3 := t3) la lb ld, ⟨hz, hTI, ⟨_, _, _, hTO⟩, ItB.start h1, ItB.start h2, ItB.start h3⟩, fun c hcm => ?_, k _ _ _ _ _ h4 w1 x1 (itd_z3 ok1 ok2 ok3)⟩
          have e' : c = s1.heap.objs.size + 5 ∨ c = s1.heap.objs.size + 3 ∨ c = s1.heap.objs.size + 4 ∨ c = s1.heap.objs.size ∨ c = s1.heap.objs.size + 1 ∨ c = s1.heap.objs.size + 2 := by simpa using hcm
          have hle : s1.heap.objs.size ≤ c := by
            rcases e' with z | z | z | z | z | z <;> (rw [z]; first | exact Nat.le_refl _ | exact Nat.le_add_right _ _)
          exact I1.fpOk hle (I1.hok.fresh hle)
end
variable {Y : DX} {env : Dv} {G : Gh} {wr : DA} {I : List DV → (Gh → Prop) → Gh → Prop} {x y z : DV}
theorem s_wiZip3 (q : wr Y env G (zip3K I)) : wiZip3 wr Y env G I := q
theorem s_zip3 (q : srcD x G fun l s1 => srcD y G fun m s2 => srcD z G fun n s3 => I (zip3L l m n) (fun G => s1 G ∧ s2 G ∧ s3 G) G) : zip3K I [x, y, z] G := q
theorem zip3L_map {α β γ : Type} (f : α → DV) (g : β → DV) (h : γ → DV) : ∀ (l : List α) (m : List β) (n : List γ), zip3L (l.map f) (m.map g) (n.map h) = (l.zip (m.zip n)).map fun p => .tup [f p.1, g p.2.1, h p.2.2]
  | [], m, n => by simp [zip3L]
  | a :: l, [], n => by simp [zip3L]
  | a :: l, b :: m, [] => by simp [zip3L]
  | a :: l, b :: m, c :: n => by simp [zip3L, zip3L_map f g h l m n]
end DL

namespace DL
open PySem PySem.Spec L2
open PyProof.Rows hiding St
/-! ### list.remove of ints -/
def dRemove : DM := fun x ds G Q => match x, ds with
  | .ref a, [.int k] => ∃ (ns : List Int) (j : Nat), G a = some (.lst (ns.map DV.int)) ∧ ns[j]? = some k ∧ (∀ m : Nat, m < j → ns[m]? ≠ some k) ∧ Q .non (gup G a (.lst ((ns.eraseIdx j).map DV.int)))
  | _, _ => False
theorem m_remove {X : Cx} : MtD X "list.remove" dRemove := by
  rintro pins s σ H x xs v us Q I rx rs ⟨dx, ds, G, P, vx, vs, wg, h, k⟩
  match dx, ds, vx, vs, h with
  | .ref a, [.int i], .ref _, .cons (.int _) .nil, ⟨ns, j, ga, hj, hm, h⟩ =>
    obtain ⟨ys, ha, ra⟩ := wg _ _ ga
    have e := ra.ofInts
    subst e
    exact mt_remove pins s σ H _ _ v us Q I rx rs ⟨a, ns, i, j, rfl, rfl, ha, hj, hm, k _ _ _ _ h (wg.setL ga (VRs.ints _)) (Ext.setC ga) .non⟩
theorem x_remove {e : Addr} {k : Int} {ns : List Int} {G : Gh} {Q : DV → Gh → Prop} (he : G e = some (.lst (ns.map .int))) (hk : k ∈ ns) (q : ∀ G1, Old e G G1 → G1 e = some (.lst ((ns.erase k).map .int)) → Q .non G1) : dRemove (.ref e) [.int k] G Q := by
  have h1 := List.idxOf_lt_length_of_mem hk
  refine ⟨ns, ns.idxOf k, he, ?_, fun m hm hq => ?_, q _ Old.set ?_⟩
  · rw [List.getElem?_eq_getElem h1, List.getElem_idxOf]
  · obtain ⟨hl, hv⟩ := List.getElem?_eq_some_iff.mp hq
    have := List.not_of_lt_findIdx (p := (· == k)) (xs := ns) (i := m) hm
    rw [hv] at this
    simp at this
  · rw [← List.erase_eq_eraseIdx_of_idxOf rfl]; exact gup_same
end DL

namespace L2
open PySem PySem.Spec
open PyProof.Rows hiding St
section
variable {X : Cx} {e : Expr} {es : List Expr} {ta : TA}
/-- B.__init__(self, ..), B an own class that has ValueError's -/
theorem pe_baseinit {B : Str} {D : Addr} {mc : Value} {p1 p2 pos : Pos} {pl : Sem Bool} (hg : Gl X B) (hm : X.mg B = some (.ref D)) (cr : ClX.CRead X.K D mc) (vV : PySem.W.findCls X.K (.ref D) mc "__init__" = some (.val (.builtin "ValueError.__init__"))) (ha : PA X (e :: es) ta)
    (hev : eval (.Call (.Attribute (.Name B p1) "__init__" p2) (e :: es) [] pos) X.env = (do
      let ov ← eval (.Name B p1) X.env
      standAt p2.atName
      let (f, first) ← holding [ov] (getMethod ov "__init__" pl)
      callWith pos f first (backTo pos (starEach (e :: es) X.env)) (backToKw pos (keywordEach [] X.env))) := by rfl)
    (hs : starEach (e :: es) X.env = (false, eval e X.env) :: starEach es X.env := by rfl) (hpl : (backTo pos (starEach es X.env)).any (·.1) = false := by rfl) (hd : (B == ("__debug__" : Str)) = false := by decide) :
    PE X (.Call (.Attribute (.Name B p1) "__init__" p2) (e :: es) [] pos) (tVeI X.K ta) := by
  refine ⟨?_⟩
  intro pins s σ H Q I h
  refine PySem.W.methodCall_KW (ld_glob I hg hm ?_ hd) hev
  refine PySem.W.method_cls I.kIn cr.ga ?_
  refine PySem.W.cls_value I.kIn cr.rd vV rfl ?_
  have I1 := I.tok (t := s.toks + 1)
  refine callWith_method1 (thn (ha.run pos pins _ σ H _ I1 h) fun us s1 hh => ?_) hs hpl
  obtain ⟨vs, H1, I2, r, a, C, ws, rfl, hl, oc, he, q⟩ := hh
  cases r with
  | cons ra rr =>
    cases ra
    refine oinit_ok oc I2 he ?_ (fun s' I3 => ⟨.non, H1, I3, rfl, q⟩)
    have := rr.length
    rw [sizeLine_eq]
    omega
end
end L2
namespace L2
open PySem PySem.Spec
open PyProof.Rows hiding St
/-- what an error's __init__ leaves: its fields, in a dict of its own -/
def spInit (C : Addr) (fs : List Str) : Sp := fun vs H Q _ => ∃ (a : Addr) (ws : List V), vs = .ref a :: ws ∧ ws.length = fs.length ∧ H a = some (exo a C none) ∧
  ∀ dx, H dx = none → dx ≠ a → Q .non (upd (upd H dx (exd dx (fs.zip ws).reverse)) a (exo a C (some dx)))
section
variable {P : Program} {w : World} {K : PySem.W.Frag} {mg : Str → Option Value} {base : Heap} {qual : Str} {st : Stmt} {f C : Addr} {fd : FuncData} {k : Nat} {f1 f2 : Str} {tm : TE}
theorem ok_init1 (F : Fun K "__init__" qual st f fd) (S : FnScope ["self", f1] ["self", f1] (defScope st)) (oc : OexC K C) (n1 : PySem.W.findIn K (.ref C) f1 = some none)
    (hm : ∀ a v H (Q : V → Hp → Prop), (∀ u, Q u H) → tm [some (.ref a), some v] H Q)
    (hb : ∀ (cdv : Value) (A : Around) (outer : List Env) (s : Shared) (H : Hp) (E : XK) (c : Bool) (pn : List (Addr × Obj)), PSs (Cx.nox { cxOf CX0 P w K mg base ["self", f1] qual (defScope st) f cdv A outer s H E with calm := c, pn := pn }) (defBody st) (tSeq (tDrop (tVeI K (tCons (tVar 0) (tCons tm tNil)))) (tOst K f1 (tVar 0) (tVar 1)))) :
    FnOk P w K mg base CX0 (k + 1) f fd ["self", f1] (spInit C [f1]) ∧ L2H.FnH P w K mg base CX0 (k + 1) f fd ["self", f1] (spInit C [f1]) := by
  have len : ∀ vs H Q E, spInit C [f1] vs H Q E → vs.length = (["self", f1] : List Str).length := by
    rintro vs H Q E ⟨a, ws, rfl, hl, _⟩
    simpa using hl
  have post : ∀ vs H Q E, spInit C [f1] vs H Q E → (tSeq (tDrop (tVeI K (tCons (tVar 0) (tCons tm tNil)))) (tOst K f1 (tVar 0) (tVar 1))) { nx := fun _ H' => Q .non H', rt := Q } (start ["self", f1] vs) H := by
    rintro vs H Q E ⟨a, ws, rfl, hl, he, q⟩
    match ws, hl with
    | [v], _ =>
      refine ⟨.ref a, rfl, hm a v H _ fun u => ?_⟩
      refine ⟨a, C, [u], rfl, by simp, oc, he, ?_⟩
      refine ⟨v, rfl, .ref a, rfl, a, C, rfl, oc, n1, .inl ⟨he, fun dx hd hne => ?_⟩⟩
      exact q dx hd hne
  refine ⟨F.ok S len fun cdv A outer s H vs Q E hr hsp => ⟨_, hb cdv A outer s H E true [], post _ _ _ _ hsp⟩, ?_⟩
  obtain ⟨oc, od, kV, doc, pm, an, cdv, ct, osl, rfl, lk, hcd⟩ := F.ex
  exact L2H.fn_ofH lk hcd S len fun A outer s H vs Q E p hot hr hsp => ⟨_, (hb cdv A outer s H E false [p]).nox, post _ _ _ _ hsp⟩
theorem upd_swap {H : Hp} {a b : Addr} {x y z : HO} (h : b ≠ a) : upd (upd (upd H b x) a y) b z = upd (upd H b z) a y := by
  funext c
  by_cases h1 : c = b
  · subst h1
    rw [upd_same, upd_ne h, upd_same]
  · rw [upd_ne h1]
    by_cases h2 : c = a
    · subst h2; rw [upd_same, upd_same]
    · rw [upd_ne h2, upd_ne h2, upd_ne h1, upd_ne h1]
theorem ok_init2 (F : Fun K "__init__" qual st f fd) (S : FnScope ["self", f1, f2] ["self", f1, f2] (defScope st)) (oc : OexC K C) (n1 : PySem.W.findIn K (.ref C) f1 = some none) (n2 : PySem.W.findIn K (.ref C) f2 = some none)
    (hm : ∀ a v v2 H (Q : V → Hp → Prop), (∀ u, Q u H) → tm [some (.ref a), some v, some v2] H Q)
    (hb : ∀ (cdv : Value) (A : Around) (outer : List Env) (s : Shared) (H : Hp) (E : XK) (c : Bool) (pn : List (Addr × Obj)), PSs (Cx.nox { cxOf CX0 P w K mg base ["self", f1, f2] qual (defScope st) f cdv A outer s H E with calm := c, pn := pn }) (defBody st) (tSeq (tDrop (tVeI K (tCons (tVar 0) (tCons tm tNil)))) (tSeq (tOst K f1 (tVar 0) (tVar 1)) (tOst K f2 (tVar 0) (tVar 2))))) :
    FnOk P w K mg base CX0 (k + 1) f fd ["self", f1, f2] (spInit C [f1, f2]) ∧ L2H.FnH P w K mg base CX0 (k + 1) f fd ["self", f1, f2] (spInit C [f1, f2]) := by
  have len : ∀ vs H Q E, spInit C [f1, f2] vs H Q E → vs.length = (["self", f1, f2] : List Str).length := by
    rintro vs H Q E ⟨a, ws, rfl, hl, _⟩
    simpa using hl
  have post : ∀ vs H Q E, spInit C [f1, f2] vs H Q E → (tSeq (tDrop (tVeI K (tCons (tVar 0) (tCons tm tNil)))) (tSeq (tOst K f1 (tVar 0) (tVar 1)) (tOst K f2 (tVar 0) (tVar 2)))) { nx := fun _ H' => Q .non H', rt := Q } (start ["self", f1, f2] vs) H := by
    rintro vs H Q E ⟨a, ws, rfl, hl, he, q⟩
    match ws, hl with
    | [v, v2], _ =>
      refine ⟨.ref a, rfl, hm a v v2 H _ fun u => ?_⟩
      refine ⟨a, C, [u], rfl, by simp, oc, he, ?_⟩
      refine ⟨v, rfl, .ref a, rfl, a, C, rfl, oc, n1, .inl ⟨he, fun dx hd hne => ?_⟩⟩
      refine ⟨v2, rfl, .ref a, rfl, a, C, rfl, oc, n2, .inr ⟨dx, [(f1, v)], upd_same, by rw [upd_ne hne, upd_same], by simp, ?_⟩⟩
      rw [upd_swap hne]
      exact q dx hd hne
  refine ⟨F.ok S len fun cdv A outer s H vs Q E hr hsp => ⟨_, hb cdv A outer s H E true [], post _ _ _ _ hsp⟩, ?_⟩
  obtain ⟨oc, od, kV, doc, pm, an, cdv, ct, osl, rfl, lk, hcd⟩ := F.ex
  exact L2H.fn_ofH lk hcd S len fun A outer s H vs Q E p hot hr hsp => ⟨_, (hb cdv A outer s H E false [p]).nox, post _ _ _ _ hsp⟩
end
end L2
namespace PySem.W
open PySem
theorem bk_bexc : builtinKind "BaseException.__getattribute__" = some Manifest.AttrKind.slot := by decide +kernel
theorem sp_bexc : splitId "BaseException.__getattribute__" = some ("BaseException", "__getattribute__") := by decide +kernel
theorem isi_exc {M : Model} {h : Heap} {K : Frag} {x D : Addr} {ox : Obj} {od : Option Obj} (X : K.In h) (I : InstAt h x ox D od) (hs : subIn K (.ref D) (.type "BaseException") = some true) : Looks M h (isInstance (.ref x) (.type "BaseException")) true := by
  unfold isInstance
  exact Looks.andThen (InstAt.type I) (looks_subIn X hs)
theorem check_exc {M : Model} {A : Around} {E : Value → Shared → Prop} {s : Shared} {K : Frag} {x D : Addr} {ox : Obj} {od : Option Obj} {v : Value} {Q : Unit → Shared → Prop} (X : K.In s.heap) (I : InstAt s.heap x ox D od) (hs : subIn K (.ref D) (.type "BaseException") = some true) (q : Q () s) :
    wpAny M A (checkBuiltinCall "BaseException.__getattribute__" { pos := [.ref x, v] }) Q E s :=
  check_slot (i := "BaseException.__getattribute__") (owner := "BaseException") (n := "__getattribute__") (self := .ref x) (rest := [v]) (kw := []) bk_bexc sp_bexc (isi_exc X I hs) (F.args_bexc_ga (.ref x) v) q
theorem ga_exc {prog : Program} {w : World} {A : Around} {E : Value → Shared → Prop} {s : Shared} {K : Frag} {x D : Addr} {ox od : Obj} {tk : Nat} {Q : Fin → Shared → Prop} (X : K.In s.heap) (I : InstAt s.heap x ox D (some od)) (hm : mroIn K D (.type "object") = some true)
    (hf : findObj K D (some od) (Str.ofString "__class__") = some (Builtin.ObjectAttr.Found.bind (Value.builtin "getset_descriptor.__get__") (Value.builtin "object.__class__"))) (q : Q (.done (.ret (.ref D))) s) :
    wpAny (model prog w) A (Builtin.«object.__getattribute__» { pos := [.ref x, .str (Str.ofString "__class__") tk] }) Q E s := by
  obtain ⟨hp, g, dr, t, os⟩ := s
  unfold Builtin.«object.__getattribute__»
  refine wpAny_bind ?_
  refine wpAny_of_eq (a := (.ref x, [.str (Str.ofString "__class__") tk])) rfl ?_
  refine wpAny_bind (wpAny_of_eq (a := Str.ofString "__class__") rfl ?_)
  refine wpAny_bind (Looks.at (InstAt.type I) ?_)
  refine wpAny_bind (Looks.at (looks_find X I hf) ?_)
  show wpAny _ _ (Builtin.ObjectAttr.bindTo _ _ _ _) _ _ _
  unfold Builtin.ObjectAttr.bindTo
  refine wpAny_bind (wpAny_holding ?_)
  refine wpAny_call (class_get X I hm ?_)
  exact wpAny_pure q
theorem kin_classX {prog : Program} {w : World} {A : Around} {E : Value → Shared → Prop} {s : Shared} {K : Frag} {x D : Addr} {ox od : Obj} {Q : Option Value → Shared → Prop}
    (hg : findIn K (.ref D) "__getattribute__" = some (some (.builtin "BaseException.__getattribute__"))) (hk : findIn K (.ref D) "__getattr__" = some none) (hs : subIn K (.ref D) (.type "BaseException") = some true) (hd : hasDictIn K D = true)
    (ha : findIn K (.ref D) "__class__" = some (some (.builtin "object.__class__"))) (hn : specialIn K (.builtin "object.__class__") "__get__" = some (some (.builtin "getset_descriptor.__get__"))) (ht : takesIn K (.builtin "object.__class__") = some true)
    (hm : mroIn K D (.type "object") = some true) (X : K.In s.heap) (I : InstAt s.heap x ox D (some od)) (hq : Q (some (.ref D)) { s with toks := s.toks + 1 }) : wpAny (model prog w) A (getAttr? (.ref x) "__class__") Q E s := by
  obtain ⟨hp, g, dr, tk, os⟩ := s
  have hcl : (clsIn K D).isSome = true := by
    unfold hasDictIn at hd
    cases e : clsIn K D with
    | none => rw [e] at hd; cases hd
    | some c => rfl
  have hf := findObj_data (od := od) hcl ha hn ht
  unfold getAttr?
  refine wpAny_bind (wpAny_mkText ?_)
  unfold getAttrBy?
  refine wpAny_bind (wpAny_attempt ?_)
  unfold getAttrBy
  refine wpAny_holding ?_
  refine wpAny_bind (Looks.at (InstAt.type I) ?_)
  refine wpAny_bind (Looks.at (looks_findIn X hg) ?_)
  show wpAny _ _ (if _ then _ else _) _ _ _
  rw [if_neg (fun h => absurd (Bool.and_eq_true .. ▸ h : _ ∧ _).2 (by decide))]
  unfold getAttrByItsOwn
  refine wpAny_bind ?_
  unfold hookBefore
  rw [if_pos (show onTheHeap (.ref D) = true from rfl)]
  refine Looks.at (looks_findIn X hk) ?_
  refine wpAny_bind (wpAny_attempt (wpAny_holding ?_))
  unfold callGetattribute
  rw [if_neg (by simp)]
  unfold boundAndCalled
  refine wpAny_bind (wpAny_of_eq (F.excAttr_ValueError.ga.bind _) ?_)
  show wpAny _ _ (call _ [_, _]) _ _ _
  refine wpAny_call (codeAny_call_builtin F.excAttr_ValueError.ga.plain F.entry_bexc_ga ?_)
  refine check_exc X I hs ?_
  refine ga_exc X I hm hf ?_
  show wpAny _ _ (handedOut _) _ _ _
  rw [handedOut_of (v := .ref D) rfl]
  refine wpAny_pure ?_
  exact wpAny_pure hq
theorem handS_kitx_excX {K : Frag} {x D : Addr} {ox od : Obj} (hg : findIn K (.ref D) "__getattribute__" = some (some (.builtin "BaseException.__getattribute__"))) (hk : findIn K (.ref D) "__getattr__" = some none) (hs : subIn K (.ref D) (.type "BaseException") = some true) (hd : hasDictIn K D = true)
    (ha : findIn K (.ref D) "__class__" = some (some (.builtin "object.__class__"))) (hn : specialIn K (.builtin "object.__class__") "__get__" = some (some (.builtin "getset_descriptor.__get__"))) (ht : takesIn K (.builtin "object.__class__") = some true)
    (hm : mroIn K D (.type "object") = some true) : KitX K (.ref x) (.ref D) fun h => InstAt h x ox D (some od) := by
  have base := handS_kitx_exc (x := x) (ox := ox) hg hk hs hd ha hn ht hm
  obtain ⟨o, cd, ho, hdat⟩ : ∃ o cd, K.lookup D = some o ∧ o.data = .cls cd := by
    unfold hasDictIn clsIn at hd
    cases e : K.lookup D with
    | none => rw [e] at hd; cases hd
    | some o =>
      obtain ⟨oc, od', dat, sl⟩ := o
      rw [e] at hd
      cases dat <;> first | exact ⟨_, _, rfl, rfl⟩ | cases hd
  refine ⟨fun M h X I => InstAt.type I, fun M h X I => ?_, fun h tp dd its n sl X e => ?_, fun X I q => kin_classX hg hk hs hd ha hn ht hm X I q⟩
  · intro A Q E s k q
    unfold isType
    refine wpAny_bind (wpAny_loadPart (k _ _ (X _ _ ho)) ?_)
    rw [hdat]
    exact wpAny_pure q
  · exact base.ne h tp dd its n sl X e
end PySem.W
namespace L2
open PySem PySem.Spec
open PyProof.Rows hiding St
/-- isinstance of an error that has a dict of its own -/
def rIsEX (K : PySem.W.Frag) (cls : Value) (d : Option Addr) (a : Addr) : List V → Hp → VK → Prop := fun xs H Q => ∃ (D dd : Addr) (fs : List (Str × V)) (c : V) (cv : Value) (b : Bool), cls = .ref D ∧ d = some dd ∧ ExcC K D ∧ H dd = some (.xd fs) ∧ xs = [.ref a, c] ∧ (∀ u, RelV c u → u = cv) ∧ PySem.W.kitOne K (.ref D) cv = some b ∧ Q (.bl b) H
theorem call_isEX {X : Cx} {a : Addr} {oe : Obj} {cls : Value} {d : Option Addr} {pn : List (Addr × Obj)} (hz : Zc cls d oe) (hf : ∃ vs, oe.data = .fields vs) : CallR (X.suite a ((a, oe) :: pn)) (.builtin "isinstance") (rIsEX X.K cls d a) := by
  rintro pins s σ H xs us Q I rs ⟨D, dd, fs, c, cv, b, rfl, rfl, C, hd, rfl, hc, hb, q⟩
  obtain ⟨z1, z2⟩ := hz
  obtain ⟨vs, hf⟩ := hf
  obtain ⟨p1, _⟩ := I.pin (a, oe) (List.mem_append_left _ (List.mem_cons_self ..))
  obtain ⟨mA, hns, _⟩ := I.hok dd _ hd
  obtain ⟨od, es, ep, ho, _⟩ := hns
  cases rs with
  | cons ra rr =>
    cases rr with
    | cons rc rn =>
      cases rn
      cases ra
      cases hc _ rc
      refine PySem.W.kia_one (PySem.W.handS_kitx_excX (x := a) (ox := oe) (od := od) C.hg C.hk C.hs C.hd C.ha C.hn C.ht C.hm) I.kIn ⟨p1, z1, ?_, ?_⟩ hb (fun h => nomatch h) fun tk => ?_
      · unfold PySem.W.notCls
        rw [hf]
      · rw [z2]; exact ho
      · exact ⟨.bl b, H, I.tok _, rfl, q⟩
/-- an own error made: its __init__ is run by go; its context is None -/
theorem own_made {X : Cx} {CX : CXT} {C fI : Addr} {sp : Sp} {pins : List (Addr × Obj)} {σ : St} {H1 : Hp} {s1 : Shared} {us : List Value} {vs : List V} {Q : XK} (T : OexC X.K C) (iC : PySem.W.findIn X.K (.ref C) "__init__" = some (some (.ref fI)))
    (tI : PySem.W.typeIn X.K (.ref fI) = some (.type "function")) (hx : Passes CX X fun _ _ _ => False) (I1 : Inv X pins σ H1 s1) (r1 : Vals vs us) (few : vs.length ≤ 1000)
    (q1 : ∀ a, H1 a = none → sp (.ref a :: (vs ++ [])) (upd H1 a (exo a C none)) (fun v H2 => v = .non ∧ ∃ (d : Addr) (fs : List (Str × V)), H2 a = some (exo a C (some d)) ∧ H2 d = some (exd d fs) ∧ H1 d = none ∧ Q (.ref C) (some d) (upd (del H2 a) d (.xd fs))) fun _ _ _ => False)
    (go : ∀ (s2 : Shared) (H2 : Hp) (a : Addr) (R : VK), Inv X pins σ H2 s2 → sp (.ref a :: vs) H2 R (fun _ _ _ => False) →
      codeAny (model X.prog X.w) (X.A.under (.builtin "type.__call__" ⟨.ref C :: us, []⟩)) (.call (.ref fI) ⟨.ref a :: us, []⟩) (CR CX X.stack X.prog X.w H2 s2 R fun _ _ _ => False) s2) :
    wpAny (model X.prog X.w) X.A (call (.ref C) us) (L2N.MkP X pins σ Q) X.xe s1 := by
  obtain ⟨nm, qn, _, _, bm, _, _, _, _, _, _, _, _, _, _, inC, marks⟩ := T.cls
  obtain ⟨hp, gens, drawn, toks, os⟩ := s1
  have up := Nat.le_succ hp.objs.size
  have fresh : H1 (hp.objs.size + 1) = none := I1.hok.fresh up
  generalize hh : (hp.push (PySem.W.kdv_tup us)).push (PySem.HandSPX.excO C hp.objs.size) = hp3
  have keep : ∀ b o, hp.get? b = some o → hp3.get? b = some o := fun b o e => by
    rw [← hh]; exact Heap.get?_push_of_some _ (Heap.get?_push_of_some _ e)
  have there : hp3.get? (hp.objs.size + 1) = some (PySem.HandSPX.excO C hp.objs.size) := by rw [← hh]; heap_get
  have I2 : Inv X pins σ (upd H1 (hp.objs.size + 1) (exo (hp.objs.size + 1) C none)) ⟨hp3, gens, drawn, toks, os⟩ := I1.laid (t' := toks) keep up (exo_ok there)
  have run := q1 _ fresh
  rw [List.append_nil] at run
  have few' : us.length ≤ sizeLine := by rw [← Paired.length r1, sizeLine_eq]; omega
  subst hh
  refine wpAny_call (PySem.HandSPX.call_own F.excBase_ValueError (fun Y => PySem.HandSPX.refsVE_contains Y bm marks) (I1.kIn _ _ inC) (PySem.W.looks_findIn I1.kIn iC) (fun self => PySem.W.bind_fn I1.kIn self tI) few' (codeAny_mono (go _ _ _ _ I2 run) fun r s2 done => ?_))
  match r, done with
  | .error er, done => exact hx pins σ _ _ er s2 I2 done
  | .ok .next, done => exact done.elim
  | .ok .brk, done => exact done.elim
  | .ok .cont, done => exact done.elim
  | .ok (.ret u), ⟨v, H2, os2, bare2, un2, hok2, rv, ev, d, fs, ea, ed, nd, q2⟩ =>
    subst ev
    obtain ⟨h2, g2, d2, t2, o2⟩ := s2
    obtain ⟨t0, G, J, kG, gone, ob, na⟩ := mk_end0 (d2 := d2) (t2 := t2) I1 up keep un2 hok2 os2 bare2 ea ed nd
    refine ⟨rv, hp.objs.size + 1, _, _, ⟨G, g2, d2, t2, o2⟩, _, .ref C, some d, rfl, J, kG, gone, ob, ⟨rfl, rfl, fun ws hw => ?_⟩, rfl, rfl, na, rfl, bare2, raises_own T.exC T.tyC, q2⟩
    cases hw
    rfl
section
variable {X : Cx} {x : Str} {e : Expr} {es : List Expr} {ta : TA} {p pos : Pos} {C fI : Addr} {k : Nat} {fd : FuncData} {ps : List Str} {sp : Sp} {CX : CXT}
theorem pmk_oexN (T : OexC X.K C) (iC : PySem.W.findIn X.K (.ref C) "__init__" = some (some (.ref fI))) (tI : PySem.W.typeIn X.K (.ref fI) = some (.type "function")) (F1 : FnOk X.prog X.w X.K X.mg X.base CX k fI fd ps sp) (hr : Room (k + 1) X.A) (hb : Binds X.K fd ps [])
    (hx : Passes CX X fun _ _ _ => False) (hg : Gl X x) (hm : X.mg x = some (.ref C)) (ha : PA X (e :: es) ta) (hd : (x == ("__debug__" : Str)) = false := by decide) (he : starEach (e :: es) X.env = (false, eval e X.env) :: starEach es X.env := by rfl)
    (hpl : (backTo pos (starEach es X.env)).any (·.1) = false := by rfl) : L2N.PMk X (.Call (.Name x p) (e :: es) [] pos) (tMkO C sp [] ta) := by
  intro pins s σ H Q I h
  refine wpAny_Call_Name_kw (ld_glob I hg hm (PySem.W.callWith_K (h₀ := X.base) I.ok.mod.kin T.kC (thn (ha.run pos pins s σ H _ I h) fun us s1 ⟨vs, H1, I1, r1, few, q1⟩ => ⟨I1.kIn, ?_⟩) he hpl) hd)
  refine own_made T iC tI hx I1 r1 few q1 fun s2 H2 a R I2 h2 => ?_
  have rr : Vals (V.ref a :: vs) (Value.ref a :: us) := .cons rfl r1
  have b2 := hb _ (Value.ref a :: us) I2.kIn (by rw [List.append_nil, ← rr.length]; exact F1.len _ _ _ _ h2)
  rw [List.append_nil] at b2
  exact F1.run _ X.stack _ _ _ _ _ _ _ (hr.make C us []) (I2.env0.make C us []) b2 rr h2
/-- the same while an error is handled -/
theorem pmk_oexX (T : OexC X.K C) (iC : PySem.W.findIn X.K (.ref C) "__init__" = some (some (.ref fI))) (tI : PySem.W.typeIn X.K (.ref fI) = some (.type "function")) (F1 : L2H.FnH X.prog X.w X.K X.mg X.base CX k fI fd ps sp) (hr : L2H.RoomH (k + 1) X.A) (hot : L2H.HotC X) (hb : Binds X.K fd ps [])
    (hx : Passes CX X fun _ _ _ => False) (hg : Gl X x) (hm : X.mg x = some (.ref C)) (ha : PA X (e :: es) ta) (hd : (x == ("__debug__" : Str)) = false := by decide) (he : starEach (e :: es) X.env = (false, eval e X.env) :: starEach es X.env := by rfl)
    (hpl : (backTo pos (starEach es X.env)).any (·.1) = false := by rfl) : L2N.PMk X (.Call (.Name x p) (e :: es) [] pos) (tMkO C sp [] ta) := by
  intro pins s σ H Q I h
  refine wpAny_Call_Name_kw (ld_glob I hg hm (PySem.W.callWith_K (h₀ := X.base) I.ok.mod.kin T.kC (thn (ha.run pos pins s σ H _ I h) fun us s1 ⟨vs, H1, I1, r1, few, q1⟩ => ⟨I1.kIn, ?_⟩) he hpl) hd)
  refine own_made T iC tI hx I1 r1 few q1 fun s2 H2 a R I2 h2 => ?_
  have rr : Vals (V.ref a :: vs) (Value.ref a :: us) := .cons rfl r1
  have b2 := hb _ (Value.ref a :: us) I2.kIn (by rw [List.append_nil, ← rr.length]; exact F1.len _ _ _ _ h2)
  rw [List.append_nil] at b2
  obtain ⟨pn, hot1, mem⟩ := hot
  obtain ⟨c1, c2, c3, c4, c5⟩ := I2.pin pn (List.mem_append_left _ mem)
  exact F1.run _ X.stack _ _ _ _ _ _ _ pn ⟨by have := hr.dp; rw [make_depth]; omega, by have := hr.un; rw [make_units]; omega⟩ ⟨hot1.1, hot1.2⟩ ⟨c1, c2, fun hm => (List.mem_cons.mp (I2.stkSub pn.1 hm)).elim c3 c4, c5⟩ (I2.env0.make C us []) b2 rr h2
end
end L2
namespace DL
open PySem PySem.Spec L2
open PyProof.Rows hiding St
/-- where the program's own classes stand -/
class Cls where
  adr : Str → Addr
section
variable {K : PySem.W.Frag} {H : Hp} {xs : List (Str × V)} {ys : List (Str × DV)}
theorem FR.zip : ∀ {ks : List Str} {vs : List V} {ds : List DV}, VRs K H vs ds → FR K H (ks.zip vs) (ks.zip ds)
  | [], _, _, _ => by simp; exact .nil
  | k :: ks, _, _, .nil => .nil
  | k :: ks, _, _, .cons r t => .cons r (FR.zip t)
theorem FR.app : ∀ {xs zs : List (Str × V)} {ys us : List (Str × DV)}, FR K H xs ys → FR K H zs us → FR K H (xs ++ zs) (ys ++ us)
  | _, _, _, _, .nil, h => h
  | _, _, _, _, .cons r t, h => .cons r (t.app h)
theorem FR.rev : ∀ {xs : List (Str × V)} {ys : List (Str × DV)}, FR K H xs ys → FR K H xs.reverse ys.reverse
  | _, _, .nil => .nil
  | _, _, .cons r t => by
    rw [List.reverse_cons, List.reverse_cons]
    exact t.rev.app (.cons r .nil)
theorem FR.parts : ∀ {xs : List (Str × V)} {ys : List (Str × DV)}, FR K H xs ys → ∃ vs, xs = (ys.map Prod.fst).zip vs ∧ VRs K H vs (ys.map Prod.snd)
  | _, _, .nil => ⟨[], rfl, .nil⟩
  | _, _, .cons r t => by
    obtain ⟨vs, h1, h2⟩ := t.parts
    exact ⟨_ :: vs, by rw [h1]; rfl, .cons r h2⟩
end
/-- a class of errors: its fields, in the order in which __init__ lays them down -/
structure ErrAt (P : Program) (w : World) (K : PySem.W.Frag) (mg : Str → Option Value) (base : Heap) (x : Str) (C : Addr) (fs : List Str) : Prop where
  g : mg x = some (.ref C)
  oex : OexC K C
  ini : ∃ (fI : Addr) (fd : FuncData), PySem.W.findIn K (.ref C) "__init__" = some (some (.ref fI)) ∧ PySem.W.typeIn K (.ref fI) = some (.type "function") ∧ FnOk P w K mg base CX0 1 fI fd ("self" :: fs) (spInit C fs) ∧ Binds K fd ("self" :: fs) [] ∧ L2H.FnH P w K mg base CX0 1 fI fd ("self" :: fs) (spInit C fs)
def wRaise (C : Addr) (fs : List Str) (wr : DA) : DS := fun D env G => wr (fun C fs G' => D.ex C fs env G') env G fun ds G1 => ds.length = fs.length ∧ D.ex C (fs.zip ds).reverse env G1
section
variable {X : Cx} {W : WX} {e : Expr} {es : List Expr} {wr : DA} {x : Str} {C : Addr} {fs : List Str} {p pos pos' : Pos} {j : Nat}
theorem qs_raise (T : ErrAt X.prog X.w X.K X.mg X.base x C fs) (hc : X.calm = true) (hr : Room j X.A) (tk : Takes X W) (ha : QA X W (e :: es) wr) (hf : fs.length ≤ 900 := by decide) (hj : 2 ≤ j := by decide) (hg : Gl X x := by rfl) (hd : (x == ("__debug__" : Str)) = false := by decide)
    (he : starEach (e :: es) X.env = (false, eval e X.env) :: starEach es X.env := by rfl) (hpl : (backTo pos (starEach es X.env)).any (·.1) = false := by rfl) :
    QS X W (.Raise (some (.Call (.Name x p) (e :: es) [] pos)) none pos') (wRaise C fs wr) := by
  obtain ⟨fI, fd, iC, tI, F1, hb, _⟩ := T.ini
  refine ⟨PS.wk (L2N.ps_raise hc tk.n (pmk_oexN T.oex iC tI F1 (hr.mono hj) hb pass0 hg T.g ha.pa hd he hpl)) ?_⟩
  rintro D σ H ⟨env, G, De, er, wg, h, le⟩
  refine ⟨_, env, G, _, er, wg, h, fun ds G1 vs H1 h1 w1 x1 r1 => ?_, le.xle wg er⟩
  obtain ⟨hl, hx⟩ := h1
  have hl2 : vs.length = fs.length := by rw [r1.len, hl]
  refine ⟨by omega, fun a ha => ⟨a, vs, by rw [List.append_nil], hl2, upd_same, fun dx hd hne => ⟨rfl, dx, _, upd_same, by rw [upd_ne hne, upd_same], by rwa [upd_ne hne] at hd, ?_⟩⟩⟩
  have hd1 : H1 dx = none := by rwa [upd_ne hne] at hd
  have e : upd (del (upd (upd (upd H1 a (exo a C none)) dx (exd dx (fs.zip vs).reverse)) a (exo a C (some dx))) a) dx (.xd (fs.zip vs).reverse) = upd H1 dx (.xd (fs.zip vs).reverse) := by
    funext c
    by_cases h1 : c = dx
    · subst h1; rw [upd_same, upd_same]
    · rw [upd_ne h1, upd_ne h1]
      by_cases h2 : c = a
      · subst h2; rw [ha]; simp [del]
      · have : del (upd (upd (upd H1 a (exo a C none)) dx (exd dx (fs.zip vs).reverse)) a (exo a C (some dx))) a c = upd (upd (upd H1 a (exo a C none)) dx (exd dx (fs.zip vs).reverse)) a (exo a C (some dx)) c := by simp [del, h2]
        rw [this, upd_ne h2, upd_ne h1, upd_ne h2]
  rw [e]
  have x2 : Ext G1 H1 G1 (upd H1 dx (.xd (fs.zip vs).reverse)) := Ext.new hd1
  refine le.ex C _ env G1 σ dx _ _ hx upd_same ?_ (er.ext wg (x1.trans x2)) (w1.new hd1) (x1.trans x2)
  exact ((FR.zip r1).rev).ext w1 x2
end
end DL

namespace L2
open PySem PySem.Spec
open PyProof.Rows hiding St
/-! ### an error, caught, is tracked from then on -/
theorem Inv.track {X : Cx} {pins : List (Addr × Obj)} {σ : St} {H : Hp} {s : Shared} {a : Addr} {u : HO} (I : Inv X pins σ H s) (un : H a = none) (old : X.s_0.heap.get? a = none) (lo : a ≠ X.env.locals) (ce : ∀ x c, X.env.cells.lookup x = some c → c ≠ a) (pi : ∀ p ∈ X.pn ++ pins, p.1 ≠ a)
    (good : ObjOk X.prog X.w (upd H a u) s.heap a u) : Inv X pins σ (upd H a u) s := by
  have off : ∀ b w, H b = some w → b ≠ a := fun b w e => ne_of_none e un
  have up : ∀ b w, H b = some w → upd H a u b = some w := fun b w e => (upd_ne (off b w e)).trans e
  have non : ∀ b, b ≠ a → H b = none → upd H a u b = none := fun b n e => (upd_ne n).trans e
  obtain ⟨b1, b2, b3, b4, b5, b6, b7⟩ := I.base
  refine ⟨I.ok, I.os, I.bare, ⟨b1, b2, fun b ob e n hx => non b (fun z => by rw [z, old] at e; cases e) (b3 b ob e n hx), b4, fun b xs e => up _ _ (b5 b xs e), fun b ob w e => up _ _ (b6 b ob w e), fun b ps e => ?_⟩, I.loc, I.cell, non _ lo.symm I.free, fun x c e => non _ (ce x c e) (I.freeC x c e), fun p hp => ?_, fun b w e => ?_, I.len⟩
  · obtain ⟨m, e2⟩ := b7 b ps e
    exact ⟨m, up _ _ e2⟩
  · obtain ⟨p1, p2, p3⟩ := I.pin p hp
    exact ⟨p1, non _ (pi p hp) p2, p3⟩
  · by_cases hb : b = a
    · rw [hb, upd_same] at e
      rw [hb]
      exact Option.some.inj e ▸ good
    · rw [upd_ne hb] at e
      exact (I.hok b w e).stay (fun _ _ _ q => q) (fun c q => up _ _ q) fun c xs q => up _ _ q
theorem excO_ok {P : Program} {w : World} {H : Hp} {h : Heap} {a C d : Addr} {ob : Obj} {vs : Array Value} (e : h.get? a = some ob) (z : Zc (.ref C) (some d) ob) (f : ob.data = .fields vs) : ObjOk P w H h a (excO a C d) :=
  ⟨⟨ob, e, z, vs, f⟩, ⟨ob, e⟩, fun _ _ ⟨ob', e', r⟩ k => ⟨ob', k ob' e', r⟩⟩
section
variable {X : Cx} {pins : List (Addr × Obj)} {σ : St} {H : Hp} {s : Shared}
theorem Inv.into (I : Inv X pins σ H s) (a : Addr) : Inv (X.suite a (X.pn ++ pins)) [] σ H s := by
  obtain ⟨i1, i2, i3, i4, i5, i6, i7, i8, i9, i10, i11⟩ := I
  exact ⟨i1.suite _ _, i2, i3, i4, i5, i6, i7, i8, (fun p hp => i9 p (by simpa using hp)), i10, i11⟩
theorem Inv.outOf {a : Addr} {pn' : List (Addr × Obj)} (I : Inv (X.suite a (X.pn ++ pins)) pn' σ H s) (ok : X.Ok) : Inv X pins σ H s := by
  obtain ⟨i1, i2, i3, i4, i5, i6, i7, i8, i9, i10, i11⟩ := I
  exact ⟨ok, i2, i3, i4, i5, i6, i7, i8, (fun p hp => i9 p (List.mem_append_left pn' hp)), i10, i11⟩
end
/-- what the clause wishes of an exception of the body -/
def wCatch (K : PySem.W.Frag) (c : Value) (i : Nat) (ts : Addr → Addr → Addr → TS) (Wo : WX) (D : Ends) : WX := fun cls d σ H =>
  ∃ b, PySem.W.exmOne K cls c = some b ∧ (b = true → ∃ C dx, cls = .ref C ∧ d = some dx ∧ ∀ a, H a = none →
      ts a C dx { nx := fun st hp => D.nx (st.set i none) hp, bk := fun st hp => D.bk (st.set i none) hp, ct := fun st hp => D.ct (st.set i none) hp, rt := D.rt } (σ.set i (some (.ref a))) (upd H a (excO a C dx))) ∧
    (b = false → Wo cls d σ H)
section
variable {X : Cx} {x n : Str} {c : Value} {i : Nat} {body more : List Stmt} {first : Stmt} {p1 p2 p3 : Pos} {tb : WX → TS} {ts : Addr → Addr → Addr → TS} {Wo : WX}
/-- an error in the air of X, of which Z is known -/
def XZ (Z : Value → Option Addr → Obj → Prop) (X : Cx) (W : WX) (u : Value) (t : Shared) : Prop :=
  ∃ (a : Addr) (B : Heap) (sI : Shared) (pins : List (Addr × Obj)) (σ : St) (H : Hp) (cls : Value) (d : Option Addr),
    u = .ref a ∧ Inv X pins σ H sI ∧ (∀ b o, sI.heap.get? b = some o → b ∉ frs X.stack → B.get? b = some o) ∧ sI.heap.UpToSlots t.heap ∧ Sky B X.stack a (Z cls d) X.env.locals t.heap ∧ H a = none ∧ t.os = sI.os ∧ AllBare t.gens ∧ W cls d σ H
theorem zc_steady1 {cls : Value} {d : Option Addr} : PXN.Steady1 (Zc cls d) := fun o v h => Zc.steady o _ h
theorem catchK {Z : Value → Option Addr → Obj → Prop} (hZ : ∀ cls d, PXN.Steady1 (Z cls d)) (zc : ∀ cls d o, Z cls d o → Zc cls d o) {pins : List (Addr × Obj)} {D : Ends} {xe : Value → Shared → Prop} {e : Value} {u : Shared}
    (hst : X.stack = X.env :: X.outer) (hfm : X.env.frame = some X.env.locals) (hex : X.ex = []) (nd : X.N.Nodup) (ix : X.N[i]? = some n) (lc : X.env.kindOf n = some .local) (nm : Names X x c) (tk : ∀ y t, XZ Z X Wo y t → X.xe y t)
    (hsuite : ∀ (a C dx : Addr) (pn : List (Addr × Obj)), PSs (X.suite a pn) (first :: more) (ts a C dx)) (allOk : X.Ok) (caught : XZ Z (X.tr (X.pn ++ pins) xe) (wCatch X.K c i ts Wo D) e u) :
    wpAny (model X.prog X.w) X.A (noteFrame e X.env) (fun _ u2 => wpAny (model X.prog X.w) X.A (setFlight e none) (fun _ u3 =>
      wpAny (model X.prog X.w) X.A (handleBy e X.env [.ExceptHandler (some (.Name x p1)) (some n) (first :: more) p2]) (SP X pins D) X.xe u3) X.xe u2) X.xe u := by
  obtain ⟨a, B, gr, pn1, st1, H1, cls, d, rfl, J0, below, slots, sky, un, os, bare, b, tested, yes, no⟩ := caught
  have J : Inv X pins st1 H1 gr := J0.ofTry allOk
  have frm : X.A.frames = some (X.env :: X.outer) := hst ▸ allOk.frames
  have sky : Sky B (X.env :: X.outer) a (Z cls d) X.env.locals u.heap := by have z := sky; rwa [show (X.tr (X.pn ++ pins) _).stack = X.env :: X.outer from hst] at z
  show wpAny (model X.prog X.w) X.A (noteFrame (.ref a) X.env) _ _ _
  refine L2N.Sky.land (hZ cls d) frm hfm sky fun hq fly slots2 => ?_
  have K3 : Inv X pins st1 H1 { u with heap := hq } := J.landed below fly.1 (slots.trans slots2) os bare
  obtain ⟨ob, vs, obAt, obZ, obF⟩ := fly.there
  have inB : B.get? a = none := fly.2.1
  have noFrame : a ∉ frs (X.env :: X.outer) := fun hm => by
    obtain ⟨_, ob', e', nf⟩ := fly.2.2.1.mem hm
    have e2 := obAt.symm.trans e'
    cases e2
    exact nf _ obF
  have noLoc : a ≠ X.env.locals := fun z => noFrame (List.mem_filterMap.mpr ⟨X.env, List.mem_cons_self, by rw [hfm, z]⟩)
  have noOut : ∀ b, b ≠ X.env.locals → b ∉ X.fs → b ∉ frs X.stack := fun b h1 h2 hm => by
    rw [hst] at hm
    obtain ⟨en, hen, q⟩ := List.mem_filterMap.mp hm
    rcases List.mem_cons.mp hen with z | z
    · rw [z, hfm] at q; exact h1 (Option.some.inj q).symm
    · exact h2 (List.mem_filterMap.mpr ⟨en, z, q⟩)
  have pinFar : ∀ p ∈ X.pn ++ pins, p.1 ≠ a := fun p hp z => by
    obtain ⟨q1, _, q3, q4, _⟩ := J.pin p hp
    have := below p.1 _ q1 (noOut _ q3 q4)
    rw [z, inB] at this; cases this
  have young : X.s_0.heap.get? a = none := by
    cases e : X.s_0.heap.get? a with
    | none => rfl
    | some o0 =>
      obtain ⟨o1, e1⟩ := J.base.there a o0 e (by rw [hex]; simp)
      have := below a o1 e1 (by rw [hst]; exact noFrame)
      rw [inB] at this; cases this
  have onTrack : ∀ {h9 : Heap} {C dx : Addr}, cls = .ref C → d = some dx → Inv X pins st1 H1 { u with heap := h9 } → (∃ o9 v9, h9.get? a = some o9 ∧ Zc cls d o9 ∧ o9.data = .fields v9) → Inv X pins st1 (upd H1 a (excO a C dx)) { u with heap := h9 } := by
    rintro h9 C dx rfl rfl K9 ⟨o9, v9, e9, z9, f9⟩
    refine K9.track un young noLoc (fun y cc ey z => ?_) pinFar (excO_ok e9 z9 f9)
    obtain ⟨w9, oc, ec, dc⟩ := K9.cell y cc ey
    rw [z] at ec
    have e2 := e9.symm.trans ec
    cases e2
    rw [f9] at dc; cases dc
  have notOut : a ∉ X.fs := fun hm => by
    obtain ⟨en, hen, q⟩ := List.mem_filterMap.mp hm
    exact noFrame (List.mem_filterMap.mpr ⟨en, List.mem_cons_of_mem _ hen, q⟩)
  have look := K3.suite obAt obF un noLoc notOut
  refine wpAny_handleBy_cons (codeAny_handlers_test ?_) (by intro q; cases q)
  have ty : PySem.W.Looks (model X.prog X.w) hq (typeOf (.ref a)) cls := fun A Q E z k q => wpAny_typeOf_ref (k _ _ obAt) ((zc _ _ _ obZ).1.symm ▸ q)
  have asked := PySem.W.exm_one (M := model X.prog X.w) K3.kIn ty tested
  have named : ∀ {Q : Value → Shared → Prop} {E : Value → Shared → Prop}, Q c { u with heap := hq } → wpAny (model X.prog X.w) (X.A.mark (some (.ref a))) (eval (.Name x p1) X.env) Q E { u with heap := hq } := fun {Q E} q => by
    obtain ⟨n1, n2, n3 | ⟨n3, n4, n5⟩⟩ := nm
    · exact ld_glob (X := X.suite a ((a, ob) :: (X.pn ++ pins))) look n1 n3 q n2
    · exact ld_blt (X := X.suite a ((a, ob) :: (X.pn ++ pins))) look n1 n3 n4 q n5 n2
  refine named (asked.here ?_)
  cases b with
  | false =>
    show wpAny _ X.A (handleBy (.ref a) X.env []) _ _ _
    refine wpAny_handleBy_nil ?_
    obtain ⟨_, _, _, o9, v9, T9, _, _, at9, _, fl9, tb9, _⟩ := id fly
    have gone : wpAny (model X.prog X.w) X.A (setFlight (.ref a) X.env.frame) (fun _ u4 => wpAny (model X.prog X.w) X.A (throw (.ref a) : Sem Flow) (SP X pins D) X.xe u4) X.xe { u with heap := hq } := by
      rw [hfm]
      exact HandSPX.setFlight_upZ fly fun h9 held slots9 => wpAny_throw (tk _ _ ⟨a, B, gr, pins, st1, H1, cls, d, rfl, J, below, (slots.trans slots2).trans slots9, .inr (.inr (by rw [hst]; exact held)), un, os, bare, no rfl⟩)
    unfold PySem.passOn
    refine wpAny_bind (wpAny_field at9 fl9 tb9 ?_)
    rw [if_neg (by simp)]
    first
      | exact wpAny_bind (wpAny_pure (wpAny_bind gone))
      | exact wpAny_bind gone
  | true =>
    obtain ⟨C, dx, hC, hd, run⟩ := yes rfl
    refine codeAny_handlers_suite_as (HandSPX.lands_againZ fly fun h9 fly9 slots9 => ?_)
    have K9 : Inv X pins st1 H1 { u with heap := h9 } := J.landed below fly9.1 ((slots.trans slots2).trans slots9) os bare
    have T9 := (onTrack hC hd K9 (by obtain ⟨o9, v9, e9, z9, f9⟩ := fly9.there; exact ⟨o9, v9, e9, (zc _ _ _ z9), f9⟩)).into a
    refine store_ok (X := X.suite a (X.pn ++ pins)) (v := .ref a) T9 nd ix (.inl lc) rfl (fun u5 T5 => ?_) (.inr lc)
    refine wpAny_mono ((hsuite a C dx (X.pn ++ pins)).run [] u5 _ _ _ T5 (run a un)) (fun fl u6 ends => ?_) fun _ _ z => z.elim
    have leave : ∀ {st6 : St} {H6 : Hp} {Q : Shared → Prop}, Inv (X.suite a (X.pn ++ pins)) [] st6 H6 u6 → (∀ u7, Inv X pins (st6.set i none) H6 u7 → Q u7) →
        wpAny (model X.prog X.w) X.A (do bindName X.env n .none; unbindBehindTheSuite X.env n p2) (fun _ u7 => Q u7) X.xe u6 := fun T6 hq => gone_ok (T6.outOf allOk) nd ix lc hq
    cases fl with
    | ret r =>
      obtain ⟨v6, st6, H6, T6, r6, q6⟩ := ends
      exact leave T6 fun u7 K7 => ⟨_, _, _, K7, r6, q6⟩
    | next =>
      obtain ⟨st6, H6, T6, q6⟩ := ends
      exact leave T6 fun u7 K7 => ⟨_, _, K7, q6⟩
    | brk =>
      obtain ⟨st6, H6, T6, q6⟩ := ends
      exact leave T6 fun u7 K7 => ⟨_, _, K7, q6⟩
    | cont =>
      obtain ⟨st6, H6, T6, q6⟩ := ends
      exact leave T6 fun u7 K7 => ⟨_, _, K7, q6⟩
theorem ps_tryK (hst : X.stack = X.env :: X.outer) (hfm : X.env.frame = some X.env.locals) (hex : X.ex = []) (nd : X.N.Nodup) (ix : X.N[i]? = some n) (lc : X.env.kindOf n = some .local) (nm : Names X x c) (tk : DL.Takes X Wo)
    (hbody : ∀ (W : WX) (pn : List (Addr × Obj)) (xe : Value → Shared → Prop), DL.Takes (X.tr pn xe) W → PassesOwn (model X.prog X.w) X.A X.env xe → PSs (X.tr pn xe) body (tb W))
    (hsuite : ∀ (a C dx : Addr) (pn : List (Addr × Obj)), PSs (X.suite a pn) (first :: more) (ts a C dx)) :
    PS X (.Try body [.ExceptHandler (some (.Name x p1)) (some n) (first :: more) p2] [] [] p3) (fun D σ H => tb (wCatch X.K c i ts Wo D) D σ H) := by
  refine ⟨fun pins s σ H D I h => ?_⟩
  have allOk := I.ok
  refine wpAny_Try_except (wpAny_mono ((hbody (wCatch X.K c i ts Wo D) (X.pn ++ pins) (fun e u => wpAny (model X.prog X.w) X.A (noteFrame e X.env) (fun _ u2 => wpAny (model X.prog X.w) X.A (setFlight e none) (fun _ u3 =>
    wpAny (model X.prog X.w) X.A (handleBy e X.env [.ExceptHandler (some (.Name x p1)) (some n) (first :: more) p2]) (SP X pins D) X.xe u3) X.xe u2) X.xe u) ⟨fun e u caught => ?_, fun e u caught => ?_⟩ PassesOwn.looking).run [] s σ H D (I.toTry _) h) (fun fl u ends => ?_) fun _ _ q => q)
  · exact catchK (Z := L2N.Zn) (fun _ _ => L2N.Zn.steady) (fun _ _ _ z => z.zc) hst hfm hex nd ix lc nm tk.n hsuite allOk caught
  · obtain ⟨a, B, sI, pn1, st1, H1, cls, d, h1, h2, h3, h4, h5, h6, h7, h8, lo, b, tested, yes, no⟩ := caught
    exact catchK (Z := Zc) (Wo := DL.loosely X.mg Wo) (fun _ _ => zc_steady1) (fun _ _ _ z => z) hst hfm hex nd ix lc nm tk.c hsuite allOk ⟨a, B, sI, pn1, st1, H1, cls, d, h1, h2, h3, h4, h5, h6, h7, h8, b, tested, yes, fun z => ⟨lo, no z⟩⟩
  · cases fl with
    | ret r =>
      obtain ⟨v6, st6, H6, T6, r6, q6⟩ := ends
      exact ⟨v6, st6, H6, T6.ofTry allOk, r6, q6⟩
    | next =>
      obtain ⟨st6, H6, T6, q6⟩ := ends
      exact wpAny_execs_nil ⟨st6, H6, T6.ofTry allOk, q6⟩
    | brk =>
      obtain ⟨st6, H6, T6, q6⟩ := ends
      exact ⟨st6, H6, T6.ofTry allOk, q6⟩
    | cont =>
      obtain ⟨st6, H6, T6, q6⟩ := ends
      exact ⟨st6, H6, T6.ofTry allOk, q6⟩
end
end L2
namespace L2
open PySem PySem.Spec
open PyProof.Rows hiding St
/-- x.f, x a tracked error -/
def tXfK (K : PySem.W.Frag) (f : Str) (te : TE) : TE := fun σ H Q => te σ H fun x H1 => ∃ (a C dx : Addr) (fs : List (Str × V)) (v : V), x = .ref a ∧ H1 a = some (excO a C dx) ∧ (XfC K C ∧ PySem.W.findIn K (.ref C) f = some none) ∧ H1 dx = some (.xd fs) ∧ fs.lookup f = some v ∧ Q v H1
theorem pe_xfK {X : Cx} {e : Expr} {te : TE} {pos : Pos} {n : Str} (he : PE X e te) (hb : attributeBase e n X.env (eval e X.env) = eval e X.env := by rfl) : PE X (.Attribute e n pos) (tXfK X.K n te) := by
  refine ⟨fun pins s σ H Q I h => attr_of hb (thn (he.run pins s σ H _ I h) fun u s1 hh => ?_)⟩
  obtain ⟨x, H1, I1, rx, a, C, dx, fs, v, rfl, ea, ⟨T, own⟩, ed, l, q⟩ := hh
  cases rx
  obtain ⟨⟨ob, e1, z, vs, f⟩, _⟩ := (show ObjOk X.prog X.w H1 s1.heap a (excO a C dx) from I1.hok a _ ea)
  obtain ⟨mA, ns, look⟩ := (show ObjOk X.prog X.w H1 s1.heap dx (.xd fs) from I1.hok dx _ ed)
  obtain ⟨od, at_, has⟩ := lookIn_ns ns
  obtain ⟨w, hw, rw'⟩ := RelO.some_of (v := v) (o := mA n) (l ▸ look n)
  have J : PySem.W.InstAt s1.heap a ob C (some od) := ⟨e1, z.1, by unfold PySem.W.notCls; rw [f] <;> rfl, by rw [z.2]; exact at_⟩
  refine HandSPX.exc_get I1.kIn J T.ga T.gg T.exC (PySem.W.findObj_own T.hdC own rfl ?_) (handed_of rw') ⟨v, H1, I1.tok _, rw', q⟩
  rw [has, hw]
end L2
namespace DL
open PySem PySem.Spec L2
open PyProof.Rows hiding St
/-! ### try: .. except C as n: .. -/
def tryEx (i : Nat) (tab : Addr → Bool → Prop) (ws : DS) (De : DEnds) : Addr → List (Str × DV) → Dv → Gh → Prop := fun C fs env' G' => ∃ b, tab C b ∧
  (b = true → ∀ a d : Addr, ws { nx := fun e g => De.nx (e.set i none) g, rt := De.rt, bk := fun e g => De.bk (e.set i none) g, ct := fun e g => De.ct (e.set i none) g } (env'.set i (some (.exc a d C (fs.map Prod.fst) (fs.map Prod.snd)))) G') ∧
  (b = false → De.ex C fs env' G')
def wTryAs (i : Nat) (tab : Addr → Bool → Prop) (wb : DS) (ws : DS) : DS := fun De env G => wb { De with ex := tryEx i tab ws De } env G
section
variable {X : Cx} {W : WX} {x n : Str} {c : Value} {i : Nat} {body suite : List Stmt} {b₀ : Stmt} {np pos pos' : Pos} {wb ws : DS} {tab : Addr → Bool → Prop}
theorem qs_tryAs (i : Nat) (hs : X.stack = X.env :: X.outer) (hf : X.env.frame = some X.env.locals) (hx : X.ex = []) (hN : X.N.Nodup) (hi : X.N[i]? = some n) (hln : X.env.kindOf n = some .local) (hc : Names X x c) (hT : ∀ C b, tab C b → PySem.W.exmOne X.K (.ref C) c = some b) (tk : Takes X W)
    (hb : ∀ (W : WX) (pn : List (Addr × Obj)) (xe : Value → Shared → Prop), Takes (X.tr pn xe) W → PassesOwn (model X.prog X.w) X.A X.env xe → QSs (X.tr pn xe) W body wb)
    (hsu : ∀ (a : Addr) (pn : List (Addr × Obj)), QSs (X.suite a pn) W0 (b₀ :: suite) ws) :
    QS X W (.Try body [.ExceptHandler (some (.Name x np)) (some n) (b₀ :: suite) pos'] [] [] pos) (wTryAs i tab wb ws) := by
  refine ⟨PS.wk (ps_tryK (tb := fun W => TSl X.K W wb) (ts := fun _ _ _ => TSl X.K W0 ws) hs hf hx hN hi hln hc tk (fun W pn xe t p => (hb W pn xe t p).pss) (fun a _ _ pn => (hsu a pn).pss)) ?_⟩
  rintro D σ H ⟨env, G, De, er, wg, h, le⟩
  refine ⟨env, G, _, er, wg, h, le.nx, le.bk, le.ct, le.rt, ?_⟩
  intro C fs env' G' σ' d xs H' hx e f er' wg' x'
  obtain ⟨b, hb, h1, h2⟩ := hx
  refine ⟨b, hT C b hb, fun hbt => ⟨C, d, rfl, rfl, fun a ha => ?_⟩, fun hbf => le.ex C fs env' G' σ' d xs H' (h2 hbf) e f er' wg' x'⟩
  obtain ⟨vs, hxs, rvs⟩ := f.parts
  have x2 : Ext G' H' G' (upd H' a (excO a C d)) := Ext.new ha
  have rv : VR X.K (upd H' a (excO a C d)) (.ref a) (.exc a d C (fs.map Prod.fst) (fs.map Prod.snd)) := .exc upd_same (by rw [upd_ne (ne_of_none e ha), ← hxs]; exact e) (rvs.ext wg' x2)
  refine ⟨_, G', _, (er'.ext wg' x2).set rv i, wg'.new ha, h1 hbt a d, ?_⟩
  have x3 := x'.trans x2
  refine ⟨fun e2 g2 σ2 H2 p er2 wg2 x4 => ?_, fun e2 g2 σ2 H2 p er2 wg2 x4 => ?_, fun e2 g2 σ2 H2 p er2 wg2 x4 => ?_, fun d2 g2 v2 H2 p r2 wg2 x4 => ?_, fun _ _ _ _ _ _ _ _ z => z.elim⟩
  · exact le.nx _ _ _ _ p (er2.setNone i none) wg2 (x3.trans x4)
  · exact le.bk _ _ _ _ p (er2.setNone i none) wg2 (x3.trans x4)
  · exact le.ct _ _ _ _ p (er2.setNone i none) wg2 (x3.trans x4)
  · exact le.rt _ _ _ _ p r2 wg2 (x3.trans x4)
end
/-! ### what is asked of an error -/
section
variable {X : Cx} {W : WX} {e : Expr} {we : DE} {pos p px : Pos} {n : Str}
/-- e.n -/
def xfK (tab : Addr → Prop) (n : Str) (Q : DV → Gh → Prop) (x : DV) (G1 : Gh) : Prop := match x with
  | .exc _ _ C ks ds => tab C ∧ ∃ v, (ks.zip ds).lookup n = some v ∧ Q v G1
  | _ => False
def wXf (tab : Addr → Prop) (n : Str) (we : DE) : DE := fun Y env G Q => we Y env G (xfK tab n Q)
theorem FR.look {K : PySem.W.Frag} {H : Hp} {n : Str} : ∀ {xs : List (Str × V)} {ys : List (Str × DV)} {v : DV}, FR K H xs ys → ys.lookup n = some v → ∃ u, xs.lookup n = some u ∧ VR K H u v
  | _, _, _, .nil, h => by cases h
  | _, _, _, .cons (k := k) r t, h => by
    rw [List.lookup_cons] at h ⊢
    cases hk : n == k
    · rw [hk] at h; exact t.look h
    · rw [hk] at h; cases h; exact ⟨_, rfl, r⟩
theorem q_xf {tab : Addr → Prop} (hT : ∀ C, tab C → XfC X.K C ∧ PySem.W.findIn X.K (.ref C) n = some none) (he : QE X W e we)
    (hat : attributeBase e n X.env (eval e X.env) = eval e X.env := by rfl) : QE X W (.Attribute e n pos) (wXf tab n we) := by
  refine ⟨PE.wk (pe_xfK he.pe hat) ?_⟩
  rintro σ H Q ⟨Y, env, G, P, er, wg, h, k, kx⟩
  refine ⟨Y, env, G, _, er, wg, h, fun x G1 v H1 h1 w1 x1 r1 => ?_, kx⟩
  cases x <;> first | exact h1.elim | skip
  obtain ⟨ht, v', hv, q⟩ := h1
  cases r1 with
  | exc ho hx rs =>
    obtain ⟨u, hu, ru⟩ := (FR.zip rs).look hv
    exact ⟨_, _, _, _, u, rfl, ho, hT _ ht, hx, hu, k _ _ _ _ q w1 x1 ru⟩
/-- isinstance(e, C), isinstance(e, (C, ..)) -/
def dIsE (tab : Addr → DV → Bool → Prop) : DC := fun ds G Q => match ds with
  | [.exc _ _ C _ _, c] => ∃ b, tab C c b ∧ Q (.bl b) G
  | _ => False
/-- what the second argument means -/
inductive ClsD (K : PySem.W.Frag) : DV → Value → Prop
  | own (u : Addr) : ClsD K (.ref u) (.ref u)
  | ty (n : String) : ClsD K (.ty n) (.type n)
inductive IsTab (K : PySem.W.Frag) (C : Addr) : DV → Bool → Prop
  | one {c : DV} {u : Value} {b : Bool} : ClsD K c u → PySem.W.kitOne K (.ref C) u = some b → IsTab K C c b
  | tup {cs : List DV} {us : List Value} {b : Bool} : Paired (ClsD K) cs us → PySem.W.kitAny K (.ref C) us = some b → IsTab K C (.tup cs) b
theorem vals_cls {K : PySem.W.Frag} {H : Hp} : ∀ {cs : List DV} {us : List Value} {xs : List V} {its : List Value}, Paired (ClsD K) cs us → VRs K H xs cs → Vals xs its → its = us
  | _, _, _, _, .nil, .nil, .nil => rfl
  | _, _, _, _, .cons (.own u) p, .cons (.ref _) r, .cons rv v => by rw [vals_cls p r v]; cases rv; rfl
  | _, _, _, _, .cons (.ty n) p, .cons (.ty _) r, .cons rv v => by rw [vals_cls p r v]; cases rv; rfl
theorem c_isE {tab : Addr → DV → Bool → Prop} (hT : ∀ C c b, tab C c b → ExcC X.K C ∧ IsTab X.K C c b) : CallD X (.builtin "isinstance") (dIsE tab) := by
  rintro pins s σ H xs us Q I rs ⟨ds, G, P, vs, wg, h, k⟩
  match ds, vs, h, rs with
  | [.exc a d C ks l, c], .cons (.exc ho hx r) (.cons rc .nil), ⟨b, hb, q⟩, .cons ra (.cons rv .nil) =>
    cases ra
    obtain ⟨EC, tb⟩ := hT C c b hb
    obtain ⟨⟨oe, p1, ⟨z1, z2⟩, fv, hf⟩, _⟩ := (show ObjOk X.prog X.w H s.heap a (excO a C d) from I.hok a _ ho)
    obtain ⟨mA, hns, _⟩ := (show ObjOk X.prog X.w H s.heap d (.xd (ks.zip _)) from I.hok d _ hx)
    obtain ⟨od, es, ep, hod, _⟩ := hns
    have KX := PySem.W.handS_kitx_excX (x := a) (ox := oe) (od := od) EC.hg EC.hk EC.hs EC.hd EC.ha EC.hn EC.ht EC.hm
    have IA : PySem.W.InstAt s.heap a oe C (some od) := ⟨p1, z1, by unfold PySem.W.notCls; rw [hf], by rw [z2]; exact hod⟩
    have fin : ∀ tk : Nat, EP X pins σ Q (.bool b) { s with toks := tk } := fun tk => ⟨.bl b, H, I.tok tk, rfl, k _ _ _ _ q wg Ext.refl (.bl b)⟩
    cases tb with
    | one hc hk =>
      cases hc with
      | own u =>
        cases rc
        cases rv
        exact PySem.W.kia_one KX I.kIn IA hk (fun h => nomatch h) fin
      | ty n =>
        cases rc
        cases rv
        exact PySem.W.kia_one KX I.kIn IA hk (fun h => nomatch h) fin
    | tup hc hk =>
      cases rc with
      | tup sq rr =>
        cases rv
        obtain ⟨its, rvs, hT, _⟩ := I.tuple (SqT.of sq)
        obtain ⟨o, e, e1, n, e2⟩ := hT
        obtain ⟨oc, od', dat, sl⟩ := o
        have e1 : oc = _ := e1
        have e2 : dat = _ := e2
        subst e1 e2
        have hi := vals_cls hc rr rvs
        subst hi
        exact PySem.W.kia_tup KX I.kIn IA e hk (fun h => nomatch h) fin
end
/-! ### the program's own errors, as the texts of the laws name them -/
section
variable [Cls]
/-- all are classes over DropError, over ValueError -/
def subB (x t : Str) : Bool := x == t || t == "DropError" || t == "ValueError"
def clsU (t : Str) : Value := if t = "ValueError" then .type "ValueError" else .ref (Cls.adr t)
def clsV (t : Str) : DV := if t = "ValueError" then .ty "ValueError" else .ref (Cls.adr t)
abbrev ERow := Str × List Str
structure Errs (P : Program) (w : World) (K : PySem.W.Frag) (mg : Str → Option Value) (base : Heap) (rows : List ERow) (T : List Str) : Prop where
  err : ∀ r ∈ rows, ErrAt P w K mg base r.1 (Cls.adr r.1) r.2
  exc : ∀ r ∈ rows, ExcC K (Cls.adr r.1) ∧ XfC K (Cls.adr r.1)
  fld : ∀ r ∈ rows, ∀ f ∈ r.2, PySem.W.findIn K (.ref (Cls.adr r.1)) f = some none
  one : ∀ r ∈ rows, ∀ t ∈ T, PySem.W.kitOne K (.ref (Cls.adr r.1)) (clsU t) = some (subB r.1 t) ∧ PySem.W.exmOne K (.ref (Cls.adr r.1)) (clsU t) = some (subB r.1 t)
  glob : ∀ t ∈ T, t ≠ "ValueError" → mg t = some (.ref (Cls.adr t))
def tabX (rows : List ERow) (hn : Str) : Addr → Bool → Prop := fun C b => ∃ r ∈ rows, C = Cls.adr r.1 ∧ b = subB r.1 hn
def tabE (rows : List ERow) (f : Str) : Addr → Prop := fun C => ∃ r ∈ rows, C = Cls.adr r.1 ∧ f ∈ r.2
def tabI (rows : List ERow) (T : List Str) : Addr → DV → Bool → Prop := fun C c b => ∃ r ∈ rows, C = Cls.adr r.1 ∧ ((∃ t ∈ T, c = clsV t ∧ b = subB r.1 t) ∨ ∃ ts : List Str, (∀ t ∈ ts, t ∈ T) ∧ c = .tup (ts.map clsV) ∧ b = ts.any (subB r.1))
theorem clsD_of {K : PySem.W.Frag} (t : Str) : ClsD K (clsV t) (clsU t) := by
  unfold clsV clsU
  split
  · exact .ty _
  · exact .own _
section
variable {P : Program} {w : World} {K : PySem.W.Frag} {mg : Str → Option Value} {base : Heap} {rows : List ERow} {T : List Str}
theorem Errs.at (E : Errs P w K mg base rows T) (x : Str) (fs : List Str) (h : (x, fs) ∈ rows) : ErrAt P w K mg base x (Cls.adr x) fs := E.err (x, fs) h
theorem Errs.x (E : Errs P w K mg base rows T) (hn : Str) (h : hn ∈ T) (hv : hn ≠ "ValueError") : ∀ C b, tabX rows hn C b → PySem.W.exmOne K (.ref C) (.ref (Cls.adr hn)) = some b := by
  rintro C b ⟨r, hr, rfl, rfl⟩
  have := (E.one r hr hn h).2
  unfold clsU at this
  rw [if_neg hv] at this
  exact this
theorem Errs.e (E : Errs P w K mg base rows T) (f : Str) : ∀ C, tabE rows f C → XfC K C ∧ PySem.W.findIn K (.ref C) f = some none := by
  rintro C ⟨r, hr, rfl, hf⟩
  exact ⟨(E.exc r hr).2, E.fld r hr f hf⟩
theorem kitAny_all {C : Addr} {b : Str → Bool} : ∀ {ts : List Str}, (∀ t ∈ ts, PySem.W.kitOne K (.ref C) (clsU t) = some (b t)) → PySem.W.kitAny K (.ref C) (ts.map clsU) = some (ts.any b)
  | [], _ => by rw [List.map_nil, PySem.W.kitAny.eq_1]; rfl
  | t :: ts, h => by
    rw [List.map_cons, PySem.W.kitAny.eq_2, h t (List.mem_cons_self ..), List.any_cons]
    cases b t
    · rw [Bool.false_or]; exact kitAny_all fun t ht => h t (List.mem_cons_of_mem _ ht)
    · rw [Bool.true_or]
theorem Errs.i (E : Errs P w K mg base rows T) : ∀ C c b, tabI rows T C c b → ExcC K C ∧ IsTab K C c b := by
  rintro C c b ⟨r, hr, rfl, h⟩
  refine ⟨(E.exc r hr).1, ?_⟩
  rcases h with ⟨t, ht, rfl, rfl⟩ | ⟨ts, hts, rfl, rfl⟩
  · exact .one (clsD_of t) (E.one r hr t ht).1
  · refine .tup (us := ts.map clsU) ?_ (kitAny_all fun t ht => (E.one r hr t (hts t ht)).1)
    clear hts
    induction ts with
    | nil => exact .nil
    | cons t ts ih => exact .cons (clsD_of t) ih
theorem Errs.g (E : Errs P w K mg base rows T) (t : Str) (h : t ∈ T) (hv : t ≠ "ValueError") : mg t = some (.ref (Cls.adr t)) := E.glob t h hv
end
end
/-- a def within a class -/
def inCls (s : Stmt) (j : Nat) : Stmt := match s with
  | .ClassDef _ _ _ body _ _ _ _ _ _ _ => body.getD j (.Pass ⟨0, 0, 0, 0⟩)
  | s => s
section
variable {D : DEnds} {env : Dv} {G : Gh} {C : Addr} {fs : List Str} {wr : DA}
theorem s_raise (q : wr (fun C fs G' => D.ex C fs env G') env G fun ds G1 => ds.length = fs.length ∧ D.ex C (fs.zip ds).reverse env G1) : wRaise C fs wr D env G := q
end
section
variable [Cls] {De : DEnds} {env : Dv} {G : Gh} {Y : DX} {i : Nat} {tab : Addr → Bool → Prop} {wb ws : DS} {rows : List ERow} {T : List Str} {a d : Addr} {ks : List Str} {l : List DV} {Q : DV → Gh → Prop}
theorem s_try (q : wb { De with ex := tryEx i tab ws De } env G) : wTryAs i tab wb ws De env G := q
theorem s_caught {x hn : Str} {fs : List Str} {vs : List (Str × DV)} (hr : (x, fs) ∈ rows) (hb : subB x hn = true)
    (q : ∀ a d : Addr, ws { nx := fun e g => De.nx (e.set i none) g, rt := De.rt, bk := fun e g => De.bk (e.set i none) g, ct := fun e g => De.ct (e.set i none) g } (env.set i (some (.exc a d (Cls.adr x) (vs.map Prod.fst) (vs.map Prod.snd)))) G) :
    tryEx i (tabX rows hn) ws De (Cls.adr x) vs env G := ⟨true, ⟨(x, fs), hr, rfl, hb.symm⟩, fun _ => q, fun h => nomatch h⟩
theorem s_isE1 {x t : Str} {fs : List Str} {c : DV} (hr : (x, fs) ∈ rows) (ht : t ∈ T) (hc : c = clsV t) (q : Q (.bl (subB x t)) G) : dIsE (tabI rows T) [.exc a d (Cls.adr x) ks l, c] G Q :=
  ⟨_, ⟨(x, fs), hr, rfl, .inl ⟨t, ht, hc, rfl⟩⟩, q⟩
theorem s_isET {x : Str} {fs : List Str} {cs : List DV} (ts : List Str) (hr : (x, fs) ∈ rows) (ht : ∀ t ∈ ts, t ∈ T) (hc : cs = ts.map clsV) (q : Q (.bl (ts.any (subB x))) G) : dIsE (tabI rows T) [.exc a d (Cls.adr x) ks l, .tup cs] G Q :=
  ⟨_, ⟨(x, fs), hr, rfl, .inr ⟨ts, ht, by rw [hc], rfl⟩⟩, q⟩
theorem clsV_own {t : Str} (h : (t == "ValueError") = false) : clsV t = .ref (Cls.adr t) := by
  unfold clsV
  rw [if_neg (by simpa using h)]
theorem s_xf {n : Str} {we : DE} (q : we Y env G (xfK (tabE rows n) n Q)) : wXf (tabE rows n) n we Y env G Q := q
theorem s_xfK {x n : Str} {fs : List Str} {v : DV} (hr : (x, fs) ∈ rows) (hn : n ∈ fs) (hv : (ks.zip l).lookup n = some v) (q : Q v G) : xfK (tabE rows n) n Q (.exc a d (Cls.adr x) ks l) G := ⟨⟨(x, fs), hr, rfl, hn⟩, v, hv, q⟩
end
theorem q_cls {X : Cx} {W : WX} {x : Str} {C : Addr} {pos : Pos} (hm : X.mg x = some (.ref C)) (hg : Gl X x := by rfl) (hd : (x == ("__debug__" : Str)) = false := by decide) : QE X W (.Name x pos) (wC (.ref C)) :=
  q_glob (v := .ref C) hm rfl (fun _ => .ref _) hg hd
section
variable {K : PySem.W.Frag} {x c : Addr} {b : Bool}
theorem kitc_own (hc : PySem.W.isClsIn K c = true) (tc : PySem.W.typeIn K (.ref c) = some (.type "type")) (hs : PySem.W.subIn K (.ref x) (.ref c) = some b) : PySem.W.kitCls K (.ref x) (.ref c) = some b := by
  have e2 : ((PySem.W.clsIn K c).isSome && PySem.W.typeIn K (.ref c) == some (.type "type")) = true := by
    have h2' : (PySem.W.clsIn K c).isSome = true := hc
    rw [h2', tc] <;> rfl
  show (if ((PySem.W.clsIn K c).isSome && PySem.W.typeIn K (.ref c) == some (.type "type")) = true then PySem.W.subIn K (.ref x) (.ref c) else none) = some b
  rw [if_pos e2]
  exact hs
theorem kit_own (hc : PySem.W.isClsIn K c = true) (tc : PySem.W.typeIn K (.ref c) = some (.type "type")) (hx : PySem.W.subIn K (.ref x) (.ref x) = some true) (hs : PySem.W.subIn K (.ref x) (.ref c) = some b) : PySem.W.kitOne K (.ref x) (.ref c) = some b := by
  unfold PySem.W.kitOne
  split
  · rename_i h
    have e : x = c := by
      have := of_decide_eq_true h
      cases this; rfl
    subst e
    rw [hx] at hs
    exact hs
  · exact kitc_own hc tc hs
theorem exm_own (hc : PySem.W.isClsIn K c = true) (tc : PySem.W.typeIn K (.ref c) = some (.type "type")) (bc : PySem.W.subIn K (.ref c) (.type "BaseException") = some true) (hs : PySem.W.subIn K (.ref x) (.ref c) = some b) : PySem.W.exmOne K (.ref x) (.ref c) = some b := by
  have e1 : (PySem.W.subIn K (.ref c) (.type "BaseException") == some true) = true := by rw [bc] <;> rfl
  show (if (PySem.W.subIn K (.ref c) (.type "BaseException") == some true) = true then PySem.W.kitCls K (.ref x) (.ref c) else none) = some b
  rw [if_pos e1]
  exact kitc_own hc tc hs
theorem kit_ve (hs : PySem.W.subIn K (.ref x) (.type "ValueError") = some true) : PySem.W.kitOne K (.ref x) (.type "ValueError") = some true := by
  unfold PySem.W.kitOne
  split
  · rfl
  · show (if PySem.W.kitMeta "ValueError" = true then PySem.W.subIn K (.ref x) (.type "ValueError") else none) = some true
    rw [if_pos (by decide +kernel)]
    exact hs
theorem exm_ve (hs : PySem.W.subIn K (.ref x) (.type "ValueError") = some true) : PySem.W.exmOne K (.ref x) (.type "ValueError") = some true := by
  show (if (PySem.W.subIn K (.type "ValueError") (.type "BaseException") == some true) = true then (if PySem.W.kitMeta "ValueError" = true then PySem.W.subIn K (.ref x) (.type "ValueError") else none) else none) = some true
  have e : (PySem.W.subIn K (.type "ValueError") (.type "BaseException") == some true) = true := by
    show ((fastBuiltinMro "ValueError").map (fun z => z.contains (.type "BaseException")) == some true) = true
    decide +kernel
  rw [if_pos e, if_pos (by decide +kernel)]
  exact hs
end
end DL

namespace PySem
def idxBody (items : Array Value) (x : Value) : Nat → Option Fin × Unit → Sem (ForInStep (Option Fin × Unit)) := fun i __s =>
  match items[i]? with
  | some y => do
    let b ← eqBool y x
    if b = true then do
      let r ← retInt ↑i
      pure (ForInStep.done (some r, ()))
    else pure (ForInStep.yield (none, ()))
  | _ => pure (ForInStep.yield (none, ()))
theorem idx_loop {prog : Program} {w : World} {A : Around} {E : Value → Shared → Prop} {s : Shared} {items : Array Value} {x : Value} {e : Value → Bool} {j : Nat} {Q : Option Fin × Unit → Shared → Prop} (he : ∀ y ∈ items, SeqAt.EqAt A s y x (e y)) (hj : j < items.size) (h1 : e items[j] = true) (h0 : ∀ (m : Nat) (hm : m < items.size), m < j → e items[m] = false)
    (q : Q (some (.done (.ret (.int (j : Nat) s.toks))), ()) { s with toks := s.toks + 1 }) : ∀ (k i len : Nat), i + k = j → j < i + len → wpAny (model prog w) A (forIn (List.range' i len 1) ((none : Option Fin), ()) (idxBody items x)) Q E s
  | k, i, 0, hk, hl => absurd hl (by omega)
  | 0, i, len + 1, hk, hl => by
    have : i = j := by omega
    subst this
    rw [List.range'_succ, List.forIn_cons]
    refine wpAny_bind ?_
    unfold idxBody
    rw [Array.getElem?_eq_getElem hj]
    refine wpAny_bind (he _ (Array.getElem_mem hj) prog w E _ ?_)
    rw [h1, if_pos rfl]
    unfold retInt
    refine wpAny_bind (wpAny_bind (wpAny_mkInt (wpAny_pure ?_)))
    refine wpAny_pure ?_
    exact wpAny_pure q
  | k + 1, i, len + 1, hk, hl => by
    have hi : i < items.size := by omega
    rw [List.range'_succ, List.forIn_cons]
    refine wpAny_bind ?_
    unfold idxBody
    rw [Array.getElem?_eq_getElem hi]
    refine wpAny_bind (he _ (Array.getElem_mem hi) prog w E _ ?_)
    rw [h0 i hi (by omega), if_neg Bool.false_ne_true]
    refine wpAny_pure ?_
    exact idx_loop he hj h1 h0 q k (i + 1) len (by omega) (by omega)
theorem tuple_indexAt (tp : Addr) (items : Array Value) (x : Value) (e : Value → Bool) (j : Nat) (hj : j < items.size) (h1 : e items[j] = true) (h0 : ∀ (m : Nat) (hm : m < items.size), m < j → e items[m] = false) :
    Meets (Builtin.«tuple.index» { pos := [Value.ref tp, x] }) fun A R s => s.heap.IsTuple tp items ∧ (∀ y ∈ items, SeqAt.EqAt A.in1 s y x (e y)) ∧
      R (Except.ok (Flow.ret (Value.int (↑j) s.toks))) { s with toks := s.toks + 1 } := by
  rintro prog w A R s ⟨ht, he, q⟩
  unfold Builtin.«tuple.index»
  refine wpAny_bind (wpAny_of_eq (a := (Value.ref tp, [x])) rfl ?_)
  obtain ⟨o, ho, _, n, hd⟩ := ht
  refine wpAny_bind (wpAny_tupleItemsOf ho hd ?_)
  show wpAny _ _ (_ >>= _) _ _ _
  refine wpAny_bind (wpAny_pure ?_)
  show wpAny _ _ (_ >>= _) _ _ _
  refine wpAny_bind (wpAny_pure ?_)
  refine wpAny_bind ?_
  rw [Std.Legacy.Range.forIn_eq_forIn_range']
  have hs : Std.Legacy.Range.size [0:min items.size items.size] = items.size := by simp [Std.Legacy.Range.size]
  rw [hs]
  refine idx_loop he hj h1 h0 ?_ j 0 items.size (by omega) (by omega)
  exact wpAny_pure q
end PySem
namespace DL
open PySem PySem.Spec L2
open PyProof.Rows hiding St
/-! ### tuple.index of texts -/
def dIndexT : DM := fun x ds G Q => match x, ds with
  | .tup l, [.str k] => ∃ (ns : List Str) (j : Nat), l = ns.map DV.str ∧ ns[j]? = some k ∧ (∀ m : Nat, m < j → ns[m]? ≠ some k) ∧ Q (.int (j : Nat)) G
  | _, _ => False
theorem m_indexT {X : Cx} : MtD X "tuple.index" dIndexT := by
  rintro pins s σ H x xs v us Q I rx rs ⟨dx, ds, G, P, vx, vs, wg, h, k⟩
  match dx, ds, vx, vs, h with
  | .tup l, [.str i], .tup sq rr, .cons (.str _) .nil, ⟨ns, j, hl, hj, hm, h⟩ =>
    subst hl
    have e := rr.ofStrs
    subst e
    cases rx
    cases rs with
    | cons rv rn =>
      cases rn
      obtain ⟨tk, rfl⟩ := (show ∃ t, _ = Value.str i t from rv)
      obtain ⟨its, rvs, hT, hz⟩ := I.tuple (SqT.of sq)
      have hlen := rvs.length
      have hjn : j < ns.length := (List.getElem?_eq_some_iff.mp hj).1
      have hji : j < its.length := by rw [← hlen, List.length_map]; exact hjn
      have val : ∀ m (hm : m < its.length), eqU (.str i) its[m] = decide (ns[m]? = some i) := fun m hm => by
        have hmn : m < ns.length := by rw [← hlen, List.length_map] at hm; exact hm
        have e1 : (ns.map V.str)[m]? = some (.str ns[m]) := by rw [List.getElem?_map, List.getElem?_eq_getElem hmn]; rfl
        obtain ⟨u, hu, ru⟩ := rvs.get e1
        have e2 : its[m] = u := by
          have := List.getElem?_eq_getElem hm
          rw [this] at hu; exact Option.some.inj hu
        rw [e2, eqU_of ru rfl, List.getElem?_eq_getElem hmn]
        show (ns[m] == i) = decide (some ns[m] = some i)
        rw [Bool.eq_iff_iff, beq_iff_eq, decide_eq_true_iff, Option.some.injEq]
      refine call_meets F.slot_tuple_index (by obtain ⟨o, ho, hc, _⟩ := hT; exact ⟨o, ho, hc⟩) F.entry_tuple_index (F.args_tuple_index_2 _ _) (tuple_indexAt _ its.toArray (.str i tk) (eqU (.str i)) j (by simpa using hji) ?_ ?_) ⟨hT, ?_, ?_⟩
      · rw [List.getElem_toArray, val j hji, decide_eq_true_iff]; exact hj
      · intro m hm1 hm2
        rw [List.getElem_toArray, val m (by simpa using hm1), decide_eq_false_iff_not]
        exact hm m hm2
      · intro y hy
        exact mem_eqAt (x := .str i) (v := .str i tk) ⟨tk, rfl⟩ rfl rvs (by rw [List.all_map, List.all_eq_true]; intro z _; rfl) y (by simpa using hy)
      · exact ⟨.int (j : Nat), H, I.tok _, ⟨_, rfl⟩, k _ _ _ _ h wg Ext.refl (.int _)⟩
end DL

/-! ### d.get(k, default) -/
namespace L2
open PySem PySem.Spec
open PyProof.Rows hiding St
theorem key_is {k : Key} {u : Value} (r : RelV (kV k) u) : keyIs k u = true := by
  cases k with
  | inl i => obtain ⟨t, rfl⟩ := (show ∃ t, u = Value.int i t from r); simp [keyIs, Value.isInt, Value.isStrOf]
  | inr x => obtain ⟨t, rfl⟩ := (show ∃ t, u = Value.str x t from r); simp [keyIs, Value.isInt, Value.isStrOf]
theorem mt_dget {X : Cx} : MtR X "dict.get" (fun x xs H Q => ∃ (a : Addr) (kvs : List (Key × V)) (k : Key) (y : V), x = .ref a ∧ xs = [kV k, y] ∧ H a = some (.dK kvs) ∧ Q ((valV kvs k).getD y) H) := by
  intro pins s σ H x xs v us Q I rx rs h
  obtain ⟨a, kvs, k, y, rfl, rfl, ea, q⟩ := h
  cases rx
  match us, rs with
  | [uk, uy], .cons rk (.cons ry .nil) =>
    obtain ⟨z, hd, vs, rel, dd⟩ := dk_of I.hok ea
    refine call_meetsIn PySem.F.slot_dict_get dd.typeIs PySem.F.entry_dict_get (PySem.F.args_dict_get_3 _ _ _) (meets_dict_get_default (mixKind X.prog X.w) (k := k) a (key_is rk) hd uy)
      ⟨_, dd.mapOf, _, H, I.tok _, ?_, q⟩
    have r := rel.val k
    cases h1 : valV kvs k with
    | none =>
      rw [h1] at r
      cases h2 : valueAt vs k with
      | none => exact ry
      | some w => rw [h2] at r; exact r.elim
    | some w =>
      rw [h1] at r
      cases h2 : valueAt vs k with
      | none => rw [h2] at r; exact r.elim
      | some u => rw [h2] at r; exact r
end L2
namespace DL
open PySem PySem.Spec L2
open PyProof.Rows hiding St
def dGet : DM := fun x ds G Q => match x, ds with
  | .ref a, [y, d] => ∃ kvs k, G a = some (.dic kvs) ∧ keyD y = some k ∧ Q ((valD kvs k).getD d) G
  | _, _ => False
theorem KR.none {K : PySem.W.Frag} {H : Hp} {κ : Type} [DecidableEq κ] {k : κ} {xs : List (κ × V)} {ys : List (κ × DV)} (r : KR K H xs ys) (h : valD ys k = .none) : valV xs k = .none := by
  have := r.isSome (k := k)
  rw [h] at this
  cases e : valV xs k with
  | none => rfl
  | some v => rw [e] at this; cases this
theorem m_get {X : Cx} : MtD X "dict.get" dGet := by
  rintro pins s σ H x xs v us Q I rx rs ⟨dx, ds, G, P, vx, vs, wg, h, k⟩
  match dx, ds, vx, vs, h with
  | .ref a, [y, d], .ref _, .cons vy (.cons vd .nil), ⟨kvs, kk, ga, hk, h⟩ =>
    obtain ⟨ws, ha, kr⟩ := wg _ _ ga
    have ey := vy.key hk
    subst ey
    cases hv : valD kvs kk with
    | none =>
      rw [hv] at h
      exact mt_dget pins s σ H _ _ v us Q I rx rs ⟨a, ws, kk, _, rfl, rfl, ha, by rw [kr.none hv]; exact k _ _ _ _ h wg Ext.refl vd⟩
    | some z =>
      rw [hv] at h
      obtain ⟨w, hw, rw'⟩ := kr.val hv
      exact mt_dget pins s σ H _ _ v us Q I rx rs ⟨a, ws, kk, _, rfl, rfl, ha, by rw [hw]; exact k _ _ _ _ h wg Ext.refl rw'⟩
theorem x_get {e : Addr} {kvs : List (Key × DV)} {y d : DV} {k : Key} {G : Gh} {Q : DV → Gh → Prop} (he : G e = some (.dic kvs)) (hk : keyD y = some k) (q : Q ((valD kvs k).getD d) G) : dGet (.ref e) [y, d] G Q := ⟨kvs, k, he, hk, q⟩
/-! ### dict(d) -/
def dDictC : DC := fun ds G Q => match ds with
  | [.ref a] => ∃ kvs, G a = some (.dic kvs) ∧ ∀ p, G p = none → Q (.ref p) (gup G p (.dic kvs))
  | _ => False
theorem c_dict {X : Cx} : CallD X (.type "dict") dDictC := by
  rintro pins s σ H xs us Q I rs ⟨ds, G, P, vs, wg, h, k⟩
  match ds, vs, h with
  | [.ref a], .cons (.ref _) .nil, ⟨kvs, ga, h⟩ =>
    obtain ⟨ws, ha, kr⟩ := wg _ _ ga
    exact call_dictD pins s σ H _ us Q I rs ⟨a, ws, rfl, .inl ha, fun p np => k _ _ _ _ (h p (wg.non np)) (wg.put (.inl np) ⟨_, upd_same, kr.ext wg (Put.ext (.inl np) (c := .dic kvs))⟩) (Ext.newC np) (.ref p)⟩
theorem x_dictC {e : Addr} {kvs : List (Key × DV)} {G : Gh} {Q : DV → Gh → Prop} (he : G e = some (.dic kvs)) (q : ∀ p G1, G p = none → Sub G G1 → G1 p = some (.dic kvs) → Q (.ref p) G1) : dDictC [.ref e] G Q :=
  ⟨kvs, he, fun p np => q p _ np (Sub.new np) gup_same⟩
end DL

namespace DL
open PySem PySem.Spec L2
open PyProof.Rows hiding St
/-! ### a, b = x, y: both sides written, the names plain locals -/
section
variable {X : Cx} {W : WX} {wr : DA}
theorem qs_par {i j : Nat} {x y : Str} {a b : Expr} {px py pt pos : Pos} {kt k2 pt2} (hc : X.calm = true) (hN : X.N.Nodup) (hi : X.N[i]? = some x) (hj : X.N[j]? = some y) (hij : i ≠ j)
    (hx : X.env.scope.names.lookup x = some .local) (hy : X.env.scope.names.lookup y = some .local) (ha : QA X W [a, b] wr)
    (hw : swappedStores [.Tuple [.Name x px, .Name y py] kt pt] (.Tuple [a, b] k2 pt2) X.env = pure (some [x, y]))
    (hs : swapsWithSole [.Tuple [.Name x px, .Name y py] kt pt] (.Tuple [a, b] k2 pt2) pos.line X.env = pure false := by rfl) :
    QS X W (.Assign [.Tuple [.Name x px, .Name y py] kt pt] (.Tuple [a, b] k2 pt2) pos) (wAsg (wTup wr) (wgTup (wgCons (wgName i) (wgCons (wgName j) wgNil)))) :=
  ⟨PS.wk (ps_par (i := i) (j := j) hc hN hi hj hij hx hy ha.pa hw hs) fun D σ H ⟨env, G, De, er, wg, h, le⟩ => ⟨_, env, G, _, er, wg, h, fun ds G1 vs H1 h1 w1 x1 r1 => by
    obtain ⟨_, h1⟩ := h1
    match ds, r1, h1 with
    | [d, e], .cons rd (.cons re .nil), h1 =>
      exact ⟨_, _, rfl, le.nx _ _ _ _ h1 (((er.ext wg x1).set rd i).set re j) w1 x1⟩, le.xle wg er⟩⟩
end
end DL

namespace L2
open PySem PySem.Spec
open PyProof.Rows hiding St
section
variable {X : Cx} {pos : Pos}
/-- {k: v}, the key a tuple; the new dict stands empty while the pair is made -/
def tDisp1T (tk tv : TE) : TE := fun σ H Q => ∀ p, H p = none → tk σ (upd H p (.dT [])) fun x H1 => tv σ H1 fun y H2 => H2 p = some (.dT []) ∧ ∃ ks b, x = .ref b ∧ H2 b = some (.tup (ks.map kV)) ∧ Q (.ref p) (upd H2 p (.dT [(ks, y)]))
theorem pe_disp1T {k v : Expr} {tk tv : TE} (hu : X.A.units + 1 < cLine) (hk : PE X k tk) (hv : PE X v tv) : PE X (.Dict [some k] [v] pos) (tDisp1T tk tv) := by
  refine ⟨fun pins s σ H Q I q => ?_⟩
  have hn := I.hok.fresh (Nat.le_refl s.heap.objs.size)
  have I1 := I.laid (a := s.heap.objs.size) (o := .dT []) (h' := s.heap.push { cls := .type "dict", data := .dict #[] }) (t' := s.toks) (fun _ _ q => Heap.get?_push_of_some _ q) (Nat.le_refl _) (dt_empty s.heap I.big)
  have hr : (tupleKind (mixKind X.prog X.w)).room X.A := Nat.lt_trans (Nat.lt_succ_self _) hu
  rw [arm_eval_Dict, zip_pairTrees [some k] [v] X.env pos rfl rfl, dictDisplay_pairs _ (by intro z; cases z) (by show 1 < 17; omega)]
  refine wpAny_bind (wpAny_standAt (wpAny_bind (wpAny_subDictH (knd := tupleKind (mixKind X.prog X.w)) hr (by show 1 ≤ 15; omega) ?_)))
  refine pairTrees_cons_walk (thn (hk.run pins _ σ _ _ I1 (q _ hn)) fun u s1 ⟨x, H1, I2, rx, q1⟩ => thn (hv.run pins s1 σ H1 _ I2 q1) fun w2 s2 ⟨y, H2, I3, ry, q2⟩ => pairTrees_nil_walk ?_)
  obtain ⟨e, ks, b, rfl, eb, q2⟩ := q2
  cases rx
  obtain ⟨z, hd, xs, rel, dd⟩ := dt_of I3.hok e
  cases rel
  refine ⟨[(ks, b, w2)], ⟨rfl, rfl, key_of I3.hok eb, trivial⟩, dd, fun h' tk dd' hs => wpAny_pure ⟨.ref s.heap.objs.size, _, ?_, rfl, q2⟩⟩
  obtain ⟨o, es, ep, hq, h2, h3, h4, _, h5⟩ := dd'
  have ne : b ≠ s.heap.objs.size := ne_of eb e (fun z => nomatch z)
  have ht : ∀ c ys, H2 c = some (.tup ys) → (upd H2 s.heap.objs.size (.dT [(ks, y)])) c = some (.tup ys) := fun c ys ec => by
    rw [upd_ne (ne_of ec e (fun z => nomatch z))]; exact ec
  exact d_write I3 (by rw [e]; exact True.intro) hs ⟨o, hq⟩ ⟨by rw [sizeLine_eq]; show 1 ≤ _; omega, hd, _, .cons ⟨rfl, ht _ _ eb, ry⟩ .nil, o, es, ep, hq, h2, h3, h4, h5⟩
theorem op_inDg (hu : X.A.units + 1 < cLine) : OpR X (compareOp .In) (fun y x H Q => ∃ a o, x = .ref a ∧ DGet H a y o ∧ Q (.bl o.isSome) H) := by
  intro pins s σ H y x u v Q I ry rx h
  obtain ⟨a, o, rfl, g, q⟩ := h
  obtain rfl : v = Value.ref a := rx
  exact d_in hu I g ry fun s3 I3 => ⟨.bl o.isSome, H, I3, rfl, q⟩
theorem op_notInDg (hu : X.A.units + 1 < cLine) : OpR X (compareOp .NotIn) (fun y x H Q => ∃ a o, x = .ref a ∧ DGet H a y o ∧ Q (.bl (!o.isSome)) H) := by
  intro pins s σ H y x u v Q I ry rx h
  obtain ⟨a, o, rfl, g, q⟩ := h
  obtain rfl : v = Value.ref a := rx
  exact d_notIn hu I g ry fun s3 I3 => ⟨.bl (!o.isSome), H, I3, rfl, q⟩
end
end L2
namespace DL
open PySem PySem.Spec L2
open PyProof.Rows hiding St
section
variable {X : Cx} {W : WX} {pos : Pos} {k v : Expr} {wk wv : DE}
/-- {k: v}, the key a tuple of numbers and texts -/
def disp1K (Q : DV → Gh → Prop) (x y : DV) (G2 : Gh) : Prop := ∃ ks, keyT x = some ks ∧ ∀ p, G2 p = none → Q (.ref p) (gup G2 p (.dt [(ks, y)]))
def wDisp1T (wk wv : DE) : DE := fun Y env G Q => wk Y env G fun x G1 => wv Y env G1 fun y G2 => disp1K Q x y G2
theorem q_disp1T (hu : X.A.units + 64 < cLine) (hk : QE X W k wk) (hv : QE X W v wv) : QE X W (.Dict [some k] [v] pos) (wDisp1T wk wv) := by
  refine ⟨PE.wk (pe_disp1T (by omega) hk.pe hv.pe) ?_⟩
  rintro σ H Q ⟨Y, env, G, P, er, wg, h, kq, kx⟩ p hp
  have x0 : Ext G H G (upd H p (.dT [])) := Ext.new hp
  refine ⟨Y, env, G, _, er.ext wg x0, wg.new hp, h, fun x G1 vx H1 h1 w1 x1 r1 => ⟨Y, env, G1, _, (er.ext wg x0).ext (wg.new hp) x1, w1, h1, fun y G2 vy H2 h2 w2 x2 r2 => ?_, (kx.step x0).step x1⟩, kx.step x0⟩
  obtain ⟨ks, hk, q⟩ := h2
  obtain ⟨b, rfl, eb⟩ := (r1.ext w1 x2).keyT hk
  obtain ⟨e2, n2⟩ := (x1.trans x2) p _ upd_same (wg.non hp)
  have wp : WG X.K (gup G2 p (.dt [])) H2 := fun a c e => by
    by_cases ha : a = p
    · subst ha
      rw [gup_same] at e; cases e
      exact ⟨[], e2, .nil⟩
    · rw [gup_ne ha] at e; exact w2 a c e
  have kr : KR X.K H2 [(ks, vy)] [(ks, y)] := .cons r2 .nil
  have xp : Ext (gup G2 p (.dt [])) H2 (gup (gup G2 p (.dt [])) p (.dt [(ks, y)])) (upd H2 p (.dT [(ks, vy)])) := Ext.setC gup_same
  have w3 : WG X.K (gup G2 p (.dt [(ks, y)])) (upd H2 p (.dT [(ks, vy)])) := by
    have := wp.put (a := p) (c := .dt [(ks, y)]) (o := .dT [(ks, vy)]) (.inr ⟨_, gup_same⟩) ⟨_, upd_same, kr.ext wp xp⟩
    rw [gup_gup] at this
    exact this
  refine ⟨e2, ks, b, rfl, eb, kq _ _ _ _ (q p n2) w3 (fun a o e n => ?_) (.ref p)⟩
  have hap : a ≠ p := by rintro rfl; rw [hp] at e; cases e
  have e0 : (upd H p (.dT [])) a = some o := by rw [upd_ne hap]; exact e
  obtain ⟨e3, n3⟩ := (x1.trans x2) a o e0 n
  exact ⟨by rw [upd_ne hap]; exact e3, by rw [gup_ne hap]; exact n3⟩
/-- x in d -/
def dInD (neg : Bool) : D2 := fun y x G Q => match x with
  | .ref a => (∃ kvs k, G a = some (.dic kvs) ∧ keyD y = some k ∧ Q (.bl (neg ^^ (valD kvs k).isSome)) G) ∨ ∃ kvs k, G a = some (.dt kvs) ∧ keyT y = some k ∧ Q (.bl (neg ^^ (valD kvs k).isSome)) G
  | _ => False
theorem inD_get {K : PySem.W.Frag} {H : Hp} {G : Gh} {dy : DV} {y : V} {a : Addr} {P : Bool → Prop} (wg : WG K G H) (vy : VR K H y dy)
    (h : (∃ kvs k, G a = some (.dic kvs) ∧ keyD dy = some k ∧ P (valD kvs k).isSome) ∨ ∃ kvs k, G a = some (.dt kvs) ∧ keyT dy = some k ∧ P (valD kvs k).isSome) : ∃ o, DGet H a y o ∧ P o.isSome := by
  rcases h with ⟨kvs, kk, ga, hk, q⟩ | ⟨kvs, kk, ga, hk, q⟩
  · obtain ⟨ws, ha, kr⟩ := wg _ _ ga
    rw [vy.key hk]
    exact ⟨_, DGet.k ha, by rw [kr.isSome]; exact q⟩
  · obtain ⟨ws, ha, kr⟩ := wg _ _ ga
    obtain ⟨b, rfl, eb⟩ := vy.keyT hk
    exact ⟨_, DGet.t ha eb, by rw [kr.isSome]; exact q⟩
theorem o_inD (hu : X.A.units + 64 < cLine) : OpD X (compareOp .In) (dInD false) := by
  rintro pins s σ H y x u v Q I ry rx ⟨dy, dx, G, P, vy, vx, wg, h, k⟩
  cases dx <;> first | exact h.elim | skip
  rename_i a
  cases vx
  obtain ⟨o, g, q⟩ := inD_get (P := fun b => P (.bl (false ^^ b)) G) wg vy h
  exact op_inDg (by omega) pins s σ H _ _ u v Q I ry rx ⟨a, o, rfl, g, op_end wg k q (by rw [Bool.false_xor]; exact .bl _)⟩
theorem o_notinD (hu : X.A.units + 64 < cLine) : OpD X (compareOp .NotIn) (dInD true) := by
  rintro pins s σ H y x u v Q I ry rx ⟨dy, dx, G, P, vy, vx, wg, h, k⟩
  cases dx <;> first | exact h.elim | skip
  rename_i a
  cases vx
  obtain ⟨o, g, q⟩ := inD_get (P := fun b => P (.bl (true ^^ b)) G) wg vy h
  exact op_notInDg (by omega) pins s σ H _ _ u v Q I ry rx ⟨a, o, rfl, g, op_end wg k q (by rw [Bool.true_xor]; exact .bl _)⟩
variable {Y : DX} {env : Dv} {G : Gh} {Q : DV → Gh → Prop} {x y : DV} {e : Addr} {ks : List Key} {kvs : List (List Key × DV)}
theorem s_disp1T (q : wk Y env G fun x G1 => wv Y env G1 fun y G2 => disp1K Q x y G2) : wDisp1T wk wv Y env G Q := q
theorem x_disp1 (h : keyT x = some ks) (q : ∀ p G1, G p = none → Sub G G1 → G1 p = some (.dt [(ks, y)]) → Q (.ref p) G1) : disp1K Q x y G := ⟨ks, h, fun p hp => q p _ hp (Sub.new hp) gup_same⟩
theorem s_inDt (he : G e = some (.dt kvs)) (h : keyT x = some ks) (q : Q (.bl (valD kvs ks).isSome) G) : dInD false x (.ref e) G Q := .inr ⟨kvs, ks, he, h, by rw [Bool.false_xor]; exact q⟩
theorem s_ninDt (he : G e = some (.dt kvs)) (h : keyT x = some ks) (q : Q (.bl (!(valD kvs ks).isSome)) G) : dInD true x (.ref e) G Q := .inr ⟨kvs, ks, he, h, by rw [Bool.true_xor]; exact q⟩
theorem s_inDk {k : Key} {kvs : List (Key × DV)} (he : G e = some (.dic kvs)) (h : keyD x = some k) (q : Q (.bl (valD kvs k).isSome) G) : dInD false x (.ref e) G Q := .inl ⟨kvs, k, he, h, by rw [Bool.false_xor]; exact q⟩
theorem s_ninDk {k : Key} {kvs : List (Key × DV)} (he : G e = some (.dic kvs)) (h : keyD x = some k) (q : Q (.bl (!(valD kvs k).isSome)) G) : dInD true x (.ref e) G Q := .inl ⟨kvs, k, he, h, by rw [Bool.true_xor]; exact q⟩
theorem keyT_ints {l : List Int} : keyT (.tup (l.map DV.int)) = some (l.map Sum.inl) := keysD_ints l
/-- a tuple of the module's own -/
theorem s_inKt {d : DV} {l : List DV} (h : d.flat = true) (h2 : l.all DV.flat = true) (q : Q (.bl (l.any fun e => e.same d)) G) : dIn false d (.kt l) G Q := ⟨h, h2, by rw [Bool.false_xor]; exact q⟩
theorem s_ninKt {d : DV} {l : List DV} (h : d.flat = true) (h2 : l.all DV.flat = true) (q : Q (.bl (!l.any fun e => e.same d)) G) : dIn true d (.kt l) G Q := ⟨h, h2, by rw [Bool.true_xor]; exact q⟩
end
end DL

namespace DL
open PySem PySem.Spec L2
open PyProof.Rows hiding St
/-! ### a, b = [..]: a list unpacked; list.index of flat values -/
section
variable {X : Cx} {W : WX} {pos : Pos}
def wgUnl (gs : DGs) : DG := fun d env G Q => match d with | .ref a => ∃ l, G a = some (.lst l) ∧ gs l env G Q | _ => False
theorem qg_unlN {tgs : List Expr} {k : Nat} {ts : TGs} {gs : DGs} {n : Nat} (hc : X.calm = true) (h : QGs X tgs ts gs) (hl : LenG n gs) (hn : (assignEach tgs X.env).length = n := by rfl) (hst : (assignEach tgs X.env).findIdx? (·.1) = none := by rfl) :
    QG X (.Tuple tgs k pos) (gUnl X.K n ts) (wgUnl gs) :=
  ⟨pg_unl hc h.pg hn hst, fun v σ H Q ⟨d, env, G, P, r, er, wg, hh, kk⟩ => by
    cases d <;> first | exact hh.elim | skip
    obtain ⟨l, ga, hh⟩ := hh
    cases r
    obtain ⟨xs, ha, rs⟩ := wg _ _ ga
    exact ⟨_, _, rfl, SqL.of ha, by rw [rs.len]; exact hl _ _ _ _ hh, h.sim _ _ _ _ ⟨_, env, G, P, rs, er, wg, hh, kk⟩⟩⟩
theorem s_gUnl {gs : DGs} {a : Addr} {l : List DV} {env : Dv} {G : Gh} {K : Dv → Gh → Prop} (he : G a = some (.lst l)) (q : gs l env G K) : wgUnl gs (.ref a) env G K := ⟨l, he, q⟩
def dIndexL : DM := fun x ds G Q => match x, ds with
  | .ref a, [y] => ∃ (l : List DV) (j : Nat) (z : DV), G a = some (.lst l) ∧ y.flat = true ∧ l.all DV.flat = true ∧ l[j]? = some z ∧ z.same y = true ∧ (∀ (m : Nat) (z' : DV), m < j → l[m]? = some z' → z'.same y = false) ∧ Q (.int (j : Nat)) G
  | _, _ => False
theorem VRs.getD {K : PySem.W.Frag} {H : Hp} : ∀ {vs : List V} {ds : List DV}, VRs K H vs ds → ∀ {j : Nat} {z : DV}, ds[j]? = some z → ∃ v, vs[j]? = some v ∧ VR K H v z
  | _, _, .nil, j, z, h => by simp at h
  | _, _, .cons r t, 0, z, h => by simp at h; subst h; exact ⟨_, rfl, r⟩
  | _, _, .cons r t, j + 1, z, h => by simpa using VRs.getD t (j := j) (by simpa using h)
theorem VRs.getW {K : PySem.W.Frag} {H : Hp} : ∀ {vs : List V} {ds : List DV}, VRs K H vs ds → ∀ {j : Nat} {v : V}, vs[j]? = some v → ∃ z, ds[j]? = some z ∧ VR K H v z
  | _, _, .nil, j, z, h => by simp at h
  | _, _, .cons r t, 0, z, h => by simp at h; subst h; exact ⟨_, rfl, r⟩
  | _, _, .cons r t, j + 1, z, h => by simpa using VRs.getW t (j := j) (by simpa using h)
theorem m_indexL : MtD X "list.index" dIndexL := by
  rintro pins s σ H x xs v us Q I rx rs ⟨dx, ds, G, P, vx, vs, wg, h, k⟩
  match dx, ds, vx, vs, h with
  | .ref a, [y], .ref _, .cons vy .nil, ⟨l, j, z, ga, fy, fl, hj, hz, hm, h⟩ =>
    obtain ⟨xs, ha, rl⟩ := wg _ _ ga
    obtain ⟨vz, hv, rz⟩ := rl.getD hj
    have fz : z.flat = true := List.all_eq_true.mp fl z (List.mem_of_getElem? hj)
    refine mt_index pins s σ H _ _ v us Q I rx rs ⟨_, xs, _, j, vz, rfl, rfl, SqL.of ha, vy.flatV fy, rl.flatV fl, hv, by rw [rz.same vy fz fy]; exact hz, fun m z' hmj hz' => ?_, op_end wg k h (.int _)⟩
    obtain ⟨d, hd, rd⟩ := rl.getW hz'
    rw [rd.same vy (List.all_eq_true.mp fl d (List.mem_of_getElem? hd)) fy]
    exact hm m d hmj hd
theorem x_indexI {a : Addr} {l : List Int} {i : Int} {j : Nat} {G : Gh} {Q : DV → Gh → Prop} (he : G a = some (.lst (l.map DV.int))) (hj : l[j]? = some i) (hm : ∀ m : Nat, m < j → l[m]? ≠ some i) (q : Q (.int (j : Nat)) G) : dIndexL (.ref a) [.int i] G Q :=
  ⟨_, j, .int i, he, rfl, by rw [List.all_map]; exact List.all_eq_true.mpr fun _ _ => rfl, by rw [List.getElem?_map, hj]; rfl, by show (i == i) = true; simp, fun m z' hmj hz' => by
    rw [List.getElem?_map] at hz'
    cases e : l[m]? with
    | none => rw [e] at hz'; cases hz'
    | some u =>
      rw [e] at hz'
      cases hz'
      show (u == i) = false
      rw [beq_eq_false_iff_ne]
      rintro rfl
      exact hm m hmj e, q⟩
end
end DL

namespace DL
open PySem PySem.Spec L2
open PyProof.Rows hiding St
/-! ### tuples of numbers compared -/
theorem eqvAllI : ∀ (a b : List Int), PyData.eqvAll (a.map PyData.int) (b.map PyData.int) = decide (a = b)
  | [], [] => by simp [PyData.eqvAll]
  | x :: a, [] => by simp [PyData.eqvAll]
  | [], y :: b => by simp [PyData.eqvAll]
  | x :: a, y :: b => by
    have h := eqvAllI a b
    simp only [List.map_cons, PyData.eqvAll, PyData.eqv, h]
    rw [Bool.eq_iff_iff]
    simp
theorem eqvTI (a b : List Int) : PyData.eqv (.tuple (a.map PyData.int)) (.tuple (b.map PyData.int)) = decide (a = b) := eqvAllI a b
theorem eqvLI (a b : List Int) : PyData.eqv (.list (a.map PyData.int)) (.list (b.map PyData.int)) = decide (a = b) := eqvAllI a b
theorem drsI {G : Gh} : ∀ l : List Int, DRs G (l.map DV.int) (l.map PyData.int)
  | [] => .nil
  | i :: l => .cons (.int i) (drsI l)
theorem drTI {G : Gh} (l : List Int) : DR G (.tup (l.map DV.int)) (.tuple (l.map PyData.int)) := .tup (drsI l)
theorem shapedTI (ns : List Int) : SeqAt.shaped (.tuple (ns.map PyData.int)) = true := by
  simp [SeqAt.shaped, PyData.canLay0, PyData.depth, PySem.W.ke_canLayAll0, PySem.W.ke_depthAll]
section
variable {G : Gh} {Q : DV → Gh → Prop} {a b : List Int}
theorem s_eqTI (q : Q (.bl (decide (a = b))) G) : dEq false (.tup (a.map .int)) (.tup (b.map .int)) G Q :=
  ⟨_, _, drTI a, drTI b, shapedTI a, shapedTI b, by rw [eqvTI, Bool.false_xor]; exact q⟩
theorem s_neTI (q : Q (.bl (!decide (a = b))) G) : dEq true (.tup (a.map .int)) (.tup (b.map .int)) G Q :=
  ⟨_, _, drTI a, drTI b, shapedTI a, shapedTI b, by rw [eqvTI, Bool.true_xor]; exact q⟩
end
end DL

/-! ### dicts with tuple keys: get with a default, setdefault, dict(pairs), sorted(d); x in a list of rows -/
namespace L2
open PySem PySem.Spec
open PyProof.Rows hiding St
section
variable {X : Cx}
theorem relO_getD {o : Option V} {p : Option Value} {y : V} {u : Value} (r : RelO o p) (ry : RelV y u) : RelV (o.getD y) (p.getD u) := by
  cases o <;> cases p <;> first | exact ry | exact r | exact (show False from r).elim
theorem mt_dgetT (hu : X.A.units + 1 < cLine) : MtR X "dict.get" (fun x xs H Q => ∃ (a b : Addr) (kvs : List (List Key × V)) (k : List Key) (y : V), x = .ref a ∧ xs = [.ref b, y] ∧ H a = some (.dT kvs) ∧ H b = some (.tup (k.map kV)) ∧ Q ((valV kvs k).getD y) H) := by
  intro pins s σ H x xs v us Q I rx rs h
  obtain ⟨a, b, kvs, k, y, rfl, rfl, ea, eb, q⟩ := h
  cases rx
  obtain ⟨uk, uy, rfl, rk, ry⟩ := vals2 rs
  cases rk
  obtain ⟨z, hd, ws, rel, dd⟩ := dt_of I.hok ea
  exact call_meetsIn PySem.F.slot_dict_get dd.typeIs PySem.F.entry_dict_get (PySem.F.args_dict_get_3 _ _ _) (meetsH_dict_get_default (tupleKind (mixKind X.prog X.w)) a b hd uy)
    ⟨tupleKind_room_in1 hu, k, ws, key_of I.hok eb, dd, _, H, I.tok _, relO_getD (rel.val k) ry, q⟩
theorem mt_dsetdT (hu : X.A.units + 1 < cLine) : MtR X "dict.setdefault" (fun x xs H Q => ∃ (a b : Addr) (kvs : List (List Key × V)) (k : List Key) (y : V), x = .ref a ∧ xs = [.ref b, y] ∧ H a = some (.dT kvs) ∧ H b = some (.tup (k.map kV)) ∧ kvs.length < sizeLine ∧
    (∀ v, valV kvs k = some v → Q v H) ∧ (valV kvs k = none → Q y (upd H a (.dT (putK kvs k y))))) := by
  intro pins s σ H x xs v us Q I rx rs h
  obtain ⟨a, b, kvs, k, y, rfl, rfl, ea, eb, hl, q1, q2⟩ := h
  cases rx
  obtain ⟨uk, uy, rfl, rk, ry⟩ := vals2 rs
  cases rk
  obtain ⟨z, hd, ws, rel, dd⟩ := dt_of I.hok ea
  have r := rel.val k
  refine call_setdefault_heap (hsz := by rw [← Paired.length rel]; exact z) (tupleKind_room_in1 hu) (key_of I.hok eb) hd dd (fun p hp => ?_) fun hn h' dd' hs => ?_
  · rw [hp] at r
    cases e : valV kvs k with
    | none => rw [e] at r; exact (show False from r).elim
    | some v0 => rw [e] at r; exact ⟨v0, H, I.tok _, r, q1 v0 e⟩
  · rw [hn] at r
    have e : valV kvs k = none := by
      cases e : valV kvs k with
      | none => rfl
      | some v0 => rw [e] at r; exact (show False from r).elim
    obtain ⟨o, es, ep, hq, h2, h3, h4, _, h5⟩ := dd'
    have hl2 : (putK kvs k y).length ≤ sizeLine := by have := length_putK kvs k y; omega
    refine ⟨y, upd H a (.dT (putK kvs k y)), ?_, ry, q2 e⟩
    refine d_write I (by rw [ea]; exact True.intro) hs ⟨o, hq⟩ ⟨hl2, hd, _, (rel.put k eb ry).keeps fun c ys ec => ?_, o, es, ep, hq, h2, h3, h4, h5⟩
    rw [upd_ne (ne_of ec ea (fun z => nomatch z))]
    exact ec
/-- dict(xs), xs a list of pairs whose keys are tuples -/
def mergeT (kvs more : List (List Key × V)) : List (List Key × V) := more.foldl (fun acc kv => putK acc kv.1 kv.2) kvs
theorem KT.merge {H : Hp} : ∀ {more : List (List Key × V)} {rs : List (List Key × Addr × Value)} {kvs : List (List Key × V)} {xs : List (List Key × Addr × Value)}, KT H more rs → KT H kvs xs → KT H (mergeT kvs more) (storedAllH xs rs) := by
  intro more rs kvs xs r
  unfold KT at r
  induction r generalizing kvs xs with
  | nil => intro q; exact q
  | @cons p x ps ys h t ih =>
    intro q
    have e : storedH xs x.1 x.2.1 x.2.2 = storedH xs p.1 x.2.1 x.2.2 := by rw [h.1]
    show KT H (mergeT (putK kvs p.1 p.2) ps) (storedAllH (storedH xs x.1 x.2.1 x.2.2) ys)
    rw [e]
    exact ih (KT.put q p.1 h.2.1 h.2.2)
theorem length_mergeT : ∀ (more kvs : List (List Key × V)), (mergeT kvs more).length ≤ kvs.length + more.length
  | [], kvs => by show kvs.length ≤ kvs.length + 0; omega
  | p :: r, kvs => by
    have h1 := length_mergeT r (putK kvs p.1 p.2)
    have h2 := length_putK kvs p.1 p.2
    show (mergeT (putK kvs p.1 p.2) r).length ≤ kvs.length + (r.length + 1)
    omega
theorem pairsT_of {pins : List (Addr × Obj)} {σ : St} {H : Hp} {s : Shared} (I : Inv X pins σ H s) : ∀ {ps : List Addr} {kvs : List (List Key × V)}, Paired (fun p kv => ∃ b, H p = some (.tup [.ref b, kv.2]) ∧ H b = some (.tup (kv.1.map kV))) ps kvs →
    ∃ rs : List (List Key × Addr × Value), KT H kvs rs ∧ rs.length = ps.length ∧ ∀ (j : Nat) x, rs[j]? = some x → ∃ p, ps[j]? = some p ∧ s.heap.IsTuple p #[.ref x.2.1, x.2.2]
  | _, _, .nil => ⟨[], .nil, rfl, fun j q e => by simp at e⟩
  | _, _, .cons (a := p) (b := kv) h t => by
    obtain ⟨rs, r, hl, hp⟩ := pairsT_of I t
    obtain ⟨b, h1, h2⟩ := h
    obtain ⟨its, rv, ⟨o, ho, hc, n, hd⟩, _⟩ := I.tuple (xs := [.ref b, kv.2]) (.inl (.inl h1))
    obtain ⟨u, y, ei, ru, ry⟩ := vals2 rv
    subst ei
    cases ru
    refine ⟨(kv.1, b, y) :: rs, .cons ⟨rfl, h2, ry⟩ r, by rw [List.length_cons, List.length_cons, hl], fun j q e => ?_⟩
    cases j with
    | zero =>
      have e' : (kv.1, b, y) = q := Option.some.inj e
      subst e'
      exact ⟨p, rfl, o, ho, hc, n, hd⟩
    | succ j =>
      obtain ⟨p', e1, e2⟩ := hp j q (by simpa using e)
      exact ⟨p', by simpa using e1, e2⟩
theorem kt_keys {P : Program} {w : World} {H : Hp} {h : Heap} (ok : HOk P w H h) : ∀ {l : List (List Key × V)} {m : List (List Key × Addr × Value)}, KT H l m → ∀ x ∈ m, (tupleKind (mixKind P w)).is h x.1 x.2.1 := by
  intro l m q
  induction q with
  | nil => intro x hx; exact nomatch hx
  | @cons p q ps qs hq t ih =>
    intro x hx
    rcases List.mem_cons.mp hx with e | hx
    · subst e
      exact key_of ok (by rw [← hq.1]; exact hq.2.1)
    · exact ih x hx
theorem cr_dictPT (hcalm : X.calm = true) (hu : X.A.units + 64 < cLine) : CallR X (.type "dict") (fun xs H Q => ∃ (a : Addr) (ps : List Addr) (kvs : List (List Key × V)), xs = [.ref a] ∧ SqL X.K H a (ps.map V.ref) ∧ Paired (fun p kv => ∃ b, H p = some (.tup [.ref b, kv.2]) ∧ H b = some (.tup (kv.1.map kV))) ps kvs ∧
    ∀ p, H p = none → Q (.ref p) (upd H p (.dT (mergeT [] kvs)))) := by
  intro pins s σ H xs us Q I r q
  obtain ⟨a, ps, kvs, rfl, hq, hp, q⟩ := q
  obtain ⟨u, rfl, rx⟩ := vals1 r
  cases rx
  obtain ⟨its, rv, pl, hz⟩ := I.list hq
  have ei := refs_at rv
  subst ei
  rw [List.length_map] at hz
  obtain ⟨rs, rel, hl, hpr⟩ := pairsT_of I hp
  have st : HeapKind.Stays (tupleKind (mixKind X.prog X.w)) := tupleKind_stays
  have hsz : (rs.map fun x : List Key × Addr × Value => (Value.ref x.2.1, x.2.2)).length = rs.length := List.length_map ..
  refine call_dict_pairsH (knd := tupleKind (mixKind X.prog X.w)) (ps := rs) (PairArg.list a (ps.map Value.ref).toArray (fun j => ps.getD j 0) (rs.map fun x => (Value.ref x.2.1, x.2.2))) (I.ok.hd hcalm) (by show X.A.units + 1 + 1 < cLine; omega) ⟨?_, ?_⟩ ⟨hsz.symm, ?_⟩ ?_ (by rw [hsz, hl]; exact hz) fun h' tk hd' k => ?_
  · obtain ⟨o, n, ho, hc, hd, hdat⟩ := pl
    exact ⟨o, n, ho, hc, hd, hdat⟩
  · refine ⟨by simp [hl], fun j k v e => ?_⟩
    rw [List.getElem?_map] at e
    cases e2 : rs[j]? with
    | none => rw [e2] at e; cases e
    | some x =>
      rw [e2] at e
      cases e
      obtain ⟨p, e3, e4⟩ := hpr j x e2
      refine ⟨by simp [e3], .inl ?_⟩
      show s.heap.IsTuple (ps.getD j 0) _
      rw [List.getD_eq_getElem?_getD, e3]
      exact e4
  · intro i key v e
    have e : (rs.map fun x : List Key × Addr × Value => (Value.ref x.2.1, x.2.2))[i]? = some (key, v) := e
    rw [List.getElem?_map] at e
    cases e2 : rs[i]? with
    | none => rw [e2] at e; cases e
    | some x => rw [e2] at e; cases e; exact ⟨x.1, x.2.1, rfl, rfl⟩
  · intro h' hk x hx
    refine st.stays (fun b o vs n e _ => hk b o (Nat.ne_of_lt (Heap.lt_size e)) (by simp) e) (kt_keys I.hok rel x hx)
  · have hm : (s.heap.objs.size == sysModules) = false := beq_eq_false_iff_ne.mpr (Nat.ne_of_gt I.big)
    have hlen : (mergeT [] kvs).length ≤ sizeLine := by
      refine Nat.le_trans (length_mergeT kvs []) ?_
      rw [List.length_nil, Nat.zero_add, Paired.length rel, hl]
      exact hz
    obtain ⟨o, es, ep, hq, h2, h3, h4, _, h5⟩ := hd'
    have hn := I.hok.fresh (Nat.le_refl s.heap.objs.size)
    refine ⟨.ref s.heap.objs.size, upd H s.heap.objs.size (.dT (mergeT [] kvs)), I.laid (t' := tk) (fun b o e => k b o (by simp) e) (Nat.le_refl _) (show ObjOk X.prog X.w _ _ _ (.dT (mergeT [] kvs)) from ⟨hlen, hm, _, (KT.merge rel .nil).keeps fun c ys ec => ?_, o, es, ep, hq, h2, h3, h4, h5⟩), rfl, q _ hn⟩
    rw [upd_ne (ne_of_none ec hn)]
    exact ec
/-! sorted(d), the keys tuples of numbers -/
theorem readsInts {h : Heap} : ∀ {l : List Int} {us : List Value}, Vals (l.map V.int) us → ReadsAll h us (l.map PyData.int) []
  | [], _, r => by rw [List.map_nil] at r; cases r; exact .nil
  | i :: l, _, r => by
    rw [List.map_cons] at r
    cases r with
    | cons h t =>
      obtain ⟨t', rfl⟩ := (show ∃ t', _ = Value.int i t' from h)
      exact ReadsAll.cons (as := []) (bs := []) (.int i t') (readsInts t)
theorem keysT_of {H : Hp} : ∀ {kvs : List (List Key × V)} {ws : List (List Key × Addr × Value)} {ks : List (List Int)}, KT H kvs ws → kvs.map (·.1) = ks.map (fun l => l.map Sum.inl) →
    ∃ bs : List (List Int × Addr), bs.map (·.1) = ks ∧ bs.map (fun b => Value.ref b.2) = ws.map (fun x => Value.ref x.2.1) ∧ ∀ b ∈ bs, H b.2 = some (.tup (b.1.map V.int))
  | _, _, [], .nil, _ => ⟨[], rfl, rfl, fun _ h => nomatch h⟩
  | _, _, _ :: _, .nil, e => nomatch e
  | _, _, [], .cons _ _, e => nomatch e
  | _, _, k :: ks, .cons (a := p) (b := x) h t, e => by
    rw [List.map_cons, List.map_cons] at e
    injection e with e1 e2
    obtain ⟨bs, b1, b2, b3⟩ := keysT_of t e2
    refine ⟨(k, x.2.1) :: bs, by simp [b1], by simp [b2], fun b hb => ?_⟩
    rcases List.mem_cons.mp hb with rfl | hb
    · have := h.2.1
      rw [e1, List.map_map] at this
      exact this
    · exact b3 b hb
theorem vals_refs2 : ∀ zs : List (List Int × Addr), Vals (zs.map fun z => V.ref z.2) (zs.map fun z => Value.ref z.2)
  | [] => .nil
  | z :: zs => .cons rfl (vals_refs2 zs)
theorem each_refs {R : Value → List Int × Addr → Prop} : ∀ {bs : List (List Int × Addr)}, (∀ b ∈ bs, R (.ref b.2) b) → PySem.W.EachIs R (bs.map fun b => Value.ref b.2) bs
  | [], _ => .nil
  | b :: bs, h => .cons (h b (by simp)) (each_refs fun c hc => h c (by simp [hc]))
theorem of_refs : ∀ {us : List Value} {bs : List (List Int × Addr)}, PySem.W.EachIs (fun u b => u = .ref b.2) us bs → us = bs.map fun b => Value.ref b.2
  | _, _, .nil => rfl
  | _, _, .cons h t => by rw [h, of_refs t]; rfl
theorem cr_sortedDT (hcalm : X.calm = true) (hu : X.A.units + 64 < cLine) : CallR X (.builtin "sorted") (fun xs H Q => ∃ (d : Addr) (kvs : List (List Key × V)) (ks : List (List Int)), xs = [.ref d] ∧ H d = some (.dT kvs) ∧ kvs.map (·.1) = ks.map (fun l => l.map Sum.inl) ∧ (∀ k ∈ ks, k ≠ []) ∧
    ∀ (zs : List (List Int × Addr)) p, (zs.map (·.1)).Perm ks → (zs.map (·.1)).Pairwise (fun a b => PySem.W.dataLe false (fun l : List Int => PyData.tuple (l.map .int)) a b = true) → (∀ z ∈ zs, H z.2 = some (.tup (z.1.map V.int))) → H p = none → Q (.ref p) (upd H p (.lst (zs.map fun z => .ref z.2)))) := by
  intro pins s σ H xs us Q I r h
  obtain ⟨d, kvs, ks, rfl, hd, hk, hne, q⟩ := h
  obtain ⟨u, rfl, rx⟩ := vals1 r
  cases rx
  obtain ⟨z, hs, ws, pr, o, es, ep, ho, hx, hdt, he, hn⟩ := (show ObjOk X.prog X.w H s.heap d (.dT kvs) from I.hok d _ hd)
  have l1 : es.size = ws.length := size_of_entries he
  have l2 : kvs.length = ws.length := Paired.length pr
  obtain ⟨bs, b1, b2, b3⟩ := keysT_of pr hk
  have l3 : bs.length = ws.length := by have := congrArg List.length b2; rwa [List.length_map, List.length_map] at this
  refine Calls.call_function_entry PyProof.Rows.kind_sorted PyProof.Rows.plain_sorted PyProof.Rows.entry_sorted (PyProof.Rows.args_sorted1 _) ?_
  unfold Builtin.«sorted»
  refine wpAny_bind (m := checkCount "sorted" 1 1 _) (wpAny_pure ?_)
  refine wpAny_bind (PySem.W.kdu_collect (A := X.A.in1) (kdl_raw hs hx hdt) (I.ok.hd hcalm) ho (by omega) fun h' tk acc kp it => ?_)
  have hal : acc.toList.length = ws.length := by rw [Array.length_toList, it.1]; exact l1
  have ea : acc.toList = bs.map fun b => Value.ref b.2 := by
    rw [b2]
    apply List.ext_getElem?
    intro j
    rw [List.getElem?_map]
    cases hj : acc.toList[j]? with
    | none =>
      have h1 := List.getElem?_eq_none_iff.mp hj
      rw [List.getElem?_eq_none (by omega)]
      all_goals rfl
    | some v =>
      obtain ⟨en, hen, hv⟩ := it.2 j v (by rw [← Array.getElem?_toList]; exact hj)
      have qe := entry_at he j
      rw [hen] at qe
      cases hb : ws[j]? with
      | none => rw [hb] at qe; exact nomatch (show some en = none from qe)
      | some b =>
        rw [hb] at qe
        have e2 : en = entryOfKey (tupleKind (mixKind X.prog X.w)) b := Option.some.inj qe
        rw [hv, e2]
        all_goals rfl
  have I1 : Inv X pins σ H { s with heap := h', toks := tk } := I.kept kp
  rw [ea]
  refine wpAny_bind (wpAny_newList ?_ (by rw [List.length_map]; omega))
  have hoL : (h'.push (seqObj "list" (bs.map fun b => Value.ref b.2).toArray 0)).get? h'.objs.size = some (seqObj "list" (bs.map fun b => Value.ref b.2).toArray 0) := Heap.get?_push_size _ rfl
  show wpAny _ _ _ _ _ { s with heap := h'.push (seqObj "list" (bs.map fun b => Value.ref b.2).toArray 0), toks := tk }
  have er : PySem.W.EachIs (fun v b => ∃ as, Reads (h'.push (seqObj "list" (bs.map fun b => Value.ref b.2).toArray 0)) v (PyData.tuple (b.1.map .int)) as ∧ h'.objs.size ∉ as) (bs.map fun b => Value.ref b.2) bs := by
    refine each_refs fun b hb => ⟨[], ?_, by simp⟩
    obtain ⟨its, rv, ⟨ob, eb, hc, n, hdd⟩, _⟩ := I1.tuple (xs := b.1.map V.int) (.inl (.inl (b3 b hb)))
    exact .tuple (Heap.get?_push_of_some _ eb) hc hdd (readsInts rv)
  refine wpAny_bind (wpAny_holding (PySem.W.list_sort_data (s := { s with heap := h'.push (seqObj "list" (bs.map fun b => Value.ref b.2).toArray 0), toks := tk }) (R := fun u b => u = .ref b.2) (enc := fun b : List Int × Addr => PyData.tuple (b.1.map .int)) hoL (each_refs fun b _ => rfl) er ?_ ?_ (by omega) ?_ fun out hlen eo => ?_))
  · exact PySem.W.AllAlike.of fun b b' => by
      show PySem.W.alike (.tuple (b.1.map .int)) (.tuple (b'.1.map .int)) = true
      rw [PySem.W.alike]; exact PySem.W.alike_ints _ _
  · refine .inl fun dd hdd => ?_
    obtain ⟨b, hb, rfl⟩ := List.mem_map.mp hdd
    have : b.1 ≠ [] := hne _ (by rw [← b1]; exact List.mem_map.mpr ⟨b, hb, rfl⟩)
    cases e : b.1 with
    | nil => exact absurd e this
    | cons x r => exact ⟨.int x, r.map .int, rfl⟩
  · intro b _
    show X.A.units + 1 + 1 + (PyData.tuple (b.1.map .int)).depth < cLine
    have : (PyData.tuple (b.1.map .int)).depth = 1 := by rw [PyData.depth, PySem.W.depth_ints]
    omega
  · have eo' := of_refs eo
    subst eo'
    obtain ⟨e', he'⟩ := PyProof.Rows.sortedHeap_at (vs := bs.map fun b => Value.ref b.2) (out := (List.toArray ((bs.mergeSort (PySem.W.dataLe false fun b : List Int × Addr => PyData.tuple (b.1.map .int))).map fun b => Value.ref b.2))) hoL
    generalize hzs : bs.mergeSort (PySem.W.dataLe false fun b : List Int × Addr => PyData.tuple (b.1.map .int)) = zs at *
    have pz : zs.Perm bs := by rw [← hzs]; exact List.mergeSort_perm _ _
    have tot : PySem.W.TotalLe (PySem.W.dataLe false (fun b : List Int × Addr => PyData.tuple (b.1.map .int))) := PySem.W.sortLe_total _ false _
    have sz := List.pairwise_mergeSort (le := PySem.W.dataLe false (fun b : List Int × Addr => PyData.tuple (b.1.map .int))) tot.trans (fun a b => by rw [Bool.or_eq_true]; exact tot.total a b) bs
    rw [hzs] at sz
    have lz : zs.length = bs.length := pz.length_eq
    have hlen2 : (zs.map fun z => V.ref z.2).length ≤ sizeLine := by rw [List.length_map]; omega
    have rv : Vals (zs.map fun z => V.ref z.2) (zs.map fun z => Value.ref z.2) := vals_refs2 zs
    refine wpAny_pure ⟨_, rfl, .ref h'.objs.size, upd H h'.objs.size (.lst (zs.map fun z => V.ref z.2)), I1.laid (t' := tk) (fun b u e => ?_) (Nat.le_refl _) (show ObjOk X.prog X.w _ _ _ (.lst (zs.map fun z => V.ref z.2)) from ⟨hlen2, _, e', rv, he'⟩), rfl,
      q zs _ (by rw [← b1]; exact pz.map _) (List.pairwise_map.mpr sz) (fun z hz => b3 z (pz.mem_iff.mp hz)) (I1.hok.fresh (Nat.le_refl _))⟩
    have hb : b < h'.objs.size := Heap.lt_size e
    rw [PyProof.Rows.sortedHeap_old (Nat.ne_of_lt hb) (by rw [size_push']; exact Nat.lt_succ_of_lt hb)]
    exact Heap.get?_push_of_some _ e
end
end L2

namespace DL
open PySem PySem.Spec L2
open PyProof.Rows hiding St
section
variable {X : Cx}
def dGetT : DM := fun x ds G Q => match x, ds with
  | .ref a, [y, d] => ∃ kvs k, G a = some (.dt kvs) ∧ keyT y = some k ∧ Q ((valD kvs k).getD d) G
  | _, _ => False
theorem m_getT (hu : X.A.units + 64 < cLine) : MtD X "dict.get" dGetT := by
  rintro pins s σ H x xs v us Q I rx rs ⟨dx, ds, G, P, vx, vs, wg, h, k⟩
  match dx, ds, vx, vs, h with
  | .ref a, [y, d], .ref _, .cons vy (.cons vd .nil), ⟨kvs, kk, ga, hk, h⟩ =>
    obtain ⟨ws, ha, kr⟩ := wg _ _ ga
    obtain ⟨b, rfl, eb⟩ := vy.keyT hk
    cases hv : valD kvs kk with
    | none =>
      rw [hv] at h
      exact mt_dgetT (by omega) pins s σ H _ _ v us Q I rx rs ⟨a, b, ws, kk, _, rfl, rfl, ha, eb, by rw [kr.none hv]; exact k _ _ _ _ h wg Ext.refl vd⟩
    | some z =>
      rw [hv] at h
      obtain ⟨w, hw, rw'⟩ := kr.val hv
      exact mt_dgetT (by omega) pins s σ H _ _ v us Q I rx rs ⟨a, b, ws, kk, _, rfl, rfl, ha, eb, by rw [hw]; exact k _ _ _ _ h wg Ext.refl rw'⟩
def dSetdT : DM := fun x ds G Q => match x, ds with
  | .ref a, [y, d] => ∃ kvs k, G a = some (.dt kvs) ∧ keyT y = some k ∧ kvs.length < sizeLine ∧ (∀ v, valD kvs k = some v → Q v G) ∧ (valD kvs k = none → Q d (gup G a (.dt (putD kvs k d))))
  | _, _ => False
theorem m_setdT (hu : X.A.units + 64 < cLine) : MtD X "dict.setdefault" dSetdT := by
  rintro pins s σ H x xs v us Q I rx rs ⟨dx, ds, G, P, vx, vs, wg, h, k⟩
  match dx, ds, vx, vs, h with
  | .ref a, [y, d], .ref _, .cons vy (.cons (v := vy0) vd .nil), ⟨kvs, kk, ga, hk, hl, h1, h2⟩ =>
    obtain ⟨ws, ha, kr⟩ := wg _ _ ga
    obtain ⟨b, rfl, eb⟩ := vy.keyT hk
    refine mt_dsetdT (by omega) pins s σ H _ _ v us Q I rx rs ⟨a, b, ws, kk, _, rfl, rfl, ha, eb, by rw [kr.len]; exact hl, fun v0 hv => ?_, fun hv => ?_⟩
    · cases hd : valD kvs kk with
      | none => rw [kr.none hd] at hv; cases hv
      | some z =>
        obtain ⟨w, hw, rw'⟩ := kr.val hd
        rw [hw] at hv
        cases hv
        exact k _ _ _ _ (h1 z hd) wg Ext.refl rw'
    · have hd : valD kvs kk = none := by
        have := kr.isSome (k := kk)
        rw [hv] at this
        cases e : valD kvs kk with
        | none => rfl
        | some z => rw [e] at this; cases this
      have x0 : Ext G H (gup G a (.dt (putD kvs kk d))) (upd H a (.dT (putK ws kk vy0))) := Ext.setC ga
      exact k _ _ _ _ (h2 hd) (wg.put (.inr ⟨_, ga⟩) ⟨_, upd_same, (kr.put vd).ext wg x0⟩) x0 (vd.ext wg x0)
theorem room_u5 {k : Nat} {A : Around} (hr : Room k A) : A.units + 65 < cLine := by have := hr.un; omega
def dClear : DM := fun x ds G Q => match x, ds with
  | .ref a, [] => ∃ l, G a = some (.lst l) ∧ Q .non (gup G a (.lst []))
  | _, _ => False
theorem m_clear : MtD X "list.clear" dClear := by
  rintro pins s σ H x xs v us Q I rx rs ⟨dx, ds, G, P, vx, vs, wg, h, k⟩
  match dx, ds, vx, vs, h with
  | .ref a, [], .ref _, .nil, ⟨l, ga, h⟩ =>
    obtain ⟨ys, ha, ra⟩ := wg _ _ ga
    exact mt_clear pins s σ H _ _ v us Q I rx rs ⟨a, ys, rfl, rfl, ha, k _ _ _ _ h (wg.setL ga .nil) (Ext.setC ga) .non⟩
theorem x_clear {e : Addr} {l : List DV} {G : Gh} {Q : DV → Gh → Prop} (he : G e = some (.lst l)) (q : ∀ G1, Old e G G1 → G1 e = some (.lst []) → Q .non G1) : dClear (.ref e) [] G Q := ⟨l, he, q _ Old.set gup_same⟩
/-- dict(pairs), the keys tuples -/
def dDictPT : DC := fun ds G Q => match ds with
  | [.ref a] => ∃ kvs : List (DV × List Key × DV), G a = some (.lst (kvs.map fun t => .tup [t.1, t.2.2])) ∧ (∀ t ∈ kvs, keyT t.1 = some t.2.1) ∧ ∀ p, G p = none → Q (.ref p) (gup G p (.dt (mergeD [] (kvs.map (·.2)))))
  | _ => False
theorem KR_mergeT {K : PySem.W.Frag} {H : Hp} : ∀ {us : List (List Key × V)} {ds : List (List Key × DV)} {xs : List (List Key × V)} {ys : List (List Key × DV)}, KR K H us ds → KR K H xs ys → KR K H (L2.mergeT xs us) (mergeD ys ds) := by
  intro us ds xs ys h
  induction h generalizing xs ys with
  | nil => exact fun r => r
  | @cons k v d us ds hv t ih =>
    intro r
    exact ih (r.put hv)
theorem prsT {K : PySem.W.Frag} {H : Hp} : ∀ {kvs : List (DV × List Key × DV)} {us : List V}, VRs K H us (kvs.map fun t => .tup [t.1, t.2.2]) → (∀ t ∈ kvs, keyT t.1 = some t.2.1) →
    ∃ (ps : List Addr) (ws : List (List Key × V)), us = ps.map V.ref ∧ Paired (fun p kv => ∃ b, H p = some (.tup [.ref b, kv.2]) ∧ H b = some (.tup (kv.1.map kV))) ps ws ∧ KR K H ws (kvs.map (·.2))
  | [], _, r, _ => by cases r; exact ⟨[], [], rfl, .nil, .nil⟩
  | t :: kvs, _, r, hk => by
    cases r with
    | cons r1 rs =>
      obtain ⟨ps, ws, rfl, pr, kr⟩ := prsT rs fun u hu => hk u (by simp [hu])
      cases r1 with
      | tup h1 h2 =>
        cases h2 with
        | cons k1 k2 =>
          cases k2 with
          | cons k2 k3 =>
            cases k3
            obtain ⟨b, rfl, eb⟩ := k1.keyT (hk t (by simp))
            exact ⟨_ :: ps, (t.2.1, _) :: ws, rfl, .cons ⟨b, h1, eb⟩ pr, .cons k2 kr⟩
theorem c_dictPT (hc : X.calm = true) (hu : X.A.units + 64 < cLine) : CallD X (.type "dict") dDictPT := by
  rintro pins s σ H xs us Q I rs ⟨ds, G, P, vs, wg, h, k⟩
  match ds, vs, h with
  | [.ref a], .cons (.ref _) .nil, ⟨kvs, ga, hk, h⟩ =>
    obtain ⟨ws, ha, vr⟩ := wg _ _ ga
    obtain ⟨ps, zs, rfl, pr, kr⟩ := prsT vr hk
    exact cr_dictPT hc hu pins s σ H _ us Q I rs ⟨a, ps, zs, rfl, SqL.of ha, pr, fun p np => k _ _ _ _ (h p (wg.non np)) (wg.put (.inl np) ⟨_, upd_same, (KR_mergeT kr .nil).ext wg (Put.ext (.inl np) (c := .dt (mergeD [] (kvs.map (·.2)))))⟩) (Ext.newC np) (.ref p)⟩
/-- sorted(d), the keys tuples of numbers -/
def rowLe (a b : List Int) : Bool := PySem.W.dataLe false (fun l : List Int => PyData.tuple (l.map .int)) a b
def dSortedDT : DC := fun ds G Q => match ds with
  | [.ref a] => ∃ (kvs : List (List Key × DV)) (ks : List (List Int)), G a = some (.dt kvs) ∧ kvs.map (·.1) = ks.map (fun l => l.map Sum.inl) ∧ (∀ k ∈ ks, k ≠ []) ∧
      ∀ (ys : List (List Int)) p, ys.Perm ks → ys.Pairwise (fun a b => rowLe a b = true) → G p = none → Q (.ref p) (gup G p (.lst (ys.map fun y => .tup (y.map .int))))
  | _ => False
theorem KR.fsts {K : PySem.W.Frag} {H : Hp} {κ : Type} : ∀ {xs : List (κ × V)} {ys : List (κ × DV)}, KR K H xs ys → xs.map (·.1) = ys.map (·.1)
  | _, _, .nil => rfl
  | _, _, .cons _ t => by rw [List.map_cons, List.map_cons, t.fsts]
theorem vrs_rows {K : PySem.W.Frag} {H : Hp} : ∀ {zs : List (List Int × Addr)}, (∀ z ∈ zs, H z.2 = some (.tup (z.1.map V.int))) → VRs K H (zs.map fun z => V.ref z.2) ((zs.map (·.1)).map fun y => DV.tup (y.map .int))
  | [], _ => .nil
  | z :: zs, h => .cons (.tup (h z (by simp)) (VRs.ints z.1)) (vrs_rows fun y hy => h y (by simp [hy]))
theorem c_sortedDT (hc : X.calm = true) (hu : X.A.units + 64 < cLine) : CallD X (.builtin "sorted") dSortedDT := by
  rintro pins s σ H xs us Q I rs ⟨ds, G, P, vs, wg, h, k⟩
  match ds, vs, h with
  | [.ref a], .cons (.ref _) .nil, ⟨kvs, ks, ga, hk, hne, h⟩ =>
    obtain ⟨ws, ha, kr⟩ := wg _ _ ga
    exact cr_sortedDT hc hu pins s σ H _ us Q I rs ⟨a, ws, ks, rfl, ha, kr.fsts.trans hk, hne, fun zs p hp hs hz np => k _ _ _ _ (h (zs.map Prod.fst) p hp hs (wg.non np)) (wg.newL np (vrs_rows hz)) (Ext.newC np) (.ref p)⟩
/-- x in a list of data -/
def dInL (neg : Bool) : D2 := fun y x G Q => ∃ d ds, DR G y d ∧ DR G x (.list ds) ∧ SeqAt.shaped d = true ∧ SeqAt.shaped (.list ds) = true ∧ Q (.bl (neg ^^ (ds.any fun z => PyData.eqv z d))) G
theorem o_inL (hu : X.A.units + 65 < cLine) : OpD X (compareOp .In) (dInL false) := by
  rintro pins s σ H y x v u Q I ry rx ⟨dy, dx, G, P, vy, vx, wg, ⟨d, ds, h1, h2, h3, h4, h⟩, k⟩
  exact op_inD hu pins s σ H _ _ v u Q I ry rx ⟨d, ds, h1.dp wg vy, h2.dp wg vx, h3, h4, op_end wg k h (by rw [Bool.false_xor]; exact .bl _)⟩
theorem o_notinL (hu : X.A.units + 65 < cLine) : OpD X (compareOp .NotIn) (dInL true) := by
  rintro pins s σ H y x v u Q I ry rx ⟨dy, dx, G, P, vy, vx, wg, ⟨d, ds, h1, h2, h3, h4, h⟩, k⟩
  exact op_notInD hu pins s σ H _ _ v u Q I ry rx ⟨d, ds, h1.dp wg vy, h2.dp wg vx, h3, h4, op_end wg k h (by rw [Bool.true_xor]; exact .bl _)⟩
end
theorem drRows {G : Gh} : ∀ rows : List (List Int), DRs G (rows.map fun r => .tup (r.map .int)) (rows.map fun r => PyData.tuple (r.map .int))
  | [] => .nil
  | r :: rows => .cons (drTI r) (drRows rows)
theorem anyRows (l : List Int) : ∀ rows : List (List Int), ((rows.map fun r => PyData.tuple (r.map .int)).any fun z => PyData.eqv z (.tuple (l.map .int))) = decide (l ∈ rows)
  | [] => by simp
  | r :: rows => by
    rw [List.map_cons, List.any_cons, anyRows l rows, eqvTI]
    by_cases h : r = l
    · subst h; simp
    · rw [decide_eq_false h, Bool.false_or]
      have : (l ∈ r :: rows) ↔ l ∈ rows := by
        rw [List.mem_cons]
        exact ⟨fun q => q.elim (fun e => absurd e.symm h) id, .inr⟩
      simp only [this]
theorem depthRows : ∀ rows : List (List Int), PyData.depthAll (rows.map fun r => PyData.tuple (r.map .int)) ≤ 1
  | [] => by simp [PyData.depthAll]
  | r :: rows => by
    have h := depthRows rows
    simp only [List.map_cons, PyData.depthAll, PyData.depth, PySem.W.depth_ints]
    omega
theorem shapedRows (rows : List (List Int)) : SeqAt.shaped (.list (rows.map fun r => PyData.tuple (r.map .int))) = true := by
  have h0 : ∀ rows : List (List Int), PyData.canLayAll0 (rows.map fun r => PyData.tuple (r.map .int)) = true := fun rows => by
    induction rows with
    | nil => simp [PyData.canLayAll0]
    | cons r rows ih => simp only [List.map_cons, PyData.canLayAll0, PyData.canLay0, PySem.W.ke_canLayAll0, ih]; rfl
  have h := depthRows rows
  simp only [SeqAt.shaped, PyData.canLay0, PyData.depth, h0]
  simp; omega
section
variable {G : Gh} {Q : DV → Gh → Prop} {e : Addr}
theorem s_inRows {l : List Int} {rows : List (List Int)} (he : G e = some (.lst (rows.map fun r => .tup (r.map .int)))) (q : Q (.bl (decide (l ∈ rows))) G) : dInL false (.tup (l.map .int)) (.ref e) G Q :=
  ⟨_, _, drTI l, .ref he (drRows rows), shapedTI l, shapedRows rows, by rw [anyRows, Bool.false_xor]; exact q⟩
theorem s_ninRows {l : List Int} {rows : List (List Int)} (he : G e = some (.lst (rows.map fun r => .tup (r.map .int)))) (q : Q (.bl (!decide (l ∈ rows))) G) : dInL true (.tup (l.map .int)) (.ref e) G Q :=
  ⟨_, _, drTI l, .ref he (drRows rows), shapedTI l, shapedRows rows, by rw [anyRows, Bool.true_xor]; exact q⟩
theorem x_getDt {kvs : List (List Key × DV)} {y d : DV} {k : List Key} (he : G e = some (.dt kvs)) (hk : keyT y = some k) (q : Q ((valD kvs k).getD d) G) : dGetT (.ref e) [y, d] G Q := ⟨kvs, k, he, hk, q⟩
theorem x_setdT {kvs : List (List Key × DV)} {y d : DV} {k : List Key} (he : G e = some (.dt kvs)) (hk : keyT y = some k) (hl : kvs.length < sizeLine) (h1 : ∀ v, valD kvs k = some v → Q v G)
    (h2 : valD kvs k = none → ∀ G1, Old e G G1 → G1 e = some (.dt (putD kvs k d)) → Q d G1) : dSetdT (.ref e) [y, d] G Q := ⟨kvs, k, he, hk, hl, h1, fun hn => h2 hn _ Old.set gup_same⟩
theorem x_dictPT {kvs : List (DV × List Key × DV)} (he : G e = some (.lst (kvs.map fun t => .tup [t.1, t.2.2]))) (hk : ∀ t ∈ kvs, keyT t.1 = some t.2.1) (q : ∀ p G1, G p = none → Sub G G1 → G1 p = some (.dt (mergeD [] (kvs.map (·.2)))) → Q (.ref p) G1) : dDictPT [.ref e] G Q :=
  ⟨kvs, he, hk, fun p np => q p _ np (Sub.new np) gup_same⟩
theorem x_sortedDT {kvs : List (List Key × DV)} {ks : List (List Int)} (he : G e = some (.dt kvs)) (hk : kvs.map (·.1) = ks.map (fun l => l.map Sum.inl)) (hne : ∀ k ∈ ks, k ≠ []) (q : ∀ (ys : List (List Int)) p G1, ys.Perm ks → ys.Pairwise (fun a b => rowLe a b = true) → G p = none → Sub G G1 → G1 p = some (.lst (ys.map fun y => .tup (y.map .int))) → Q (.ref p) G1) : dSortedDT [.ref e] G Q :=
  ⟨kvs, ks, he, hk, hne, fun ys p hp hs np => q ys p _ hp hs np (Sub.new np) gup_same⟩
end
/-- [x for x in xs if ..], the test unknown -/
theorem lcT_sub {α : Type} {stay : Gh → Prop} {g : DG} {tt : DT} {te : DE} {env : Dv} {Q : DV → Gh → Prop} {xs : List α} {G : Gh} (enc : α → DV) (R : Nat → Gh → Prop) (h0 : R 0 G) (hs : ∀ i G, R i G → stay G) (hn : xs.length ≤ sizeLine)
    (ht : ∀ i a G (K : DV → Gh → Prop) (K2 : Gh → Prop), xs[i]? = some a → a ∈ xs → R i G → (∀ G1, R (i + 1) G1 → K (enc a) G1) → (∀ G1, R (i + 1) G1 → K2 G1) → g (enc a) env G fun env1 G1 => tt (fun _ _ _ => False) env1 G1 fun b G2 => if b = true then te (fun _ _ _ => False) env1 G2 K else K2 G2)
    (he : ∀ G (bs : List α), R xs.length G → (∀ b ∈ bs, b ∈ xs) → bs.length ≤ xs.length → ∀ p G1, G p = none → Sub G G1 → G1 p = some (.lst (bs.map enc)) → Q (.ref p) G1) : lcL stay g tt te env Q (xs.map enc) [] G := by
  refine lcL_inv (fun i acc G => (∃ bs : List α, acc = bs.map enc ∧ bs.length ≤ i ∧ ∀ b ∈ bs, b ∈ xs) ∧ R i G) ⟨⟨[], rfl, Nat.le_refl _, fun b h => nomatch h⟩, h0⟩ (fun i acc G _ h => hs i G h.2) (fun i d acc G K e hi ⟨⟨bs, ea, el, eb⟩, r⟩ k => ?_)
    (fun acc G ⟨⟨bs, ea, el, eb⟩, r⟩ p hp => he G bs (by rw [List.length_map] at r; exact r) eb (by rw [List.length_map] at el; exact el) p _ hp (Sub.new hp) (by rw [← ea]; exact gup_same))
  obtain ⟨a, e', rfl⟩ := map_get e
  rw [List.length_map] at hi
  exact ht i a G (fun y G3 => acc.length < sizeLine ∧ K (acc ++ [y]) G3) (K acc) e' (List.mem_of_getElem? e') r
    (fun G1 r1 => ⟨by rw [ea, List.length_map]; omega, k _ _ ⟨⟨bs ++ [a], by rw [ea]; simp, by simp; omega, fun b hb => by
      rcases List.mem_append.mp hb with hb | hb
      · exact eb b hb
      · rw [List.mem_singleton.mp hb]; exact List.mem_of_getElem? e'⟩, r1⟩⟩)
    (fun G1 r1 => k _ _ ⟨⟨bs, ea, by omega, eb⟩, r1⟩)
section
variable {X : Cx} {W : WX} {pos : Pos} {Y : DX} {env : Dv} {G : Gh} {Q : DV → Gh → Prop}
/-- {}, its keys to be tuples -/
def wDnewT : DE := fun _ _ G Q => ∀ p, G p = none → Q (.ref p) (gup G p (.dt []))
theorem q_dnewT : QE X W (.Dict [] [] pos) wDnewT :=
  ⟨PE.wk pe_dnewT fun σ H Q ⟨Y, env, G, P, er, wg, h, k, kx⟩ p hp => k _ _ _ _ (h p (wg.non hp)) (wg.put (.inl hp) ⟨[], upd_same, .nil⟩) (Ext.newC hp) (.ref p)⟩
theorem x_dnewT (q : ∀ p G1, G p = none → Sub G G1 → G1 p = some (.dt []) → Q (.ref p) G1) : wDnewT Y env G Q := fun p hp => q p _ hp (Sub.new hp) gup_same
end
end DL

namespace DL
open PySem PySem.Spec L2
open PyProof.Rows hiding St
variable [Cls]
/-! ### defs handed over as values, and called by a local name -/
theorem ConstAt.fn {K : PySem.W.Frag} {mg : Str → Option Value} {x : Str} {a : Addr} (h : mg x = some (.ref a)) : ConstAt K mg x (.ref a) := ⟨_, .ref a, h, rfl, fun H => .ref a⟩
/-- the defs that a local name may hold -/
inductive Fvs (P : Program) (w : World) (K : PySem.W.Frag) (mg : Str → Option Value) (base : Heap) (j : Nat) : List (Str × DF) → Prop
  | nil : Fvs P w K mg base j []
  | cons {x : Str} {ps : List Str} {d : DF} {k : Nat} {T : List (Str × DF)} : Has P w K mg base k x ps d → mg x = some (.ref (Cls.adr x)) → k ≤ j → Fvs P w K mg base j T → Fvs P w K mg base j ((x, d) :: T)
theorem Fvs.get {P : Program} {w : World} {K : PySem.W.Frag} {mg : Str → Option Value} {base : Heap} {j : Nat} {x : Str} {d : DF} : ∀ {T : List (Str × DF)}, Fvs P w K mg base j T → (x, d) ∈ T → ∃ (k : Nat) (ps : List Str), Has P w K mg base k x ps d ∧ mg x = some (.ref (Cls.adr x)) ∧ k ≤ j
  | _, .nil, h => by simp at h
  | _, .cons a b c t, h => by
    rcases List.mem_cons.mp h with h | h
    · cases h; exact ⟨_, _, a, b, c⟩
    · exact t.get h
def wCallV (i : Nat) (T : List (Str × DF)) (wr : DA) : DE := fun Y env G Q => ∃ (n : Str) (d : DF), env[i]? = some (some (.ref (Cls.adr n))) ∧ (n, d) ∈ T ∧ wr Y env G fun ds G1 => d ds G1 Q Y
section
variable {X : Cx} {W : WX} {i : Nat} {x : Str} {p pos : Pos} {e : Expr} {es : List Expr} {wr : DA} {T : List (Str × DF)} {j : Nat}
theorem VR.refA {K : PySem.W.Frag} {H : Hp} {v : V} {a : Addr} (r : VR K H v (.ref a)) : v = .ref a := by cases r; rfl
theorem q_callV (F : Fvs X.prog X.w X.K X.mg X.base j T) (hgd : X.A.guards = some []) (hr : Room j X.A) (tk : Takes X W) (ha : QA X W (e :: es) wr) (hN : X.N[i]? = some x := by rfl) (hv : Vis X.env.scope x := by first | exact Or.inl rfl | exact Or.inr (Or.inl rfl) | exact Or.inr (Or.inr rfl))
    (hdb : (x == ("__debug__" : Str)) = false := by decide) (hcd : (x == ("__classdict__" : Str)) = false := by decide)
    (he : starEach (e :: es) X.env = (false, eval e X.env) :: starEach es X.env := by rfl) (hpl : (backTo pos (starEach es X.env)).any (·.1) = false := by rfl) :
    QE X W (.Call (.Name x p) (e :: es) [] pos) (wCallV i T wr) := by
  refine ⟨⟨?_⟩⟩
  rintro pins s σ H Q I ⟨Y, env, G, P, er, wg, ⟨n, d, hs, hT, h⟩, kq, kx⟩
  obtain ⟨k, ps, Fh, hm, hk⟩ := F.get hT
  obtain ⟨f, fd, F, m, kp, b⟩ := Fh.ex
  have hf : f = Cls.adr n := by
    rw [hm] at m
    have := Option.some.inj m
    cases this; rfl
  subst hf
  obtain ⟨v, hsv, rv⟩ := er.get hs
  have := rv.refA
  subst this
  refine wpAny_Call_Name_kw (thn ((pe_var (pos := p) hN hv hdb hcd).run pins s σ H (fun v H1 => v = .ref (Cls.adr n) ∧ H1 = H) I ⟨_, hsv, rfl, rfl⟩) fun u s1 ⟨v, H1, I1, r1, q1⟩ => ?_)
  obtain ⟨rfl, rfl⟩ := q1
  cases r1
  refine PySem.W.callWith_K (h₀ := X.base) I.ok.mod.kin kp ?_ he hpl
  refine thn (ha.pa.run pos pins s1 σ _ (fun vs H1 => liftF X.K d vs H1 Q (WE W σ)) I1 ⟨Y, env, G, _, er, wg, h, fun ds G1 vs H1 h1 w1 x1 r1 => ?_, kx⟩) ?_
  · exact ⟨ds, G1, P, Y, r1, w1, h1, fun r G' v H' q w' x' r' => kq r G' v H' q w' (x1.trans x') r', kx.step x1⟩
  · rintro us s2 ⟨vs, H2, I2, r, q⟩
    exact ⟨I2.kIn, run_call F hgd (hr.mono hk) b tk I2 r q⟩
theorem s_callV {Y : DX} {env : Dv} {G : Gh} {Q : DV → Gh → Prop} (n : Str) (d : DF) (hs : env[i]? = some (some (.ref (Cls.adr n)))) (hT : (n, d) ∈ T) (q : wr Y env G fun ds G1 => d ds G1 Q Y) : wCallV i T wr Y env G Q := ⟨n, d, hs, hT, q⟩
end
end DL

namespace DL
open PySem PySem.Spec L2
open PyProof.Rows hiding St
/-! ### texts: a sign by its place, int of a text, split, join -/
section
variable {X : Cx}
def dIntZ : DC := fun ds G Q => match ds with
  | [.str a] => ∃ n, PySem.intText? a = some n ∧ a.length ≤ 640 ∧ Q (.int n) G
  | _ => False
theorem c_intZ : CallD X (.type "int") dIntZ := by
  rintro pins s σ H xs us Q I rs ⟨ds, G, P, vs, wg, h, k⟩
  match ds, vs, h with
  | [.str a], .cons (.str _) .nil, ⟨n, hn, hl, h⟩ => exact call_int_str pins s σ H _ us Q I rs ⟨a, n, rfl, hn, hl, op_end wg k h (.int _)⟩
def dSplit : DM := fun x ds G Q => match x, ds with
  | .str a, [.str b] => (b.length == 0) = false ∧ a.length + 2 ≤ sizeLine ∧ ∀ p, G p = none → Q (.ref p) (gup G p (.lst ((Txt.split a b).map .str)))
  | _, _ => False
theorem vrs_strs {K : PySem.W.Frag} {H : Hp} : ∀ ys : List Str, VRs K H (ys.map V.str) (ys.map DV.str)
  | [] => .nil
  | y :: ys => .cons (.str y) (vrs_strs ys)
theorem strs_vrs {K : PySem.W.Frag} {H : Hp} : ∀ {ys : List Str} {vs : List V}, VRs K H vs (ys.map DV.str) → vs = ys.map V.str
  | [], _, .nil => rfl
  | y :: ys, _, .cons (.str _) t => by rw [strs_vrs t]; rfl
theorem m_split : MtD X "str.split" dSplit := by
  rintro pins s σ H x xs v us Q I rx rs ⟨dx, ds, G, P, vx, vs, wg, h, k⟩
  match dx, ds, vx, vs, h with
  | .str a, [.str b], .str _, .cons (.str _) .nil, ⟨hb, hz, h⟩ =>
    exact mt_split pins s σ H _ _ v us Q I rx rs ⟨a, b, rfl, rfl, hb, hz, fun p np => k _ _ _ _ (h p (wg.non np)) (wg.newL np (vrs_strs _)) (Ext.newC np) (.ref p)⟩
def dJoin : DM := fun x ds G Q => match x, ds with
  | .str a, [.ref p] => ∃ ys : List Str, G p = some (.lst (ys.map .str)) ∧ (ys.map (·.length)).sum + ys.length * a.length ≤ 16777216 ∧ Q (.str (Txt.join a ys)) G
  | _, _ => False
theorem m_join : MtD X "str.join" dJoin := by
  rintro pins s σ H x xs v us Q I rx rs ⟨dx, ds, G, P, vx, vs, wg, h, k⟩
  match dx, ds, vx, vs, h with
  | .str a, [.ref p], .str _, .cons (.ref _) .nil, ⟨ys, gp, hz, h⟩ =>
    obtain ⟨zs, hp, r⟩ := wg _ _ gp
    rw [strs_vrs r] at hp
    exact mt_join pins s σ H _ _ v us Q I rx rs ⟨a, p, ys, rfl, rfl, .inl (SqL.of hp), hz, op_end wg k h (.str _)⟩
end
section
variable {G : Gh} {Q : DV → Gh → Prop} {z a b : Str} {i : Int}
theorem s_intZ {n : Int} (hn : PySem.intText? a = some n) (hl : a.length ≤ 640) (q : Q (.int n) G) : dIntZ [.str a] G Q := ⟨n, hn, hl, q⟩
theorem x_split (hb : (b.length == 0) = false) (hz : a.length + 2 ≤ sizeLine) (q : ∀ p G1, G p = none → Sub G G1 → G1 p = some (.lst ((Txt.split a b).map .str)) → Q (.ref p) G1) : dSplit (.str a) [.str b] G Q := ⟨hb, hz, fun p hp => q p _ hp (Sub.new hp) gup_same⟩
theorem s_joinL {p : Addr} {ys : List Str} (hp : G p = some (.lst (ys.map .str))) (hz : (ys.map (·.length)).sum + ys.length * a.length ≤ 16777216) (q : Q (.str (Txt.join a ys)) G) : dJoin (.str a) [.ref p] G Q := ⟨ys, hp, hz, q⟩
end
/-! ### split of joined texts -/
theorem str_ext {x y : Str} (h : x.cps.toList = y.cps.toList) : x = y := by
  cases x; cases y
  simp only at h
  congr 1
  exact Array.toList_inj.mp h
theorem join_one {c : Nat} {x : Str} : Str.join ⟨#[c]⟩ [x] = x := rfl
theorem join_cps (c : Nat) (x y : Str) (r : List Str) : (Str.join ⟨#[c]⟩ (x :: y :: r)).cps.toList = x.cps.toList ++ c :: (Str.join ⟨#[c]⟩ (y :: r)).cps.toList := by
  show ((x.cps ++ #[c]) ++ (Str.join ⟨#[c]⟩ (y :: r)).cps).toList = _
  simp
theorem cut_eq {c : Nat} : ∀ {x y u v : List Nat}, c ∉ x → c ∉ y → x ++ c :: u = y ++ c :: v → x = y ∧ u = v
  | [], [], u, v, _, _, h => by simpa using h
  | [], b :: y, u, v, _, hy, h => by
    have h := (List.cons.inj (show c :: u = b :: (y ++ c :: v) from h)).1
    exact absurd (by rw [h]; exact List.mem_cons_self ..) hy
  | a :: x, [], u, v, hx, _, h => by
    have h := (List.cons.inj (show a :: (x ++ c :: u) = c :: v from h)).1
    exact absurd (by rw [h]; exact List.mem_cons_self ..) hx
  | a :: x, b :: y, u, v, hx, hy, h => by
    obtain ⟨h1, h2⟩ := List.cons.inj (show a :: (x ++ c :: u) = b :: (y ++ c :: v) from h)
    obtain ⟨h3, h4⟩ := cut_eq (fun m => hx (List.mem_cons_of_mem _ m)) (fun m => hy (List.mem_cons_of_mem _ m)) h2
    exact ⟨by rw [h1, h3], h4⟩
theorem join_inj {c : Nat} : ∀ {a b : List Str}, a ≠ [] → b ≠ [] → (∀ w ∈ a, c ∉ w.cps.toList) → (∀ w ∈ b, c ∉ w.cps.toList) → Str.join ⟨#[c]⟩ a = Str.join ⟨#[c]⟩ b → a = b
  | [], _, h, _, _, _, _ => absurd rfl h
  | _ :: _, [], _, h, _, _, _ => absurd rfl h
  | [x], [y], _, _, _, _, h => by rw [join_one, join_one] at h; rw [h]
  | [x], y :: z :: r, _, _, hx, _, h => by
    have h := congrArg (fun s : Str => s.cps.toList) h
    simp only [join_one, join_cps] at h
    exact absurd (by rw [h]; simp) (hx x (List.mem_cons_self ..))
  | x :: z :: r, [y], _, _, _, hy, h => by
    have h := congrArg (fun s : Str => s.cps.toList) h
    simp only [join_one, join_cps] at h
    exact absurd (by rw [← h]; simp) (hy y (List.mem_cons_self ..))
  | x :: x2 :: r, y :: y2 :: s, _, _, hx, hy, h => by
    have h := congrArg (fun s : Str => s.cps.toList) h
    simp only [join_cps] at h
    obtain ⟨h1, h2⟩ := cut_eq (hx x (List.mem_cons_self ..)) (hy y (List.mem_cons_self ..)) h
    have := join_inj (a := x2 :: r) (b := y2 :: s) (by simp) (by simp) (fun w hw => hx w (List.mem_cons_of_mem _ hw)) (fun w hw => hy w (List.mem_cons_of_mem _ hw)) (str_ext h2)
    rw [str_ext h1, this]
theorem split_join {c : Nat} {ws : List Str} (hne : ws ≠ []) (h : ∀ w ∈ ws, c ∉ w.cps.toList) : Txt.split (Txt.join ⟨#[c]⟩ ws) ⟨#[c]⟩ = ws := by
  have e : Txt.join ⟨#[c]⟩ ws = Str.join ⟨#[c]⟩ ws := StrLaws.glued_eq_join _ _
  have p := PyProof.Rows.split_pos (Txt.join ⟨#[c]⟩ ws) ⟨#[c]⟩
  refine join_inj (c := c) (fun z => by rw [z] at p; simp at p) hne (fun w hw => StrLaws.split_free _ c w hw) h ?_
  rw [StrLaws.join_split, e]
theorem join_split' (a : Str) (c : Nat) : Txt.join ⟨#[c]⟩ (Txt.split a ⟨#[c]⟩) = a := by
  have e : Txt.join ⟨#[c]⟩ (Txt.split a ⟨#[c]⟩) = Str.join ⟨#[c]⟩ (Txt.split a ⟨#[c]⟩) := StrLaws.glued_eq_join _ _
  rw [e, StrLaws.join_split]
end DL

namespace DL
open PySem PySem.Spec L2
open PyProof.Rows hiding St
/-! ### a text some times -/
section
variable {X : Cx}
theorem op_mulZ : OpR X (binaryOp .Mult) (fun x y H Q => ∃ (a : Str) (n : Int), x = .str a ∧ y = .int n ∧ PySem.MulOk a n ∧ Q (.str (Txt.mul a n)) H) := by
  intro pins s σ H x y v u Q I rx ry h
  obtain ⟨a, n, rfl, rfl, hok, q⟩ := h
  obtain ⟨t, rfl⟩ := rx
  obtain ⟨t', rfl⟩ := ry
  exact SB.mul hok fun t' k => ⟨.str _, H, I.tok k, ⟨t', rfl⟩, q⟩
def dMulZ : D2 := fun x y G Q => match x, y with
  | .str a, .int n => PySem.MulOk a n ∧ Q (.str (Txt.mul a n)) G
  | _, _ => False
theorem o_mulZ : OpD X (binaryOp .Mult) dMulZ := by
  rintro pins s σ H x y v u Q I rx ry ⟨dx, dy, G, P, vx, vy, wg, h, k⟩
  match dx, dy, vx, vy, h with
  | .str a, .int n, .str _, .int _, ⟨hok, h⟩ => exact op_mulZ pins s σ H _ _ v u Q I rx ry ⟨a, n, rfl, rfl, hok, op_end wg k h (.str _)⟩
end
theorem s_mulZ {G : Gh} {Q : DV → Gh → Prop} {a : Str} {n : Int} (h : PySem.MulOk a n) (q : Q (.str (Txt.mul a n)) G) : dMulZ (.str a) (.int n) G Q := ⟨h, q⟩
/-- one sign some times -/
theorem mul_sign {c : Nat} {m : Nat} (h : 1 ≤ m) (hm : m ≤ 1000000) : PySem.MulOk ⟨#[c]⟩ (m : Nat) ∧ (Txt.mul ⟨#[c]⟩ (m : Nat)).cps.toList = List.replicate m c := by
  have fl : ∀ (k : Nat) (acc : Array Nat), ((List.replicate k #[c]).foldl (· ++ ·) acc).toList = acc.toList ++ List.replicate k c := by
    intro k
    induction k with
    | zero => intro acc; simp
    | succ k ih => intro acc; rw [List.replicate_succ, List.foldl_cons, ih, List.replicate_succ]; simp
  constructor
  · refine ⟨by simp; omega, fun _ _ => ?_, fun _ _ => ?_⟩
    · show ¬ ((1 : Nat) : Int) > _
      have : (1 : Int) ≤ (2 ^ 63 - 1) / (m : Int) := (Int.le_ediv_iff_mul_le (by omega)).mpr (by omega)
      omega
    · show Builtin.Str.tooLong (1 * (m : Int).toNat) = false
      rw [Int.toNat_natCast, Nat.one_mul]
      unfold Builtin.Str.tooLong
      exact decide_eq_false (by have := sizeLine_eq; omega)
  · unfold Txt.mul
    rw [if_neg (by omega)]
    split
    · rename_i h1
      have : m = 1 := by
        simp only [Bool.or_eq_true, beq_iff_eq] at h1
        rcases h1 with h1 | h1
        · omega
        · exact absurd (show (1 : Nat) = 0 from h1) (by decide)
      subst this; rfl
    · rw [Int.toNat_natCast, fl]; simp
end DL

namespace DL
open PySem PySem.Spec L2
open PyProof.Rows hiding St
/-! ### instances of own classes: an attribute read -/
section
variable {X : Cx} {W : WX} {e : Expr} {we : DE} {pos : Pos} {n : Str} {C : Addr}
def flK (C : Addr) (n : Str) (Q : DV → Gh → Prop) (x : DV) (G1 : Gh) : Prop := match x with
  | .ref a => ∃ fs v, G1 a = some (.ins C fs) ∧ fs.lookup n = some v ∧ Q v G1
  | _ => False
def wFl (C : Addr) (n : Str) (we : DE) : DE := fun Y env G Q => we Y env G (flK C n Q)
theorem q_fl (hC : L2.Cls X.K C) (hn : L2.NoAttr X.K C n) (he : QE X W e we) (hat : attributeBase e n X.env (eval e X.env) = eval e X.env := by rfl) : QE X W (.Attribute e n pos) (wFl C n we) := by
  refine ⟨PE.wk (pe_fld he.pe hat) ?_⟩
  rintro σ H Q ⟨Y, env, G, P, er, wg, h, k, kx⟩
  refine ⟨Y, env, G, _, er, wg, h, fun x G1 v H1 h1 w1 x1 r1 => ?_, kx⟩
  cases x <;> first | exact h1.elim | skip
  obtain ⟨fs, v', ga, hv, q⟩ := h1
  cases r1
  obtain ⟨dx, xs, ha, _, fr⟩ := w1 _ _ ga
  obtain ⟨u, hu, ru⟩ := fr.look hv
  exact ⟨_, _, _, _, u, rfl, ha, hC, hn, hu, k _ _ _ _ q w1 x1 ru⟩
end
def putFd (f : Str) (d : DV) : List (Str × DV) → List (Str × DV)
  | [] => [(f, d)]
  | (g, x) :: r => if g = f then (g, d) :: r else (g, x) :: putFd f d r
theorem FR.putF {K : PySem.W.Frag} {H : Hp} {f : Str} {v : V} {d : DV} (r : VR K H v d) : ∀ {xs : List (Str × V)} {ys : List (Str × DV)}, FR K H xs ys → FR K H (L2.putF f v xs) (putFd f d ys)
  | _, _, .nil => .cons r .nil
  | _, _, .cons (k := g) q t => by
    unfold L2.putF putFd
    by_cases h : g = f
    · rw [if_pos h, if_pos h]; exact .cons r t
    · rw [if_neg h, if_neg h]; exact .cons q (t.putF r)
theorem FR.len {K : PySem.W.Frag} {H : Hp} : ∀ {xs : List (Str × V)} {ys : List (Str × DV)}, FR K H xs ys → xs.length = ys.length
  | _, _, .nil => rfl
  | _, _, .cons _ t => by simp [t.len]
def wStFl (C : Addr) (n : Str) (wo wv : DE) : DS := fun D env G => wv (fun C fs G' => D.ex C fs env G') env G fun y G1 => wo (fun C fs G' => D.ex C fs env G') env G1 fun x G2 => match x with
  | .ref a => ∃ fs, G2 a = some (.ins C fs) ∧ fs.length < 1000 ∧ D.nx env (gup G2 a (.ins C (putFd n y fs)))
  | _ => False
theorem qs_fl {X : Cx} {W : WX} {o value : Expr} {wo wv : DE} {pos pos' : Pos} {n : Str} {C : Addr} (hC : L2.Cls X.K C) (hn : L2.NoAttr X.K C n) (ho : QE X W o wo) (hv : QE X W value wv) (hs : swapsWith value (some (.Attribute o n pos')) pos.line X.env = pure false := by rfl) :
    QS X W (.Assign [.Attribute o n pos'] value pos) (wStFl C n wo wv) := by
  refine ⟨PS.wk (ps_fld ho.pe hv.pe hs) ?_⟩
  rintro D σ H ⟨env, G, De, er, wg, h, le⟩
  refine ⟨_, env, G, _, er, wg, h, fun y G1 v H1 h1 w1 x1 r1 => ⟨_, env, G1, _, er.ext wg x1, w1, h1, fun x G2 u H2 h2 w2 x2 r2 => ?_, (le.step x1).xle w1 (er.ext wg x1)⟩, le.xle wg er⟩
  cases x <;> first | exact h2.elim | skip
  obtain ⟨fs, ga, hl, q⟩ := h2
  cases r2
  obtain ⟨dx, xs, ha, hdx, fr⟩ := w2 _ _ ga
  have r1' := r1.ext w1 x2
  have hne : dx ≠ _ := fun e => by rw [e, ha] at hdx; cases hdx
  refine ⟨_, _, dx, xs, rfl, ha, hC, hn, by rw [fr.len]; exact hl, ?_⟩
  have px := x1.trans x2
  have w3 : WG X.K (gup G2 _ (.ins C (putFd n y fs))) (upd H2 _ (.ins C dx (L2.putF n v xs))) := w2.put (.inr ⟨_, ga⟩) ⟨dx, _, upd_same, (upd_ne hne).trans hdx, (fr.putF r1').ext w2 (Put.ext (c := .ins C (putFd n y fs)) (.inr ⟨_, ga⟩))⟩
  exact le.nx _ _ _ _ q (((er.ext wg px)).ext w2 (Ext.setC (c' := .ins C (putFd n y fs)) ga)) w3 (px.trans (Ext.setC ga))
theorem s_stFl {D : DEnds} {env : Dv} {G : Gh} {C : Addr} {n : Str} {wo wv : DE} (q : wv (fun C fs G' => D.ex C fs env G') env G fun y G1 => wo (fun C fs G' => D.ex C fs env G') env G1 fun x G2 => match x with
    | .ref a => ∃ fs, G2 a = some (.ins C fs) ∧ fs.length < 1000 ∧ D.nx env (gup G2 a (.ins C (putFd n y fs)))
    | _ => False) : wStFl C n wo wv D env G := q
theorem s_fl {Y : DX} {env : Dv} {G : Gh} {Q : DV → Gh → Prop} {C : Addr} {n : Str} {we : DE} (q : we Y env G (flK C n Q)) : wFl C n we Y env G Q := q
theorem s_flK {G : Gh} {Q : DV → Gh → Prop} {C a : Addr} {n : Str} {fs : List (Str × DV)} {v : DV} (ha : G a = some (.ins C fs)) (hv : fs.lookup n = some v) (q : Q v G) : flK C n Q (.ref a) G := ⟨fs, v, ha, hv, q⟩
/-! ### a method's call -/
def mtK (C : Addr) (d : DF) (wr : DA) (Y : DX) (env : Dv) (m : Str) (Q : DV → Gh → Prop) (x : DV) (G1 : Gh) : Prop := match x with
  | .ref a => ∃ fs, G1 a = some (.ins C fs) ∧ fs.lookup m = none ∧ wr Y env G1 fun ds G2 => d (.ref a :: ds) G2 Q Y
  | _ => False
def wMeth (C : Addr) (m : Str) (d : DF) (wo : DE) (wr : DA) : DE := fun Y env G Q => wo Y env G (mtK C d wr Y env m Q)
theorem FR.none {K : PySem.W.Frag} {H : Hp} {n : Str} : ∀ {xs : List (Str × V)} {ys : List (Str × DV)}, FR K H xs ys → ys.lookup n = none → xs.lookup n = none
  | _, _, .nil, _ => rfl
  | _, _, .cons (k := k) r t, h => by
    rw [List.lookup_cons] at h ⊢
    cases hk : n == k
    · rw [hk] at h; exact t.none h
    · rw [hk] at h; cases h
theorem q_meth {X : Cx} {W : WX} {o e : Expr} {es : List Expr} {wo : DE} {wr : DA} {m : Str} {C f : Addr} {fd : FuncData} {ps : List Str} {d : DF} {k : Nat} {pos apos : Pos} {pl : Sem Bool} (c : L2.Cls X.K C) (hm : L2.Meth X.K C m f) (F : FG X.prog X.w X.K X.mg X.base k f fd ps d) (hgd : X.A.guards = some []) (hr : Room k X.A) (hb : Binds X.K fd ps []) (tk : Takes X W)
    (ho : QE X W o wo) (ha : QA X W (e :: es) wr)
    (hst : starEach (e :: es) X.env = (false, eval e X.env) :: starEach es X.env := by rfl) (hpl : (backTo pos (starEach es X.env)).any (·.1) = false := by rfl)
    (ht : eval (.Call (.Attribute o m apos) (e :: es) [] pos) X.env = (do
      let ov ← eval o X.env
      standAt apos.atName
      let (f, first) ← holding [ov] (getMethod ov m pl)
      callWith pos f first (backTo pos (starEach (e :: es) X.env)) (backToKw pos (keywordEach [] X.env))) := by rfl) :
    QE X W (.Call (.Attribute o m apos) (e :: es) [] pos) (wMeth C m d wo wr) := by
  refine ⟨⟨?_⟩⟩
  rintro pins s σ H Q I ⟨Y, env, G, P, er, wg, h, kq, kx⟩
  refine PySem.W.methodCall_KW (pl := pl) (thn (ho.pe.run pins s σ H (fun x H1 => ∃ dv G1, mtK C d wr Y env m P dv G1 ∧ WG X.K G1 H1 ∧ Ext G H G1 H1 ∧ VR X.K H1 x dv) I ⟨Y, env, G, _, er, wg, h, fun x G1 v H1 h1 w1 x1 r1 => ⟨x, G1, h1, w1, x1, r1⟩, kx⟩) fun u s1 ⟨x, H1, I1, rx, dv, G1, h1, w1, x1, r1⟩ => ?_) ht
  cases dv <;> first | exact h1.elim | skip
  rename_i a
  obtain ⟨fs, ga, hl, h2⟩ := h1
  cases r1
  obtain ⟨dx, xs, hA, _, fr⟩ := w1 _ _ ga
  cases rx
  refine getmeth_ok I1 hA c hm (fr.none hl) ?_
  refine PySem.W.callWith_K (first := [.ref a]) (h₀ := X.base) I.ok.mod.kin hm.kp ?_ hst hpl
  refine thn (ha.pa.run pos pins s1 σ _ (fun vs H2 => liftF X.K d (.ref a :: vs) H2 Q (WE W σ)) I1 ⟨Y, env, G1, _, er.ext wg x1, w1, h2, fun ds G2 vs H2 h3 w2 x2 r2 => ?_, kx.step x1⟩) ?_
  · exact ⟨_, G2, P, Y, .cons (.ref a) r2, w2, h3, fun r G' v H' q w' x' r' => kq r G' v H' q w' ((x1.trans x2).trans x') r', kx.step (x1.trans x2)⟩
  · rintro us s2 ⟨vs, H2, I2, r, q⟩
    exact ⟨I2.kIn, run_call (us := .ref a :: us) (vs := .ref a :: vs) F hgd hr hb tk I2 (.cons rfl r) q⟩
theorem q_meth0 {X : Cx} {W : WX} {o : Expr} {wo : DE} {m : Str} {C f : Addr} {fd : FuncData} {ps : List Str} {d : DF} {k : Nat} {pos apos : Pos} {pl : Sem Bool} (c : L2.Cls X.K C) (hm : L2.Meth X.K C m f) (F : FG X.prog X.w X.K X.mg X.base k f fd ps d) (hgd : X.A.guards = some []) (hr : Room k X.A) (hb : Binds X.K fd ps []) (tk : Takes X W)
    (ho : QE X W o wo)
    (ht : eval (.Call (.Attribute o m apos) [] [] pos) X.env = (do
      let ov ← eval o X.env
      standAt apos.atName
      let (f, first) ← holding [ov] (getMethod ov m pl)
      callWith pos f first (backTo pos (starEach [] X.env)) (backToKw pos (keywordEach [] X.env))) := by rfl) :
    QE X W (.Call (.Attribute o m apos) [] [] pos) (wMeth C m d wo wNil) := by
  refine ⟨⟨?_⟩⟩
  rintro pins s σ H Q I ⟨Y, env, G, P, er, wg, h, kq, kx⟩
  refine PySem.W.methodCall_KW (pl := pl) (thn (ho.pe.run pins s σ H (fun x H1 => ∃ dv G1, mtK C d wNil Y env m P dv G1 ∧ WG X.K G1 H1 ∧ Ext G H G1 H1 ∧ VR X.K H1 x dv) I ⟨Y, env, G, _, er, wg, h, fun x G1 v H1 h1 w1 x1 r1 => ⟨x, G1, h1, w1, x1, r1⟩, kx⟩) fun u s1 ⟨x, H1, I1, rx, dv, G1, h1, w1, x1, r1⟩ => ?_) ht
  cases dv <;> first | exact h1.elim | skip
  rename_i a
  obtain ⟨fs, ga, hl, h2⟩ := h1
  cases r1
  obtain ⟨dx, xs, hA, _, fr⟩ := w1 _ _ ga
  cases rx
  refine getmeth_ok I1 hA c hm (fr.none hl) ?_
  refine PySem.W.callWith_K0 (first := [.ref a]) I1.kIn hm.kp (run_call (us := [.ref a]) (vs := [.ref a]) F hgd hr hb tk I1 (.cons rfl .nil) ?_)
  exact ⟨_, G1, P, Y, .cons (.ref a) .nil, w1, h2, fun r G' v H' q w' x' r' => kq r G' v H' q w' (x1.trans x') r', kx.step x1⟩
/-! ### an object made -/
def mkK (C : Addr) (d : DF) (Y : DX) (Q : DV → Gh → Prop) (ds : List DV) (G1 : Gh) : Prop := ∀ p, G1 p = none → d (.ref p :: ds) (gup G1 p (.ins C [])) (fun r G2 => r = .non ∧ Q (.ref p) G2) Y
def wMake (C : Addr) (d : DF) (wr : DA) : DE := fun Y env G Q => wr Y env G (mkK C d Y Q)
section
variable {X : Cx} {W : WX} {k : Nat} {f C : Addr} {fd : FuncData} {ps : List Str} {d : DF} {x : Str} {p pos : Pos} {e : Expr} {es : List Expr} {wr : DA}
theorem run_mk {pins : List (Addr × Obj)} {σ : L2.St} {H : Hp} {s : Shared} {Q : VK} {us : List Value} {vs : List V} {Y : DX} {G : Gh} {P : DV → Gh → Prop} {ds : List DV} (M : L2.Mk X.K C f) (F : FG X.prog X.w X.K X.mg X.base k f fd ps d) (hg : X.A.guards = some []) (hr : Room (k + 1) X.A) (hb : Binds X.K fd ps [])
    (tk : Takes X W) (I : Inv X pins σ H s) (r : Vals vs us) (rv : VRs X.K H vs ds) (wg : WG X.K G H) (h : mkK C d Y P ds G)
    (kq : ∀ d G' v H', P d G' → WG X.K G' H' → Ext G H G' H' → VR X.K H' v d → Q v H') (kx : XLe X.K G H Y (WE W σ)) : wpAny (model X.prog X.w) X.A (call (.ref C) us) (EP X pins σ Q) X.xe s := by
  have nx : H (s.heap.objs.size + 1) = none := I.hok.fresh (Nat.le_succ _)
  have nd : H s.heap.objs.size = none := I.hok.fresh (Nat.le_refl _)
  have ne : s.heap.objs.size ≠ s.heap.objs.size + 1 := Nat.ne_of_lt (Nat.lt_succ_self _)
  have hq := h (s.heap.objs.size + 1) (wg.non nx)
  have x1 : Ext G H G (upd H s.heap.objs.size (.own (s.heap.objs.size + 1))) := Ext.new nd
  have w1 := wg.new (o := .own (s.heap.objs.size + 1)) nd
  have nx1 : (upd H s.heap.objs.size (.own (s.heap.objs.size + 1))) (s.heap.objs.size + 1) = none := by rw [upd_ne ne.symm]; exact nx
  have x2 : Ext G (upd H s.heap.objs.size (.own (s.heap.objs.size + 1))) (gup G (s.heap.objs.size + 1) (.ins C [])) (upd (upd H s.heap.objs.size (.own (s.heap.objs.size + 1))) (s.heap.objs.size + 1) (.ins C s.heap.objs.size [])) := Ext.newC nx1
  have w2 : WG X.K (gup G (s.heap.objs.size + 1) (.ins C [])) (upd (upd H s.heap.objs.size (.own (s.heap.objs.size + 1))) (s.heap.objs.size + 1) (.ins C s.heap.objs.size [])) :=
    w1.put (.inl nx1) ⟨_, [], upd_same, by rw [upd_ne ne]; exact upd_same, .nil⟩
  have I2 := Inv.made (C := C) I
  have x3 := x1.trans x2
  have hsp : liftF X.K d (.ref (s.heap.objs.size + 1) :: vs) (upd (upd H s.heap.objs.size (.own (s.heap.objs.size + 1))) (s.heap.objs.size + 1) (.ins C s.heap.objs.size [])) (fun v H2 => v = .non ∧ Q (.ref (s.heap.objs.size + 1)) H2) (WE W σ) := by
    refine ⟨_, _, _, Y, .cons (.ref _) ((rv.ext wg x1).ext w1 x2), w2, hq, ?_, kx.step x3⟩
    rintro r G' v H' ⟨rfl, q⟩ w' x' r'
    cases r'
    exact ⟨rfl, kq _ _ _ _ q w' (x3.trans x') (.ref _)⟩
  have r2 : Vals (V.ref (s.heap.objs.size + 1) :: vs) (Value.ref (s.heap.objs.size + 1) :: us) := .cons rfl r
  have hl : (Value.ref (s.heap.objs.size + 1) :: us).length = ps.length := by
    have := F.len _ _ _ _ hq
    rw [← r2.length, List.length_cons, rv.len]
    rw [List.length_cons] at this
    exact this
  have bb := hb _ (Value.ref (s.heap.objs.size + 1) :: us) I2.kIn (by rw [List.append_nil]; exact hl)
  rw [List.append_nil] at bb
  refine wpAny_call (make_map (f := f) I.kIn M.makes M.init (beq_iff_eq.mp M.fn) (codeAny_mono (F.run _ X.stack _ _ ⟨Value.ref (s.heap.objs.size + 1) :: us, []⟩ _ _ _ _ hg (hr.make C us [])
    (I2.env0.make C us []) bb r2 hsp) fun r s' hq' => ?_))
  cases r with
  | error e => exact passAt tk σ pins _ _ e s' I2 hq'
  | ok fl =>
    cases fl with
    | ret u =>
      obtain ⟨v, H', I3, rv, ev, q3⟩ := I2.after hq'
      subst ev
      exact ⟨rv, ⟨V.ref (s.heap.objs.size + 1), H', I3, rfl, q3⟩⟩
    | next => exact False.elim hq'
    | brk => exact False.elim hq'
    | cont => exact False.elim hq'
theorem q_make (M : L2.Mk X.K C f) (F : FG X.prog X.w X.K X.mg X.base k f fd ps d) (hgd : X.A.guards = some []) (hr : Room (k + 1) X.A) (hm : X.mg x = some (.ref C)) (hb : Binds X.K fd ps []) (tk : Takes X W)
    (ha : QA X W (e :: es) wr) (hg : Gl X x := by rfl) (hdb : (x == ("__debug__" : Str)) = false := by decide) (he : starEach (e :: es) X.env = (false, eval e X.env) :: starEach es X.env := by rfl) (hpl : (backTo pos (starEach es X.env)).any (·.1) = false := by rfl) :
    QE X W (.Call (.Name x p) (e :: es) [] pos) (wMake C d wr) := by
  refine ⟨⟨?_⟩⟩
  rintro pins s σ H Q I ⟨Y, env, G, P, er, wg, h, kq, kx⟩
  refine wpAny_Call_Name_kw (ld_glob I hg hm ?_ hdb)
  refine PySem.W.callWith_K (h₀ := X.base) I.ok.mod.kin M.kp ?_ he hpl
  refine thn (ha.pa.run pos pins s σ H (fun vs H1 => ∃ ds G1, mkK C d Y P ds G1 ∧ WG X.K G1 H1 ∧ Ext G H G1 H1 ∧ VRs X.K H1 vs ds) I ⟨Y, env, G, _, er, wg, h, fun ds G1 vs H1 h1 w1 x1 r1 => ⟨ds, G1, h1, w1, x1, r1⟩, kx⟩) ?_
  rintro us s1 ⟨vs, H1, I1, r, ds, G1, h1, w1, x1, r1⟩
  exact ⟨I1.kIn, run_mk M F hgd hr hb tk I1 r r1 w1 h1 (fun r G' v H' q w' x' r' => kq r G' v H' q w' (x1.trans x') r') (kx.step x1)⟩
theorem q_make0 (M : L2.Mk X.K C f) (F : FG X.prog X.w X.K X.mg X.base k f fd ps d) (hgd : X.A.guards = some []) (hr : Room (k + 1) X.A) (hm : X.mg x = some (.ref C)) (hb : Binds X.K fd ps []) (tk : Takes X W)
    (hg : Gl X x := by rfl) (hdb : (x == ("__debug__" : Str)) = false := by decide) : QE X W (.Call (.Name x p) [] [] pos) (wMake C d wNil) := by
  refine ⟨⟨?_⟩⟩
  rintro pins s σ H Q I ⟨Y, env, G, P, er, wg, h, kq, kx⟩
  refine wpAny_Call_Name_kw (ld_glob I hg hm ?_ hdb)
  exact PySem.W.callWith_K0 I.kIn M.kp (run_mk (us := []) (vs := []) M F hgd hr hb tk I .nil .nil wg h kq kx)
end
/-! ### own classes, as the texts name them -/
section
variable [Cls]
/-- a class: where it stands, what attributes its objects have -/
structure ClsAt (P : Program) (K : PySem.W.Frag) (mg : Str → Option Value) (x : Str) (fs : List Str) : Prop where
  g : mg x = some (.ref (Cls.adr x))
  c : L2.Cls K (Cls.adr x)
  no : ∀ f ∈ fs, L2.NoAttr K (Cls.adr x) f
theorem ClsAt.f {P : Program} {K : PySem.W.Frag} {mg : Str → Option Value} {x : Str} {fs : List Str} (C : ClsAt P K mg x fs) (f : Str) (h : f ∈ fs) : L2.NoAttr K (Cls.adr x) f := C.no f h
/-- a method that may be called -/
structure HasM (P : Program) (w : World) (K : PySem.W.Frag) (mg : Str → Option Value) (base : Heap) (k : Nat) (x m : Str) (ps : List Str) (d : DF) : Prop where
  ex : ∃ (f : Addr) (fd : FuncData), FG P w K mg base k f fd ps d ∧ L2.Meth K (Cls.adr x) m f ∧ Binds K fd ps []
/-- a class whose objects may be made -/
structure HasI (P : Program) (w : World) (K : PySem.W.Frag) (mg : Str → Option Value) (base : Heap) (k : Nat) (x : Str) (ps : List Str) (d : DF) : Prop where
  ex : ∃ (f : Addr) (fd : FuncData), FG P w K mg base k f fd ps d ∧ L2.Mk K (Cls.adr x) f ∧ Binds K fd ps []
section
variable {X : Cx} {W : WX} {e o : Expr} {es : List Expr} {wo : DE} {wr : DA} {pos apos p : Pos} {x m : Str} {ps fs : List Str} {d : DF} {j k : Nat} {pl : Sem Bool}
theorem q_methH (T : ClsAt X.prog X.K X.mg x fs) (F : HasM X.prog X.w X.K X.mg X.base k x m ps d) (hgd : X.A.guards = some []) (hr : Room j X.A) (tk : Takes X W) (ho : QE X W o wo) (ha : QA X W (e :: es) wr) (hjk : k ≤ j := by decide)
    (hst : starEach (e :: es) X.env = (false, eval e X.env) :: starEach es X.env := by rfl) (hpl : (backTo pos (starEach es X.env)).any (·.1) = false := by rfl)
    (ht : eval (.Call (.Attribute o m apos) (e :: es) [] pos) X.env = (do
      let ov ← eval o X.env
      standAt apos.atName
      let (f, first) ← holding [ov] (getMethod ov m pl)
      callWith pos f first (backTo pos (starEach (e :: es) X.env)) (backToKw pos (keywordEach [] X.env))) := by rfl) :
    QE X W (.Call (.Attribute o m apos) (e :: es) [] pos) (wMeth (Cls.adr x) m d wo wr) := by
  obtain ⟨f, fd, F, M, b⟩ := F.ex
  exact q_meth T.c M F hgd (hr.mono hjk) b tk ho ha hst hpl ht
theorem q_methH0 (T : ClsAt X.prog X.K X.mg x fs) (F : HasM X.prog X.w X.K X.mg X.base k x m ps d) (hgd : X.A.guards = some []) (hr : Room j X.A) (tk : Takes X W) (ho : QE X W o wo) (hjk : k ≤ j := by decide)
    (ht : eval (.Call (.Attribute o m apos) [] [] pos) X.env = (do
      let ov ← eval o X.env
      standAt apos.atName
      let (f, first) ← holding [ov] (getMethod ov m pl)
      callWith pos f first (backTo pos (starEach [] X.env)) (backToKw pos (keywordEach [] X.env))) := by rfl) :
    QE X W (.Call (.Attribute o m apos) [] [] pos) (wMeth (Cls.adr x) m d wo wNil) := by
  obtain ⟨f, fd, F, M, b⟩ := F.ex
  exact q_meth0 T.c M F hgd (hr.mono hjk) b tk ho ht
theorem q_makeH (T : ClsAt X.prog X.K X.mg x fs) (F : HasI X.prog X.w X.K X.mg X.base k x ps d) (hgd : X.A.guards = some []) (hr : Room j X.A) (tk : Takes X W) (ha : QA X W (e :: es) wr) (hjk : k + 1 ≤ j := by decide)
    (hg : Gl X x := by rfl) (hdb : (x == ("__debug__" : Str)) = false := by decide) (he : starEach (e :: es) X.env = (false, eval e X.env) :: starEach es X.env := by rfl) (hpl : (backTo pos (starEach es X.env)).any (·.1) = false := by rfl) :
    QE X W (.Call (.Name x p) (e :: es) [] pos) (wMake (Cls.adr x) d wr) := by
  obtain ⟨f, fd, F, M, b⟩ := F.ex
  exact q_make M F hgd (hr.mono hjk) T.g b tk ha hg hdb he hpl
theorem q_makeH0 (T : ClsAt X.prog X.K X.mg x fs) (F : HasI X.prog X.w X.K X.mg X.base k x ps d) (hgd : X.A.guards = some []) (hr : Room j X.A) (tk : Takes X W) (hjk : k + 1 ≤ j := by decide)
    (hg : Gl X x := by rfl) (hdb : (x == ("__debug__" : Str)) = false := by decide) : QE X W (.Call (.Name x p) [] [] pos) (wMake (Cls.adr x) d wNil) := by
  obtain ⟨f, fd, F, M, b⟩ := F.ex
  exact q_make0 M F hgd (hr.mono hjk) T.g b tk hg hdb
end
/-- a method at its place -/
structure MetAt (K : PySem.W.Frag) (x m qual : Str) (st : Stmt) (ps : List Str) : Prop where
  ex : ∃ (f : Addr) (fd : FuncData), L2.Fun K m qual st f fd ∧ Binds K fd ps [] ∧ PySem.W.findIn K (.ref (Cls.adr x)) m = some (some (.ref f)) ∧ PySem.W.isFn K (.ref f) = true
theorem MetAt.has {P : Program} {w : World} {K : PySem.W.Frag} {mg : Str → Option Value} {base : Heap} {k : Nat} {x m qual : Str} {st : Stmt} {ps : List Str} {d : DF} (D : MetAt K x m qual st ps) (h : ∀ f fd, L2.Fun K m qual st f fd → FG P w K mg base k f fd ps d) : HasM P w K mg base k x m ps d := by
  obtain ⟨f, fd, F, b, a, i⟩ := D.ex
  exact ⟨f, fd, h f fd F, ⟨a, i, F.kp⟩, b⟩
theorem MetAt.hasI {P : Program} {w : World} {K : PySem.W.Frag} {mg : Str → Option Value} {base : Heap} {k : Nat} {x qual : Str} {st : Stmt} {ps : List Str} {d : DF} (D : MetAt K x "__init__" qual st ps) (hm : PySem.W.makesIn K (Cls.adr x) = true) (hk : PySem.W.keepIn K (.ref (Cls.adr x)) = true) (h : ∀ f fd, L2.Fun K "__init__" qual st f fd → FG P w K mg base k f fd ps d) : HasI P w K mg base k x ps d := by
  obtain ⟨f, fd, F, b, a, i⟩ := D.ex
  exact ⟨f, fd, h f fd F, ⟨hm, a, i, hk⟩, b⟩
end
section
variable {Y : DX} {D : DEnds} {env : Dv} {G : Gh} {Q : DV → Gh → Prop} {C a : Addr} {m n : Str} {d : DF} {wo wv : DE} {wr : DA} {fs gs : List (Str × DV)} {ds : List DV} {y : DV}
theorem s_meth (q : wo Y env G (mtK C d wr Y env m Q)) : wMeth C m d wo wr Y env G Q := q
theorem s_metK (ha : G a = some (.ins C fs)) (hl : fs.lookup m = none) (q : wr Y env G fun ds G2 => d (.ref a :: ds) G2 Q Y) : mtK C d wr Y env m Q (.ref a) G := ⟨fs, ha, hl, q⟩
theorem s_make (q : wr Y env G (mkK C d Y Q)) : wMake C d wr Y env G Q := q
theorem x_make (q : ∀ p G1, G p = none → Sub G G1 → G1 p = some (.ins C []) → d (.ref p :: ds) G1 (fun r G2 => r = .non ∧ Q (.ref p) G2) Y) : mkK C d Y Q ds G := fun p hp => q p _ hp (Sub.new hp) gup_same
def stFK (D : DEnds) (env : Dv) (C : Addr) (n : Str) (y x : DV) (G2 : Gh) : Prop := match x with
  | .ref a => ∃ fs, G2 a = some (.ins C fs) ∧ fs.length < 1000 ∧ D.nx env (gup G2 a (.ins C (putFd n y fs)))
  | _ => False
theorem s_stF (q : wv (fun C fs G' => D.ex C fs env G') env G fun y G1 => wo (fun C fs G' => D.ex C fs env G') env G1 (stFK D env C n y)) : wStFl C n wo wv D env G := q
theorem x_stF (ha : G a = some (.ins C fs)) (hl : Nat.ble (fs.length + 1) 1000 = true) (he : putFd n y fs = gs) (q : ∀ G1, Old a G G1 → G1 a = some (.ins C gs) → D.nx env G1) : stFK D env C n y (.ref a) G := by
  subst he
  exact ⟨fs, ha, Nat.le_of_ble_eq_true hl, q _ Old.set gup_same⟩
end
end DL

namespace DL
open PySem
/-! ### numbers as texts -/
/-- the signs of a number's text -/
def sg (i : Int) : List Nat := if i < 0 then 45 :: TL.numL i.natAbs else TL.numL i.natAbs
theorem num_tl (i : Int) : (Str.ofString (toString i)).cps.toList = sg i := by
  cases i with
  | ofNat m =>
    rw [sg, if_neg (by simp)]; exact TL.tl_num m
  | negSucc m =>
    have e : toString (Int.negSucc m) = "-" ++ Nat.repr (m + 1) := rfl
    have e2 := TL.tl_num (m + 1)
    have e3 : toString (((m + 1 : Nat)) : Int) = Nat.repr (m + 1) := rfl
    rw [e3] at e2
    rw [sg, if_pos (by omega), e, Str.ofString_eq_toList, String.toList_append]
    unfold TL.tl at e2
    rw [Str.ofString_eq_toList] at e2
    simp only [List.map_append] at e2 ⊢
    have e2 : List.map Char.toNat (Nat.repr (m + 1)).toList = TL.numL (m + 1) := e2
    rw [e2]; rfl
/-- no 0 ahead but in 0 itself -/
theorem numL_head : ∀ n : Nat, (TL.numL n).head? = some 48 → n = 0 := by
  intro n
  induction n using Nat.strongRecOn with
  | _ n ih =>
    intro h
    by_cases hn : n < 10
    · rw [TL.numL_lt hn] at h
      simp at h; omega
    · rw [TL.numL_step (by omega)] at h
      have hne := TL.numL_ne (n / 10)
      cases hc : TL.numL (n / 10) with
      | nil => exact absurd hc hne
      | cons c r =>
        rw [hc] at h
        have h0 := ih (n / 10) (by omega) (by rw [hc]; exact h)
        omega
theorem sg_signs (i : Int) : ∀ c ∈ sg i, c = 45 ∨ (48 ≤ c ∧ c ≤ 57) := by
  intro c hc
  unfold sg at hc
  split at hc
  · rcases List.mem_cons.mp hc with h | h
    · exact .inl h
    · exact .inr (TL.numL_digits _ c h)
  · exact .inr (TL.numL_digits _ c hc)
theorem sg_free {i : Int} {s : Nat} (h1 : s ≠ 45) (h : s < 48 ∨ 57 < s) : s ∉ sg i := fun hm => by
  rcases sg_signs i s hm with h2 | h2 <;> omega
theorem num_free {i : Int} {s : Nat} (h1 : s ≠ 45) (h : s < 48 ∨ 57 < s) : s ∉ (Str.ofString (toString i)).cps.toList := by
  rw [num_tl]; exact sg_free h1 h
theorem num_inj {i j : Int} (h : Str.ofString (toString i) = Str.ofString (toString j)) : i = j := by
  have e := congrArg (fun x : Str => x.cps.toList) h
  simp only [num_tl] at e
  have hd : ∀ n : Nat, (TL.numL n).head? ≠ some 45 := fun n z => by
    have : (45 : Nat) ∈ TL.numL n := List.mem_of_head? z
    have := TL.numL_digits _ _ this
    omega
  unfold sg at e
  split at e <;> split at e
  · have := TL.numL_inj (List.cons.inj e).2
    omega
  · exact absurd (by rw [← e]; rfl) (hd j.natAbs)
  · exact absurd (by rw [e]; rfl) (hd i.natAbs)
  · have := TL.numL_inj e
    omega
theorem num_len {i : Int} {k : Nat} (hk : 0 < k) (h : i.natAbs < 10 ^ k) : (Str.ofString (toString i)).length ≤ k + 1 := by
  have := int_text_length_le10 hk h
  rw [PySem.ofString_length]
  exact this
theorem sg_len (i : Int) : (sg i).length = (Str.ofString (toString i)).length := by
  rw [← num_tl]; exact Array.length_toList
theorem num_int {i : Int} (h : i.natAbs < 10 ^ 4200) : intText? (Str.ofString (toString i)) = some i := by
  have hl := num_len (by decide) h
  have ht := num_tl i
  unfold sg at ht
  split at ht
  · have := PySem.intText_neg (x := Str.ofString (toString i)) ht (TL.numL_digits _) (TL.numL_ne _) (by omega)
    rw [this, TL.numL_val]
    congr 1; omega
  · have := PySem.intText_digits (x := Str.ofString (toString i)) (by rw [ht]; exact TL.numL_digits _) (by rw [ht]; exact TL.numL_ne _) (by omega)
    rw [this, ht, TL.numL_val]
    congr 1; omega
/-- a digit list without a 0 ahead is a number's own -/
theorem digits_back : ∀ l : List Nat, NumText.AllDigits l → l ≠ [] → (l.head? = some 48 → l = [48]) → TL.numL (NumText.digitsVal l) = l := by
  intro l
  induction h : l.length using Nat.strongRecOn generalizing l with
  | _ n ih =>
    intro hd hne h0
    have hl : l = l.dropLast ++ [l.getLast hne] := (List.dropLast_concat_getLast hne).symm
    generalize hc : l.getLast hne = c at hl
    generalize hp : l.dropLast = p at hl
    have hcd : 48 ≤ c ∧ c ≤ 57 := hd c (by rw [hl]; simp)
    have hv : NumText.digitsVal l = NumText.digitsVal p * 10 + (c - 48) := by
      rw [hl]
      unfold NumText.digitsVal
      rw [List.foldl_append]; rfl
    by_cases hpe : p = []
    · subst hpe
      rw [List.nil_append] at hl
      have : NumText.digitsVal l = c - 48 := by rw [hv]; simp [NumText.digitsVal]
      rw [this, TL.numL_lt (by omega), hl]
      congr 1; omega
    · have hpl : p.length < n := by rw [← h, hl]; simp
      have hph : p.head? = some 48 → p = [48] := fun q => by
        have : l.head? = some 48 := by
          rw [hl]
          cases p with
          | nil => exact absurd rfl hpe
          | cons a r => exact q
        have := h0 this
        rw [hl] at this
        cases p with
        | nil => exact absurd rfl hpe
        | cons a r => simp at this
      have hpd : NumText.AllDigits p := fun d hd' => hd d (by rw [hl]; simp [hd'])
      have e := ih p.length hpl p rfl hpd hpe hph
      have hpos : 0 < NumText.digitsVal p := by
        rcases Nat.eq_zero_or_pos (NumText.digitsVal p) with z | z
        · rw [z, TL.numL_lt (by decide)] at e
          have : l.head? = some 48 := by rw [hl, ← e]; rfl
          have := h0 this
          rw [hl, ← e] at this
          simp at this
        · exact z
      rw [hv, TL.numL_step (by omega)]
      have e1 : (NumText.digitsVal p * 10 + (c - 48)) / 10 = NumText.digitsVal p := by omega
      have e2 : (NumText.digitsVal p * 10 + (c - 48)) % 10 = c - 48 := by omega
      rw [e1, e2, e]
      have e3 : 48 + (c - 48) = c := by omega
      rw [e3]; exact hl.symm
theorem numL_lt_pow : ∀ n : Nat, n < 10 ^ (TL.numL n).length := by
  intro n
  induction n using Nat.strongRecOn with
  | _ n ih =>
    by_cases hn : n < 10
    · rw [TL.numL_lt hn]; simpa using hn
    · rw [TL.numL_step (by omega), List.length_append, List.length_singleton, Nat.pow_succ]
      have := ih (n / 10) (by omega)
      omega
theorem num_bound {i : Int} {k : Nat} (h : (Str.ofString (toString i)).length ≤ k) : i.natAbs < 10 ^ k := by
  have h1 := numL_lt_pow i.natAbs
  have h2 : (TL.numL i.natAbs).length ≤ (sg i).length := by
    unfold sg; split
    · simp
    · exact Nat.le_refl _
  rw [sg_len] at h2
  exact Nat.lt_of_lt_of_le h1 (Nat.pow_le_pow_right (by decide) (by omega))
end DL

namespace DL
open PySem PySem.Spec L2
open PyProof.Rows hiding St
/-! ### small helps -/
theorem eqv_nil (l : List DV) : PyData.eqv (DV.tup l).pd (.tuple []) = l.isEmpty := by
  rw [pd_tup]
  cases l with
  | nil => rfl
  | cons d l => rfl
section
variable {G : Gh} {Q : DV → Gh → Prop} {l : List DV}
theorem s_neT0 (hp : (DV.tup l).pure = true) (hs : SeqAt.shaped (DV.tup l).pd = true) (q : Q (.bl (!l.isEmpty)) G) : dEq true (.tup l) (.tup []) G Q := by
  refine ⟨_, .tuple [], dr_pure _ hp, .tup .nil, hs, by decide, ?_⟩
  rw [eqv_nil, Bool.true_xor]; exact q
theorem s_eqT0 (hp : (DV.tup l).pure = true) (hs : SeqAt.shaped (DV.tup l).pd = true) (q : Q (.bl l.isEmpty) G) : dEq false (.tup l) (.tup []) G Q := by
  refine ⟨_, .tuple [], dr_pure _ hp, .tup .nil, hs, by decide, ?_⟩
  rw [eqv_nil, Bool.false_xor]; exact q
end
/-! ### lists of texts compared -/
/-- a text that can be laid down -/
def Asc (s : Str) : Prop := ∀ c ∈ s.cps.toList, c < 0x110000
theorem Asc.all {s : Str} (h : Asc s) : s.cps.all (· < 0x110000) = true := by
  rw [Array.all_eq_true]
  intro i hi
  simpa using h _ (by simp)
theorem eqv_strs : ∀ ls ms : List Str, PyData.eqvAll (ls.map .str) (ms.map .str) = decide (ls = ms)
  | [], [] => by simp [PyData.eqvAll]
  | [], _ :: _ => by simp [PyData.eqvAll]
  | _ :: _, [] => by simp [PyData.eqvAll]
  | a :: ls, b :: ms => by
    rw [List.map_cons, List.map_cons, PyData.eqvAll, eqv_strs ls ms]
    show ((a == b) && _) = _
    by_cases h : a = b
    · subst h; simp
    · have : (a == b) = false := by simpa using h
      rw [this]; simp [h]
theorem strs_shaped {ls : List Str} (h : ∀ l ∈ ls, Asc l) : SeqAt.shaped (.list (ls.map .str)) = true := by
  have key : ∀ {ls : List Str}, (∀ l ∈ ls, Asc l) → PyData.canLayAll0 (ls.map PyData.str) = true ∧ PyData.depthAll (ls.map PyData.str) = 0 := by
    intro ls
    induction ls with
    | nil => intro _; exact ⟨rfl, rfl⟩
    | cons a ls ih =>
      intro h
      obtain ⟨h1, h2⟩ := ih fun l hl => h l (by simp [hl])
      refine ⟨?_, ?_⟩
      · rw [List.map_cons]
        have ha : PyData.canLay0 (.str a) = true := (h a (by simp)).all
        simp only [PyData.canLayAll0, ha, h1, Bool.and_self]
      · rw [List.map_cons]
        simp only [PyData.depthAll, PyData.depth, h2]; rfl
  obtain ⟨h1, h2⟩ := key h
  unfold SeqAt.shaped
  have e1 : (PyData.list (ls.map PyData.str)).canLay0 = true := h1
  have e2 : (PyData.list (ls.map PyData.str)).depth ≤ 64 := by show PyData.depthAll _ + 1 ≤ 64; rw [h2]; decide
  rw [e1, decide_eq_true e2]; rfl
section
variable {G : Gh} {Q : DV → Gh → Prop} {a b : Addr} {ls ms : List Str}
theorem strs_dr (ha : G a = some (.lst (ls.map .str))) : DR G (.ref a) (.list (ls.map .str)) := by
  have : DRs G (ls.map DV.str) ((ls.map DV.str).map DV.pd) := drs_pure (by simp)
  rw [List.map_map] at this
  exact .ref ha (by simpa [Function.comp_def] using this)
theorem s_neStrs (ha : G a = some (.lst (ls.map .str))) (hb : G b = some (.lst (ms.map .str))) (h1 : ∀ l ∈ ls, Asc l) (h2 : ∀ l ∈ ms, Asc l) (q : Q (.bl (!decide (ls = ms))) G) : dEq true (.ref a) (.ref b) G Q := by
  refine ⟨_, _, strs_dr ha, strs_dr hb, strs_shaped h1, strs_shaped h2, ?_⟩
  rw [Bool.true_xor, show PyData.eqv (.list (ls.map .str)) (.list (ms.map .str)) = _ from eqv_strs ls ms]; exact q
theorem s_eqStrs (ha : G a = some (.lst (ls.map .str))) (hb : G b = some (.lst (ms.map .str))) (h1 : ∀ l ∈ ls, Asc l) (h2 : ∀ l ∈ ms, Asc l) (q : Q (.bl (decide (ls = ms))) G) : dEq false (.ref a) (.ref b) G Q := by
  refine ⟨_, _, strs_dr ha, strs_dr hb, strs_shaped h1, strs_shaped h2, ?_⟩
  rw [Bool.false_xor, show PyData.eqv (.list (ls.map .str)) (.list (ms.map .str)) = _ from eqv_strs ls ms]; exact q
end
end DL

/-! comprehensions whose item may raise -/
namespace L2
open PySem PySem.Spec
open PyProof.Rows hiding St
theorem note_frame {u : Value} {e1 e2 : Env} (h : e1.frame = e2.frame) : noteFrame u e1 = noteFrame u e2 := by
  unfold noteFrame PySem.frameOf
  rw [h]
/-- where the loop of a comprehension ends; the frame is the def's own -/
def endC (M : Model) (A : Around) (E : Value → Shared → Prop) (use : Option (Value → Sem Unit)) (Q : Value → Shared → Prop) (fr : Option Addr) (acc : Value) (C : Addr) : Result → Shared → Prop
  | .ok _, t => match use with
    | none => ∃ m, t.heap.Ns C m ∧ ∀ h9, Heap.SameBut C t.heap h9 → Q acc { t with heap := h9 }
    | some f => wpAny M A (f acc) (fun _ t2 => ∃ m, t2.heap.Ns C m ∧ ∀ h9, Heap.SameBut C t2.heap h9 → Q .none { t2 with heap := h9 }) E t
  | .error u, t => ∃ m, t.heap.Ns C m ∧ ∀ h9, Heap.SameBut C t.heap h9 → ∀ ce : Env, ce.locals = C → ce.frame = fr → wpAny M A (passOn "comprehension.variables-let-go" u ce : Sem Value) (fun _ _ => False) E { t with heap := h9 }
section
variable {M : Model} {A : Around} {E : Value → Shared → Prop} {s : Shared} {env : Env}
theorem comp_run {x : Expr} {sc : Scope} {pos : Pos} {mk src : Sem Value} {c1 : Comprehension} {cr : List Comprehension} {cl : List (Str × Addr)} {use : Option (Value → Sem Unit)} {Q : Value → Shared → Prop}
    (h1 : clausesOf x = c1 :: cr) (h2 : ∀ v, foldedSetIterable c1.iter env v = pure v) (h3 : closureFor sc env = pure cl) (h4 : sc.kind = .function) (h5 : ∀ y ∈ sc.names, y.2 = .local → sc.names.lookup y.1 = some .local)
    (H : wpAny M A src (fun v t1 => wpAny M A (pyIter v) (fun it t2 => wpAny M A mk (fun acc t3 => wpAny M A (newFunctionEnv sc env.globals cl [] env.qual none .none (some env)) (fun ce t4 =>
      ce.frame = env.frame ∧ codeAny M A (.compStart x 0 it acc { ce with scope := relabel sc env }) (endC M A E use Q env.frame acc ce.locals) t4) E t3) E t2) E t1) E s) :
    wpAny M A (comprehension x sc env pos mk false src use) Q E s := by
  unfold comprehension
  rw [h3, h1]
  refine wpAny_bind (wpAny_mono H (fun v t1 k1 => ?_) fun _ _ z => z)
  refine wpAny_bind (wpAny_standAt (wpAny_bind (wpAny_of_eq (h2 v) (wpAny_bind (wpAny_holding (wpAny_mono k1 (fun it t2 k2 => ?_) fun _ _ z => z))))))
  refine wpAny_standIf (wpAny_bind (wpAny_mono k2 (fun acc t3 k3 => wpAny_bind (wpAny_pure (wpAny_bind (wpAny_mono k3 (fun ce t4 k4 => ?_) fun _ _ z => z)))) fun _ _ z => z))
  obtain ⟨kf, k4⟩ := k4
  dsimp only
  have own1 : ∀ y ∈ (sc.names.filter fun x => (x.2 == .local || x.2 == .cell) && x.1 != (".0" : Str)).reverse, y.2 = .local → Env.kindOf { ce with scope := relabel sc env } y.1 = some .local :=
    fun y hy hl => lookup_relabel_local (h5 y (List.mem_filter.mp (List.mem_reverse.mp hy)).1 hl)
  have own2 : ∀ y ∈ (sc.names.filter fun x => (x.2 == .local || x.2 == .cell) && x.1 != (".0" : Str)).reverse.drop 1 ++ (sc.names.filter fun x => (x.2 == .local || x.2 == .cell) && x.1 != (".0" : Str)).reverse.take 1, y.2 = .local → Env.kindOf { ce with scope := relabel sc env } y.1 = some .local := by
    intro y hy
    rcases List.mem_append.mp hy with z | z
    · exact own1 y (List.mem_of_mem_drop z)
    · exact own1 y (List.mem_of_mem_take z)
  refine wpAny_holding (wpAny_bind (wpAny_attempt (wpAny_holding (wpAny_run (codeAny_mono k4 fun r t5 k5 => ?_)))))
  cases r with
  | error u =>
    have k5 : endC M A E use Q env.frame acc ce.locals (.error u) t5 := k5
    obtain ⟨m, n1, n2⟩ := k5
    refine wpAny_bind (wpAny_holding (wpAny_comp_letGo (cenv := { ce with scope := relabel sc env }) h4 _ t5 m own1 n1 fun h9 m9 _ sb => ?_))
    cases use <;> exact wpAny_mono (n2 h9 sb _ rfl kf) (fun _ _ z => z.elim) fun _ _ z => z
  | ok fl =>
    cases use with
    | some f =>
      refine wpAny_bind (wpAny_rule (wpAny_bind (wpAny_holding (wpAny_mono k5 (fun _ t6 k6 => ?_) fun _ _ z => z))))
      obtain ⟨m, n1, n2⟩ := k6
      exact wpAny_bind (wpAny_comp_letGo (cenv := { ce with scope := relabel sc env }) h4 _ t6 m own2 n1 fun h9 m9 _ sb => wpAny_pure (n2 h9 sb))
    | none =>
      obtain ⟨m, n1, n2⟩ := k5
      exact wpAny_bind (wpAny_holding (wpAny_comp_letGo (cenv := { ce with scope := relabel sc env }) h4 _ t5 m own1 n1 fun h9 m9 _ sb => wpAny_pure (n2 h9 sb)))
end
/-- the block's context, what is raised within going to xe -/
abbrev Cx.blx (X : Cx) (s : Shared) (H : Hp) (sc : Scope) (ce : Env) (fp : List Addr) (xe : Value → Shared → Prop) : Cx := { X.blk s H sc ce fp with xe := xe }
section
variable {X : Cx} {pins : List (Addr × Obj)} {σ : St} {H : Hp} {s : Shared}
theorem Inv.toX {s0 : Shared} {H0 : Hp} {sc : Scope} {ce : Env} {fp : List Addr} {xe : Value → Shared → Prop} (I : Inv (X.blk s0 H0 sc ce fp) pins σ H s) : Inv (X.blx s0 H0 sc ce fp xe) pins σ H s := by
  obtain ⟨⟨a1, a2, a3, a4, a5, a6, a7, a8, a9, b1, b2, b3, b4, b5, b6, b7, b8, b9⟩, i2, i3, i4, i5, i6, i7, i8, i9, i10, i11⟩ := I
  exact ⟨⟨a1, a2, a3, a4, a5, a6, a7, a8, a9, b1, b2, b3, b4, b5, b6, b7, b8, b9⟩, i2, i3, i4, i5, i6, i7, i8, i9, i10, i11⟩
theorem Inv.ofX {s0 : Shared} {H0 : Hp} {sc : Scope} {ce : Env} {fp : List Addr} {xe : Value → Shared → Prop} (I : Inv (X.blx s0 H0 sc ce fp xe) pins σ H s) : Inv (X.blk s0 H0 sc ce fp) pins σ H s := by
  obtain ⟨⟨a1, a2, a3, a4, a5, a6, a7, a8, a9, b1, b2, b3, b4, b5, b6, b7, b8, b9⟩, i2, i3, i4, i5, i6, i7, i8, i9, i10, i11⟩ := I
  exact ⟨⟨a1, a2, a3, a4, a5, a6, a7, a8, a9, b1, b2, b3, b4, b5, b6, b7, b8, b9⟩, i2, i3, i4, i5, i6, i7, i8, i9, i10, i11⟩
/-- held by another frame's hand: it is noted by this one -/
theorem note_other {M : Model} {A : Around} {E1 : Value → Shared → Prop} {t : Shared} {B : Heap} {a L C : Addr} {Z : Obj → Prop} {env : Env} {outer : List Env} {Q : Unit → Shared → Prop} (hZ : PXN.Steady1 Z) (frm : A.frames = some (env :: outer)) (hf : env.frame = some L)
    (hne : C ≠ L) (hh : HandSPX.HeldZ B (env :: outer) a Z C t.heap) (hQ : ∀ h1, HandSPX.HeldZ B (env :: outer) a Z L h1 → t.heap.UpToSlots h1 → Q () { t with heap := h1 }) : wpAny M A (noteFrame (.ref a) env) Q E1 t := by
  obtain ⟨k1, k2, k3, oe, vs, T, oT, ts, t1, t2, t3, t4, t5, t6, t7, t8, t9⟩ := hh
  have ne : (rawInt C == rawInt L) = false := by
    have : rawInt C ≠ rawInt L := fun z => hne (by unfold rawInt at z; injection z with z; exact Int.ofNat.inj z)
    simpa using this
  unfold noteFrame
  simp only [hf]
  refine wpAny_bind (wpAny_field t1 t3 t4 ?_)
  rw [if_pos (show (Value.ref T != .none) = true by simp)]
  refine wpAny_bind (wpAny_field t7 t8 t9 ?_)
  rw [if_neg (by rw [ne]; exact Bool.false_ne_true)]
  refine wpAny_bind (wpAny_setField t7 t8 (Array.getElem?_eq_some_iff.mp t9).1 ?_)
  have off : ∀ b, b ≠ T → (t.heap.update T (Obj.mapFields (·.setIfInBounds 3 Value.none))).get? b = t.heap.get? b := fun b hb => Heap.get?_update_other _ _ hb.symm
  have offR : ∀ b o, t.heap.get? b = some o → (∀ zs, o.data ≠ .fields zs) → b ≠ T := by
    rintro b o e n rfl
    have e2 := t7.symm.trans e
    cases e2
    exact n _ t8
  refine PXN.wpAny_entryZ hZ frm (k3.of_keeps fun b o e n => ⟨o, (off b (offR b o e n)).trans e, rfl⟩) hf ((off a t6.symm).trans t1) (fun b o e => (off b (by rintro rfl; rw [t5] at e; cases e)).trans (k1 b o e)) k2 t3 (Array.getElem?_eq_some_iff.mp t4).1 t2 ?_
  rintro h1 ⟨x1, x2, x3, x4⟩
  exact hQ h1 ⟨x1, k2, x2, x3⟩ fun b o e n => x4 b o ((off b (offR b o e n)).trans e) n
theorem funFrames_but {h h9 B B9 : Heap} {C : Addr} (k : ∀ b, b ≠ C → h9.get? b = h.get? b) (kB : ∀ b, B.get? b = none → B9.get? b = none) : ∀ {l : List Env}, h.FunFrames B l → (∀ L ∈ frs l, L ≠ C) → h9.FunFrames B9 l
  | [], _, _ => trivial
  | env :: l, ⟨f1, ⟨L, o, f2, f3, f4, f5⟩, f6⟩, hn => ⟨f1, ⟨L, o, f2, kB _ f3, (k L (hn L (List.mem_filterMap.mpr ⟨env, List.mem_cons_self, f2⟩))).trans f4, f5⟩,
      funFrames_but k kB f6 fun b hb => by
        obtain ⟨e, he, q⟩ := List.mem_filterMap.mp hb
        exact hn b (List.mem_filterMap.mpr ⟨e, List.mem_cons_of_mem _ he, q⟩)⟩
/-- an error within the block leaves the comprehension: it is in the def's air -/
theorem xe_offBlock {Z : Value → Option Addr → Obj → Prop} (hZ : ∀ cls d, PXN.Steady1 (Z cls d)) {Wo : WX} {s3 : Shared} {H3 : Hp} {sc : Scope} {ce : Env} {fp : List Addr} {xe : Value → Shared → Prop} {use : Option (Value → Sem Unit)} {Qf : Value → Shared → Prop} {acc : Value} {u : Value} {t : Shared}
    (hst : X.stack = X.env :: X.outer) (hfm : X.env.frame = some X.env.locals) (tk : ∀ y z, XZ Z X Wo y z → X.xe y z) (I3 : Inv X pins σ H3 s3) (hfp : ∀ b ∈ fp, (b ∈ X.ex ∨ X.s_0.heap.objs.size ≤ b) ∧ b ≠ X.env.locals ∧ (∀ y c, X.env.cells.lookup y = some c → c ≠ b) ∧ ∀ p ∈ X.pn ++ pins, p.1 ≠ b)
    (cf : ce.frame = X.env.frame) (cl : ce.locals = s3.heap.objs.size) (x : XZ Z (X.blx s3 H3 sc ce fp xe) (fun c d _ Hh => Wo c d σ Hh) u t) :
    notedBy (model X.prog X.w) X.A ce (fun e t9 => endC (model X.prog X.w) X.A X.xe use Qf X.env.frame acc s3.heap.objs.size (.error e) t9) u t := by
  obtain ⟨a, B, sI, pn, st, Hh, cls, d, rfl, J, nb, up, sky, na, os, ag, w⟩ := x
  have frm : X.A.frames = some (X.env :: X.outer) := hst ▸ I3.ok.frames
  have sky : Sky B (X.env :: X.outer) a (Z cls d) ce.locals t.heap := by have z := sky; rwa [show (X.blx s3 H3 sc ce fp xe).stack = X.env :: X.outer from hst] at z
  have nb : ∀ b o, sI.heap.get? b = some o → b ∉ frs X.stack → B.get? b = some o := nb
  obtain ⟨mC, nsC, _⟩ := J.loc
  have nsC : sI.heap.Ns s3.heap.objs.size mC := by rw [← cl]; exact nsC
  have freeC : Hh s3.heap.objs.size = none := by rw [← cl]; exact J.free
  have offC : ∀ L ∈ frs (X.env :: X.outer), L ≠ s3.heap.objs.size := fun L hL z => by
    rw [← hst] at hL
    obtain ⟨_, o, e, _⟩ := I3.stack.mem hL
    have := Heap.lt_size e
    rw [z] at this
    exact absurd this (Nat.lt_irrefl _)
  have offS : s3.heap.objs.size ∉ frs X.stack := fun hm => offC _ (hst ▸ hm) rfl
  -- when it is held by the def's frame
  have fin : ∀ h1, HandSPX.HeldZ B (X.env :: X.outer) a (Z cls d) X.env.locals h1 → t.heap.UpToSlots h1 → endC (model X.prog X.w) X.A X.xe use Qf X.env.frame acc s3.heap.objs.size (.error (.ref a)) { t with heap := h1 } := by
    rintro h1 ⟨hB, hn, hl, oe, vs, T, oT, ts, t1, t2, t3, t4, t5, t6, t7, t8, t9⟩ u1
    obtain ⟨oC, es, ep, c1, c2, c3⟩ := nsC
    have cB := nb _ _ c1 offS
    have cH : h1.get? s3.heap.objs.size = some oC := hB _ _ cB
    refine ⟨mC, ⟨oC, es, ep, cH, c2, c3⟩, fun h9 sb cx _ cxf => ?_⟩
    have aC : a ≠ s3.heap.objs.size := by
      rintro rfl
      rw [hn] at cB; cases cB
    have TC : T ≠ s3.heap.objs.size := by
      rintro rfl
      rw [t5] at cB; cases cB
    have same : ∀ b, b ≠ s3.heap.objs.size → h9.get? b = h1.get? b := sb.2
    have hideB : ∀ b, B.get? b = none → (PySem.W.hideAll B [s3.heap.objs.size]).get? b = none := fun b e => by
      cases q : (PySem.W.hideAll B [s3.heap.objs.size]).get? b with
      | none => rfl
      | some o => rw [PySem.W.of_hideAll _ q] at e; cases e
    have offHid : ∀ {g : Heap} {b : Addr} {o : Obj}, (PySem.W.hideAll g [s3.heap.objs.size]).get? b = some o → b ≠ s3.heap.objs.size := fun {g b o} e z => by
      rw [z, PySem.W.hideAll_none _ (List.mem_cons_self ..)] at e; cases e
    have hidGet : ∀ {g : Heap} {b : Addr} {o : Obj}, g.get? b = some o → b ≠ s3.heap.objs.size → (PySem.W.hideAll g [s3.heap.objs.size]).get? b = some o := fun e n => PySem.W.hideAll_get _ e (by simpa using n)
    have held : HandSPX.HeldZ (PySem.W.hideAll B [s3.heap.objs.size]) (X.env :: X.outer) a (Z cls d) X.env.locals h9 :=
      ⟨fun b o e => (same b (offHid e)).trans (hB b o (PySem.W.of_hideAll _ e)), hideB a hn, funFrames_but same hideB hl offC, oe, vs, T, oT, ts, (same a aC).trans t1, t2, t3, t4, hideB T t5, t6, (same T TC).trans t7, t8, t9⟩
    -- the state without it
    have old : ∀ b o, s3.heap.get? b = some o → b ≠ s3.heap.objs.size := fun b o e => Nat.ne_of_lt (Heap.lt_size e)
    have JB := J.base
    have sI' : Inv X pins σ Hh { sI with heap := PySem.W.hideAll sI.heap [s3.heap.objs.size] } := by
      refine I3.call' (ch := fp) J.os ⟨fun b o e n hb hx => hidGet (JB.keep b o e n hb hx) (old b o e), fun b o e n hb hx => ?_, fun b o e n hx => JB.free b o e n hx, fun b o e hx => ?_, JB.tups, JB.frzs, JB.tbls⟩ (fun b o q => ?_) J.bare hfp
      · obtain ⟨sl, q⟩ := JB.slot b o e n hb hx
        exact ⟨sl, hidGet q (old b o e)⟩
      · obtain ⟨o9, q⟩ := JB.there b o e hx
        exact ⟨o9, hidGet q (old b o e)⟩
      · refine (J.hok b o q).stay (fun c y hc r => hidGet r fun z => ?_) (fun _ r => r) fun _ _ r => r
        rw [z] at hc
        rcases hc with hc | hc
        · rw [← hc, freeC] at q; cases q
        · rw [freeC] at hc; cases hc
    unfold PySem.passOn
    refine wpAny_bind (wpAny_field ((same a aC).trans t1) t3 t4 ?_)
    rw [if_neg (by simp)]
    have onward : wpAny (model X.prog X.w) X.A (setFlight (.ref a) cx.frame) (fun _ t9 => wpAny (model X.prog X.w) X.A (throw (.ref a) : Sem Value) (fun _ _ => False) X.xe t9) X.xe { t with heap := h9 } := by
      rw [cxf, hfm]
      refine HandSPX.setFlight_onZ held fun hz heldz u9 => wpAny_throw (tk _ _ ⟨a, PySem.W.hideAll B [s3.heap.objs.size], _, pins, σ, Hh, cls, d, rfl, sI', fun b o e hb => hidGet (nb b o (PySem.W.of_hideAll _ e) hb) (offHid e), ?_, .inr (.inr (by rw [hst]; exact heldz)), na, os, ag, w⟩)
      intro b o e nf
      have hbC := offHid e
      obtain ⟨sl, e1⟩ := (up.trans u1) b o (PySem.W.of_hideAll _ e) nf
      obtain ⟨sl2, e2⟩ := u9 b _ ((same b hbC).trans e1) nf
      exact ⟨sl2, e2⟩
    first
      | exact wpAny_bind (wpAny_pure (wpAny_bind onward))
      | exact wpAny_bind onward
  show wpAny _ _ (noteFrame (.ref a) ce) _ _ _
  rw [note_frame cf]
  rcases sky with ⟨hB, hn, hl, oe, vs, he, hz, hd, h1⟩ | fl | hh
  · exact PXN.look_newZ (hZ cls d) frm hl hfm he hB hn hd h1 hz fin
  · exact PXN.looks_onZ (hZ cls d) frm hfm fl fin
  · rw [cl] at hh
    exact note_other (hZ cls d) frm hfm (fun z => offC _ (List.mem_filterMap.mpr ⟨X.env, List.mem_cons_self, hfm⟩) z.symm) hh fin
end
end L2
namespace L2
open PySem PySem.Spec
open PyProof.Rows hiding St
section
variable {X : Cx}
/-- the item's reading, what it raises going on as the def's -/
abbrev outX (Wo : WX) (σ : St) : WX := fun c d _ Hh => Wo c d σ Hh
theorem lcx_run {pins : List (Addr × Obj)} {s : Shared} {σ : St} {H : Hp} {Q : VK} {Wo : WX} {elt tg iter : Expr} {ifs : List Expr} {sc : Scope} {own : List (Str × Nat)} {p1 p2 : Pos} {wi : TI} {g : TG} {tt : TT} {te : WX → TE} {use : Option (Value → Sem Unit)} {Qf : Value → Shared → Prop}
    (hst : X.stack = X.env :: X.outer) (hfm : X.env.frame = some X.env.locals) (calm : X.calm = true) (nd : X.N.Nodup) (tk : DL.Takes X Wo) (I : Inv X pins σ H s) (hi : PI X tg iter wi) (ok : BlkOk X.N X.env.scope sc own)
    (hg : ∀ (s : Shared) (H : Hp) (C : Addr) (cl : List (Str × Addr)) (fp : List Addr), PG (X.blk s H sc (compEnvC sc cl C X.env) fp) tg g)
    (ht : ∀ (s : Shared) (H : Hp) (C : Addr) (cl : List (Str × Addr)) (fp : List Addr), PTs (X.blk s H sc (compEnvC sc cl C X.env) fp) ifs tt)
    (he : ∀ (W : WX) (s : Shared) (H : Hp) (C : Addr) (cl : List (Str × Addr)) (fp : List Addr) (xe : Value → Shared → Prop), DL.Takes (X.blx s H sc (compEnvC sc cl C X.env) fp xe) W → PE (X.blx s H sc (compEnvC sc cl C X.env) fp xe) elt (te W))
    (hs : ∀ x, foldedSetIterable iter X.env x = pure x) (h : tLc wi g tt (te (outX Wo σ)) (own.map (·.2)) σ H Q)
    (done : ∀ D C t m H9, Inv X pins σ H9 t → Q (.ref D) H9 → t.heap.Ns C m → FpOk X pins H9 C → endC (model X.prog X.w) X.A X.xe use Qf X.env.frame (.ref D) C (.ok .next) t) :
    wpAny (model X.prog X.w) X.A (comprehension (.ListComp elt [⟨tg, iter, ifs, 0⟩] sc p1) sc X.env p2 (newList []) false (eval iter X.env) use) Qf X.xe s := by
  have cls : ∀ y ∈ sc.names, y.2 = .free → ∃ c, X.env.cells.lookup y.1 = some c := fun y hy e => (ok.free y hy e).elim (fun z => I.ok.has _ (.inl z)) fun z => I.ok.has _ (.inr z)
  refine comp_run (use := use) rfl hs (closure_ok cls) ok.kind (fun y hy e => by rw [ok.uniq y hy, e]) (thn (hi.run pins s σ H _ I h) fun _ _ hx => thn hx fun _ t2 k2 => ?_)
  obtain ⟨it, fp, tn, J, H2, rfl, I2, T, st2, f2, q⟩ := k2
  refine wpAny_newObj_type (newEnv_comp ?_) (by show 0 ≤ sizeLine; decide)
  generalize hD : t2.heap.objs.size = D
  have freeD : H2 D = none := I2.hok.fresh (Nat.le_of_eq hD)
  obtain ⟨W, ⟨m0, w0⟩, turn⟩ := q D freeD
  generalize h3 : ({ t2 with heap := t2.heap.push { cls := .type "list", data := .seq ([] : List Value).toArray } } : Shared) = t3
  have p3 : t3.heap = t2.heap.push { cls := .type "list", data := .seq ([] : List Value).toArray } := by rw [← h3]
  have I3 : Inv X pins σ (upd H2 D (.lst [])) t3 := by
    rw [← h3]
    exact I2.laid (t' := t2.toks) (fun b o e => Heap.get?_push_of_some _ e) (Nat.le_of_eq hD) ⟨Nat.zero_le _, [], 0, .nil, by rw [← hD]; exact Heap.get?_push_size _ rfl⟩
  have young : ∀ b ∈ fp, b < t2.heap.objs.size := fun b hb => by
    obtain ⟨_, e, _⟩ := T.obj _ _ st2 b hb
    exact Heap.lt_size e
  have f3 : ∀ b ∈ fp, FpOk X pins (upd H2 D (.lst [])) b ∧ b < t3.heap.objs.size := fun b hb => by
    have lt := young b hb
    refine ⟨⟨?_, (f2 b hb).2⟩, by rw [p3, Heap.size_push]; exact Nat.lt_succ_of_lt lt⟩
    rw [upd_ne (by rw [← hD]; exact Nat.ne_of_lt lt)]
    exact (f2 b hb).1
  have st3 : tn 0 t3.heap := T.keep _ _ _ st2 fun b _ o e => by rw [p3]; exact Heap.get?_push_of_some _ e
  have I4 := block_start I3 ok nd f3
  have pg := hg t3 (upd H2 D (.lst [])) t3.heap.objs.size (cellsFrom (t3.heap.objs.size + 1) sc.names (cloFrom X.env.cells sc.names [])) fp
  have pt := ht t3 (upd H2 D (.lst [])) t3.heap.objs.size (cellsFrom (t3.heap.objs.size + 1) sc.names (cloFrom X.env.cells sc.names [])) fp
  have pe := fun (W : WX) (xe : Value → Shared → Prop) => he W t3 (upd H2 D (.lst [])) t3.heap.objs.size (cellsFrom (t3.heap.objs.size + 1) sc.names (cloFrom X.env.cells sc.names [])) fp xe
  refine ⟨rfl, ?_⟩
  show codeAny _ _ (.compStart (.ListComp elt [⟨tg, iter, ifs, 0⟩] sc p1) 0 (.ref it) (.ref D) (compEnvC sc (cellsFrom (t3.heap.objs.size + 1) sc.names (cloFrom X.env.cells sc.names [])) t3.heap.objs.size X.env)) (endC (model X.prog X.w) X.A X.xe use Qf X.env.frame (.ref D) t3.heap.objs.size) { t3 with heap := pushCells (t3.heap.push { cls := .type "dict", data := .dict #[] }) sc.names }
  have nfp : ∀ b ∈ fp, (upd H2 D (.lst [])) b = none := fun b hb => (f3 b hb).1.1
  generalize hce : compEnvC sc (cellsFrom (t3.heap.objs.size + 1) sc.names (cloFrom X.env.cells sc.names [])) t3.heap.objs.size X.env = ce at I4 pg pt pe ⊢
  have cL : ce.locals = t3.heap.objs.size := by subst hce; rfl
  have cF : ce.frame = X.env.frame := by subst hce; rfl
  generalize hH3 : upd H2 D (.lst []) = H3 at I3 I4 pg pt pe w0 nfp f3
  generalize h4 : ({ t3 with heap := pushCells (t3.heap.push { cls := .type "dict", data := .dict #[] }) sc.names } : Shared) = t4 at I4 ⊢
  have st4 : tn 0 t4.heap := T.keep _ _ _ st3 fun b _ o e => by rw [← h4]; exact pushCells_keeps _ _ _ _ (Heap.get?_push_of_some _ e)
  have stat : ∀ {σ9 : St} {H9 : Hp} {t9 : Shared}, Inv (X.blk t3 H3 sc ce fp) [] σ9 H9 t9 → (∀ b ∈ fp, H9 b = none) → ∀ b ∈ fp, FpOk (X.blk t3 H3 sc ce fp) [] H9 b := fun {σ9 H9 t9} J9 n b hb =>
    ⟨n b hb, (J9.ok.exf b hb).1, J9.ok.exfs b hb, .inl hb, fun y c e => (J9.ok.exf b hb).2 y c e, fun p hp => absurd (show p ∈ ([] : List (Addr × Obj)) ++ [] from hp) (by simp)⟩
  have far : ∀ b ∈ fp, (b ∈ X.ex ∨ X.s_0.heap.objs.size ≤ b) ∧ b ≠ X.env.locals ∧ (∀ y c, X.env.cells.lookup y = some c → c ≠ b) ∧ ∀ p ∈ X.pn ++ pins, p.1 ≠ b := fun b hb =>
    ⟨(f3 b hb).1.2.2.2.1, (f3 b hb).1.2.1, (f3 b hb).1.2.2.2.2.1, (f3 b hb).1.2.2.2.2.2⟩
  -- what the item raises
  generalize hxe : (notedBy (model X.prog X.w) X.A ce fun e t9 => endC (model X.prog X.w) X.A X.xe use Qf X.env.frame (.ref D) t3.heap.objs.size (.error e) t9) = xe
  have tkB : DL.Takes (X.blx t3 H3 sc ce fp xe) (outX Wo σ) := ⟨fun u t x => by
    rw [← hxe]
    exact xe_offBlock (fun _ _ => L2N.Zn.steady) hst hfm tk.n I3 far cF cL x, fun u t x => by
    rw [← hxe]
    exact xe_offBlock (Wo := DL.loosely X.mg Wo) (fun _ _ => zc_steady1) hst hfm tk.c I3 far cF cL x⟩
  have pe := pe (outX Wo σ) xe tkB
  have loop : codeAny (model X.prog X.w) X.A (.compLoop (.ListComp elt [⟨tg, iter, ifs, 0⟩] sc p1) 0 (.ref it) (.ref D) ce) (endC (model X.prog X.w) X.A X.xe use Qf X.env.frame (.ref D) t3.heap.objs.size) t4 := by
    refine compLoop_any (fun n t => ∃ i H9, Inv (X.blk t3 H3 sc ce fp) [] (wipe σ (own.map (·.2))) H9 t ∧ tn i t.heap ∧ (∀ b ∈ fp, H9 b = none) ∧ W i n H9) ?_ m0 ⟨0, H3, I4, st4, nfp, w0⟩
    rintro n t5 ⟨i, H5, I5, st5, n5, w5⟩
    rw [hxe]
    rcases turn i n H5 w5 with ⟨stop, qq⟩ | ⟨go, Nx, hNx, step⟩
    · refine thnF (T.done (X.blk t3 H3 sc ce fp) rfl rfl rfl calm i [] t5 _ H5 (fun _ _ => False) I5 (stat I5 n5) st5 stop) fun r t6 ⟨hr, I6⟩ => ?_
      subst hr
      have I7 : Inv X pins σ H5 t6 := I3.call' (ch := fp) I6.os I6.base I6.hok I6.bare far
      have nC : H5 t3.heap.objs.size = none := cL ▸ I6.free
      obtain ⟨m, hn, _⟩ := I6.loc
      exact done D _ t6 m H5 I7 qq (cL ▸ hn) (I3.fpOk (Nat.le_refl _) nC)
    · refine thnF (T.item (X.blk t3 H3 sc ce fp) rfl rfl rfl calm i [] t5 _ H5 (fun _ _ => False) I5 (stat I5 n5) st5 go) fun r t6 ⟨u, hr, k6⟩ => ?_
      subst hr
      refine thnF k6 fun _ t7 ⟨x, H7, I7, r7, y7, st7, n7⟩ => ?_
      have I7' := I7.pinned (stat I7 n7) (T.obj _ _ st7)
      refine thnF (pg.run _ t7 _ H7 x u _ I7' r7 (step x H7 y7)) fun _ t8 ⟨σ8, H8, I8, hw8, q8⟩ => ?_
      refine thnF (pt.run _ t8 σ8 H8 _ I8 q8) fun b t9 ⟨H9, I9, q9⟩ => ?_
      have fin : ∀ {t : Shared} {Hz : Hp}, Inv (X.blk t3 H3 sc ce fp) ([] ++ pinsAt fp t7.heap) σ8 Hz t → Nx Hz → ∃ m, m < n ∧ ∃ i H9, Inv (X.blk t3 H3 sc ce fp) [] (wipe σ (own.map (·.2))) H9 t ∧ tn i t.heap ∧ (∀ b ∈ fp, H9 b = none) ∧ W i m H9 := fun {t Hz} Iz nx => by
        obtain ⟨m9, hm, w9⟩ := hNx Hz nx
        have held : ∀ b ∈ fp, ∀ o, t7.heap.get? b = some o → t.heap.get? b = some o ∧ Hz b = none := fun b hb o e => by
          obtain ⟨z1, z2, _⟩ := Iz.pin (b, o) (List.mem_append_right _ (List.mem_append_right _ (mem_pinsAt hb e)))
          exact ⟨z1, z2⟩
        refine ⟨m9, hm, i + 1, Hz, (Iz.unpinned (pins := [])).weak (by rw [← hw8, wipe_length]) (fun j v e => ?_), T.keep _ _ _ st7 fun b hb o e => (held b hb o e).1, fun b hb => ?_, w9⟩
        · rw [← hw8] at e
          exact (wipe_some e).1
        · obtain ⟨o, e, _⟩ := T.obj _ _ st7 b hb
          exact (held b hb o e).2
      cases b with
      | true =>
        simp only [if_true] at q9 ⊢
        refine wpAny_mono (pe.run _ t9 σ8 H9 _ I9.toX q9) (fun z t10 ⟨yv, H10, I10, r10, acc, hD10, hz10, nx⟩ => ?_) fun _ _ z => z
        exact app_ok (X := X.blk t3 H3 sc ce fp) I10.ofX hD10 hz10 r10 fun t11 I11 => fin I11 nx
      | false =>
        simp only [Bool.false_eq_true, if_false] at q9 ⊢
        exact fin I9 q9
  exact codeAny_compStart_list loop (T.self X.A 0 _ _ _ st4 loop)
/-- [elt for .. in ..], the item may raise -/
theorem pe_lcx {Wo : WX} {elt tg iter : Expr} {ifs : List Expr} {sc : Scope} {own : List (Str × Nat)} {pos : Pos} {wi : TI} {g : TG} {tt : TT} {te : WX → TE}
    (hst : X.stack = X.env :: X.outer) (hfm : X.env.frame = some X.env.locals) (calm : X.calm = true) (nd : X.N.Nodup) (tk : DL.Takes X Wo) (hi : PI X tg iter wi) (ok : BlkOk X.N X.env.scope sc own)
    (hg : ∀ (s : Shared) (H : Hp) (C : Addr) (cl : List (Str × Addr)) (fp : List Addr), PG (X.blk s H sc (compEnvC sc cl C X.env) fp) tg g)
    (ht : ∀ (s : Shared) (H : Hp) (C : Addr) (cl : List (Str × Addr)) (fp : List Addr), PTs (X.blk s H sc (compEnvC sc cl C X.env) fp) ifs tt)
    (he : ∀ (W : WX) (s : Shared) (H : Hp) (C : Addr) (cl : List (Str × Addr)) (fp : List Addr) (xe : Value → Shared → Prop), DL.Takes (X.blx s H sc (compEnvC sc cl C X.env) fp xe) W → PE (X.blx s H sc (compEnvC sc cl C X.env) fp xe) elt (te W))
    (hs : ∀ x, foldedSetIterable iter X.env x = pure x := by intro _; rfl) :
    PE X (.ListComp elt [⟨tg, iter, ifs, 0⟩] sc pos) (fun σ H Q => tLc wi g tt (te (outX Wo σ)) (own.map (·.2)) σ H Q) := by
  refine ⟨fun pins s σ H Q I h => ?_⟩
  rw [eval_ListComp]
  refine lcx_run (Wo := Wo) hst hfm calm nd tk I hi ok hg ht he hs h fun D C t m H9 J q hn f => ⟨m, hn, fun h9 sb => ?_⟩
  obtain ⟨f0, f1, f2, f3, f4, f5⟩ := f
  exact ⟨.ref D, H9, J.turned (t' := t.toks) (fun b o hb e => (sb.2 b hb).trans e) f0 f1 f3 f4 f5, rfl, q⟩
/-- y = [elt for .. in ..] on one line, the item may raise -/
theorem ps_setLcx {Wo : WX} {i : Nat} {y : Str} {py : Pos} {elt tg iter : Expr} {ifs : List Expr} {sc : Scope} {own : List (Str × Nat)} {pos spos : Pos} {wi : TI} {g : TG} {tt : TT} {te : WX → TE}
    (hst : X.stack = X.env :: X.outer) (hfm : X.env.frame = some X.env.locals) (calm : X.calm = true) (nd : X.N.Nodup) (tk : DL.Takes X Wo) (hy : X.N[i]? = some y) (hyl : X.env.scope.names.lookup y = some .local)
    (hsw : swapsWith (.ListComp elt [⟨tg, iter, ifs, 0⟩] sc pos) (some (.Name y py)) spos.line X.env = pure true) (hi : PI X tg iter wi) (ok : BlkOk X.N X.env.scope sc own)
    (hg : ∀ (s : Shared) (H : Hp) (C : Addr) (cl : List (Str × Addr)) (fp : List Addr), PG (X.blk s H sc (compEnvC sc cl C X.env) fp) tg g)
    (ht : ∀ (s : Shared) (H : Hp) (C : Addr) (cl : List (Str × Addr)) (fp : List Addr), PTs (X.blk s H sc (compEnvC sc cl C X.env) fp) ifs tt)
    (he : ∀ (W : WX) (s : Shared) (H : Hp) (C : Addr) (cl : List (Str × Addr)) (fp : List Addr) (xe : Value → Shared → Prop), DL.Takes (X.blx s H sc (compEnvC sc cl C X.env) fp xe) W → PE (X.blx s H sc (compEnvC sc cl C X.env) fp xe) elt (te W))
    (hs : ∀ x, foldedSetIterable iter X.env x = pure x := by intro _; rfl) :
    PS X (.Assign [.Name y py] (.ListComp elt [⟨tg, iter, ifs, 0⟩] sc pos) spos) (fun D σ H => tLc wi g tt (te (outX Wo σ)) (own.map (·.2)) σ H fun x H1 => gName i x σ H1 D.nx) := by
  refine ⟨fun pins s σ H D I h => ?_⟩
  rw [exec_Assign_Name_used _ _ _ _ hsw]
  refine wpAny_bind (wpAny_standAt (wpAny_bind ?_))
  show wpAny _ X.A (do let _ ← comprehension (.ListComp elt [⟨tg, iter, ifs, 0⟩] sc pos) sc X.env (firstIterPos [⟨tg, iter, ifs, 0⟩] pos) (newList []) false (eval iter X.env) (some (assign (.Name y py) X.env))) _ _ s
  refine wpAny_bind (thn (lcx_run (Wo := Wo) (Qf := fun _ t => SP X pins D .next t) hst hfm calm nd tk I hi ok hg ht he hs h fun L C t m H9 J q hn f => ?_) fun _ t hq => wpAny_pure (wpAny_pure hq))
  show wpAny _ _ (assign (.Name y py) X.env (.ref L)) _ _ _
  refine wpAny_assign_Name (store_ok2 (v := V.ref L) J nd hy (.inl hyl) rfl (fun t2 J2 ⟨b, sb, hb⟩ => ?_) (.inr hyl))
  obtain ⟨f0, f1, f2, f3, f4, f5⟩ := f
  have off : C ≠ b := by
    rcases hb with z | z
    · rw [z]; exact f1
    · exact fun e => f4 y b z e.symm
  exact ⟨m, hn.sameBut sb off, fun h9 sb9 => ⟨_, H9, J2.turned (t' := t2.toks) (fun b o hb e => (sb9.2 b hb).trans e) f0 f1 f3 f4 f5, q⟩⟩
end
end L2

/-! data of comprehensions whose item may raise -/
namespace DL
open PySem PySem.Spec L2
open PyProof.Rows hiding St
section
variable {X : Cx} {W : WX} {pos p spos : Pos}
def wLcX (vs : List Nat) (wi : DI) (g : DG) (tt : DT) (te : DE) : DE := fun Y env G Q => wi Y env G fun items stay G1 => lcL stay g tt (fun _ => te Y) (wipeD env vs) Q items [] G1
theorem lcx_parts {K : PySem.W.Frag} {vs : List Nat} {wi : DI} {t : TG} {g : DG} {tt : DT} {te : DE} (go : GOk K vs t g) {σ : L2.St} {H : Hp} {Q : VK} (h : TEl K W (wLcX vs wi g tt te) σ H Q) :
    tLc (TIl K W wi) t (TTl K W0 tt) (TEl K (outX W σ) te) vs σ H Q := by
  obtain ⟨Y, env, G, P, er, wg, h, k, kx⟩ := h
  refine ⟨Y, env, G, _, er, wg, h, fun items stay G1 H1 J p w1 x1 it D hD => ?_, kx⟩
  refine ⟨fun i m H' => ∃ G' acc ad, m = items.length - i ∧ i ≤ items.length ∧ H' D = some (.lst acc) ∧ VRs K H' acc ad ∧ WG K G' H' ∧ G' D = none ∧ Ext G1 H1 G' H' ∧ lcL stay g tt (fun _ => te Y) (wipeD env vs) P (items.drop i) ad G',
    ⟨_, G1, [], [], rfl, Nat.zero_le _, upd_same, .nil, w1.new hD, w1.non hD, Ext.new hD, by simpa using p⟩, ?_⟩
  rintro i m H' ⟨G', acc, ad, rfl, hle, eD, ra, w', nD, x', f⟩
  cases q : items.drop i with
  | nil =>
    rw [q] at f
    have hl : items.length = i := Nat.le_antisymm (List.drop_eq_nil_iff.mp q) hle
    refine .inl ⟨it.stop i H' G' w' x' f.1 hl, k _ _ _ _ (f.2 D nD) (fun a c e => ?_) (fun a o e n => ?_) (.ref D)⟩
    · by_cases ha : a = D
      · subst ha
        rw [gup_same] at e; cases e
        exact ⟨acc, eD, ra⟩
      · rw [gup_ne ha] at e
        exact w' a c e
    · obtain ⟨e2, n2⟩ := (x1.trans x') a o e n
      obtain ⟨e3, _⟩ := x1 a o e n
      have ha : a ≠ D := by rintro rfl; rw [hD] at e3; cases e3
      exact ⟨e2, by rw [gup_ne ha]; exact n2⟩
  | cons d r =>
    rw [q] at f
    obtain ⟨hd, hr, hl⟩ := drop_cons q
    obtain ⟨jg, jy⟩ := it.go i H' G' d w' x' f.1 hd
    refine .inr ⟨jg, fun H2 => ∃ G2 acc2 ad2, H2 D = some (.lst acc2) ∧ VRs K H2 acc2 ad2 ∧ WG K G2 H2 ∧ G2 D = none ∧ Ext G1 H1 G2 H2 ∧ lcL stay g tt (fun _ => te Y) (wipeD env vs) P r ad2 G2,
      fun H2 ⟨G2, acc2, ad2, a1, a2, a3, a4, a5, a6⟩ => ⟨items.length - (i + 1), by omega, G2, acc2, ad2, rfl, hl, a1, a2, a3, a4, a5, by rw [hr]; exact a6⟩, fun y H2 hy => ?_⟩
    obtain ⟨w2, x2, rv⟩ := jy y H2 hy
    obtain ⟨eD2, nD2⟩ := x2 D _ eD nD
    have ew : ER K H' σ env := er.ext wg (x1.trans x')
    refine go.mo _ _ _ _ _ (go.kp _ _ _ _ (go.sim _ _ _ _ ⟨d, wipeD env vs, G', _, rv, (ew.wipe vs).ext w' x2, w2, f.2, fun env3 G3 σ3 H3 p3 e3 w3 x3 => (?_ : TTl K W0 tt σ3 H3 _)⟩)) fun σ3 H3 ⟨q3, e3⟩ => ⟨e3.trans (wipe_wipe vs), q3⟩
    refine ⟨_, env3, G3, _, e3, w3, p3, fun b G4 H4 p4 w4 x4 => ?_, xle0⟩
    have t4 := (x2.trans x3).trans x4
    obtain ⟨eD4, nD4⟩ := t4 D _ eD nD
    cases b with
    | false =>
      simp only [Bool.false_eq_true, if_false] at p4 ⊢
      exact ⟨G4, acc, ad, eD4, ra.ext w' t4, w4, nD4, x'.trans t4, p4⟩
    | true =>
      simp only [if_true] at p4 ⊢
      refine ⟨_, env3, G4, _, e3.ext w3 x4, w4, p4, fun z G5 vz H5 p5 w5 x5 r5 => ?_, kx.step (x1.trans (x'.trans ((x2.trans x3).trans x4)))⟩
      have t5 := t4.trans x5
      obtain ⟨eD5, nD5⟩ := t5 D _ eD nD
      have ra5 := ra.ext w' t5
      -- the new list is a cell for a moment
      have wp : WG K (gup G5 D (.lst ad)) H5 := fun a c e => by
        by_cases ha : a = D
        · subst ha
          rw [gup_same] at e; cases e
          exact ⟨acc, eD5, ra5⟩
        · rw [gup_ne ha] at e
          exact w5 a c e
      have r6 : VRs K H5 (acc ++ [vz]) (ad ++ [z]) := ra5.app (.one r5)
      have xp : Ext (gup G5 D (.lst ad)) H5 (gup (gup G5 D (.lst ad)) D (.lst (ad ++ [z]))) (upd H5 D (.lst (acc ++ [vz]))) := Ext.setC gup_same
      refine ⟨acc, eD5, by rw [ra.len]; exact p5.1, G5, acc ++ [vz], ad ++ [z], upd_same, r6.ext wp xp, ?_, nD5, fun a o e n => ?_, p5.2⟩
      · refine (wp.setL gup_same r6).less fun a c e => ?_
        have ha : a ≠ D := by rintro rfl; rw [nD5] at e; cases e
        rw [gup_ne ha, gup_ne ha]; exact e
      · obtain ⟨e6, n6⟩ := (x'.trans t5) a o e n
        have ha : a ≠ D := by rintro rfl; rw [hD] at e; cases e
        exact ⟨by rw [upd_ne ha]; exact e6, n6⟩
theorem q_lcx {elt tg iter : Expr} {ifs : List Expr} {scope : Scope} (own : List (Str × Nat)) {wi : DI} {t : TG} {g : DG} {tt : DT} {te : DE} (hst : X.stack = X.env :: X.outer) (hfm : X.env.frame = some X.env.locals) (hc : X.calm = true) (hN : X.N.Nodup) (tk : Takes X W) (hi : QI X W tg iter wi) (ok : blkC X.N X.env.scope scope own = true)
    (hg : ∀ (s : Shared) (H : Hp) (C : Addr) (cl : List (Str × Addr)) (fp : List Addr), PG (X.blk s H scope (compEnvC scope cl C X.env) fp) tg t) (go : GOk X.K (own.map (·.2)) t g)
    (ht : ∀ (s : Shared) (H : Hp) (C : Addr) (cl : List (Str × Addr)) (fp : List Addr), QTs (X.blk s H scope (compEnvC scope cl C X.env) fp) W0 ifs tt)
    (he : ∀ (W : WX) (s : Shared) (H : Hp) (C : Addr) (cl : List (Str × Addr)) (fp : List Addr) (xe : Value → Shared → Prop), Takes (X.blx s H scope (compEnvC scope cl C X.env) fp xe) W → QE (X.blx s H scope (compEnvC scope cl C X.env) fp xe) W elt te) (hs : ∀ x, foldedSetIterable iter X.env x = pure x := by intro _; rfl) :
    QE X W (.ListComp elt [⟨tg, iter, ifs, 0⟩] scope pos) (wLcX (own.map (·.2)) wi g tt te) :=
  ⟨PE.wk (pe_lcx (Wo := W) (te := fun W => TEl X.K W te) hst hfm hc hN tk hi.pi (blkOk_by ok) hg (fun a b c d f => (ht a b c d f).pts) (fun W a b c d f xe tk => (he W a b c d f xe tk).pe) hs) fun σ H Q h => lcx_parts go h⟩
/-- y = [..] on one line, y a plain local -/
theorem qs_setLcx (i : Nat) {y : Str} {py : Pos} {elt tg iter : Expr} {ifs : List Expr} {scope : Scope} (own : List (Str × Nat)) {wi : DI} {t : TG} {g : DG} {tt : DT} {te : DE} (hst : X.stack = X.env :: X.outer) (hfm : X.env.frame = some X.env.locals) (hc : X.calm = true) (hN : X.N.Nodup) (tk : Takes X W) (hi : QI X W tg iter wi) (ok : blkC X.N X.env.scope scope own = true)
    (hg : ∀ (s : Shared) (H : Hp) (C : Addr) (cl : List (Str × Addr)) (fp : List Addr), PG (X.blk s H scope (compEnvC scope cl C X.env) fp) tg t) (go : GOk X.K (own.map (·.2)) t g)
    (ht : ∀ (s : Shared) (H : Hp) (C : Addr) (cl : List (Str × Addr)) (fp : List Addr), QTs (X.blk s H scope (compEnvC scope cl C X.env) fp) W0 ifs tt)
    (he : ∀ (W : WX) (s : Shared) (H : Hp) (C : Addr) (cl : List (Str × Addr)) (fp : List Addr) (xe : Value → Shared → Prop), Takes (X.blx s H scope (compEnvC scope cl C X.env) fp xe) W → QE (X.blx s H scope (compEnvC scope cl C X.env) fp xe) W elt te) (hs : ∀ x, foldedSetIterable iter X.env x = pure x := by intro _; rfl)
    (hy : X.N[i]? = some y := by rfl) (hyl : X.env.scope.names.lookup y = some .local := by rfl) (hk : X.env.scope.kind = .function := by rfl) (hl : (py.line == pos.line) = true := by rfl)
    (ha : (scope.names.any fun (n, k) => n == y && (k == .local || k == .cell)) = false := by rfl) :
    QS X W (.Assign [.Name y py] (.ListComp elt [⟨tg, iter, ifs, 0⟩] scope pos) spos) (wSet i (wLcX (own.map (·.2)) wi g tt te)) :=
  ⟨PS.wk (ps_setLcx (i := i) (Wo := W) (te := fun W => TEl X.K W te) hst hfm hc hN tk hy hyl (sw_true hk hyl hl ha) hi.pi (blkOk_by ok) hg (fun a b c d f => (ht a b c d f).pts) (fun W a b c d f xe tk => (he W a b c d f xe tk).pe) hs) fun D σ H ⟨env, G, De, er, wg, h, le⟩ =>
    lcx_parts go ⟨_, env, G, _, er, wg, h, fun d G' v H' p w' x' r => le.nx _ _ _ _ p ((er.ext wg x').set r i) w' x', le.xle wg er⟩⟩
/-- the step of it -/
theorem s_lcX {vs : List Nat} {wi : DI} {g : DG} {tt : DT} {te : DE} {Y : DX} {env : Dv} {G : Gh} {Q : DV → Gh → Prop} (h : wi Y env G fun items stay G1 => lcL stay g tt (fun _ => te Y) (wipeD env vs) Q items [] G1) : wLcX vs wi g tt te Y env G Q := h
end
end DL

/-! texts: a tuple joined, the place of a text in a list -/
namespace DL
open PySem PySem.Spec L2
open PyProof.Rows hiding St
def dJoinT : DM := fun x ds G Q => match x, ds with
  | .str a, [.tup l] => ∃ ys : List Str, l = ys.map .str ∧ (ys.map (·.length)).sum + ys.length * a.length ≤ 16777216 ∧ Q (.str (Txt.join a ys)) G
  | _, _ => False
theorem m_joinT {X : Cx} : MtD X "str.join" dJoinT := by
  rintro pins s σ H x xs v us Q I rx rs ⟨dx, ds, G, P, vx, vs, wg, h, k⟩
  match dx, ds, vx, vs, h with
  | .str a, [.tup l], .str _, .cons (.tup hp r) .nil, ⟨ys, e, hz, h⟩ =>
    subst e
    rw [strs_vrs r] at hp
    exact mt_join pins s σ H _ _ v us Q I rx rs ⟨a, _, ys, rfl, rfl, .inr (SqT.of hp), hz, op_end wg k h (.str _)⟩
section
variable {G : Gh} {Q : DV → Gh → Prop} {a : Str} {ys : List Str}
theorem s_joinT (hz : (ys.map (·.length)).sum + ys.length * a.length ≤ 16777216) (q : Q (.str (Txt.join a ys)) G) : dJoinT (.str a) [.tup (ys.map .str)] G Q := ⟨ys, rfl, hz, q⟩
theorem x_indexS {p : Addr} {l : List Str} {x : Str} {j : Nat} (he : G p = some (.lst (l.map DV.str))) (hj : l[j]? = some x) (hm : ∀ m : Nat, m < j → l[m]? ≠ some x) (q : Q (.int (j : Nat)) G) : dIndexL (.ref p) [.str x] G Q :=
  ⟨_, j, .str x, he, rfl, by rw [List.all_map]; exact List.all_eq_true.mpr fun _ _ => rfl, by rw [List.getElem?_map, hj]; rfl, by show (x == x) = true; simp, fun m z' hmj hz' => by
    rw [List.getElem?_map] at hz'
    cases e : l[m]? with
    | none => rw [e] at hz'; cases hz'
    | some u =>
      rw [e] at hz'
      cases hz'
      show (u == x) = false
      rw [beq_eq_false_iff_ne]
      rintro rfl
      exact hm m hmj e, q⟩
end
end DL

/-! ### min(xs, default=d) of a list of ints -/
namespace PySem
section
variable {P : Program} {w : World} {A : Around} {R : Result → Shared → Prop} {it best : Addr} {fp wr : List Addr} {n : Nat} {Pv : Nat → Value → Prop} {St : Nat → Heap → Prop} {d : Value} {lt : Nat → Nat → Bool}
/-- what stands in the list of the best behind j items -/
def MinUp (Pv : Nat → Value → Prop) (lt : Nat → Nat → Bool) (j : Nat) (old : Array Value) : Prop := (j = 0 ∧ old = #[]) ∨ ∃ v, 0 < j ∧ old = #[v, v] ∧ Pv (argBest lt (j - 1)) v
/-- what min tells at last -/
def MinEnd (Pv : Nat → Value → Prop) (lt : Nat → Nat → Bool) (d : Value) (n : Nat) (v : Value) : Prop := (n = 0 ∧ v = d) ∨ (0 < n ∧ Pv (argBest lt (n - 1)) v)
theorem min_turns (W : Walks P w A.in1 it fp wr n Pv St) (less : CmpOf P w A.in1 .Lt Pv lt) (off : best ∉ fp) : ∀ (m j : Nat) (s : Shared) (old : Array Value) (c : Nat), j + m = n → St j s.heap → MinUp Pv lt j old →
    s.heap.get? best = some { cls := .type "list", dict := none, data := .seq old c, slots := #[] } →
    (∀ v h' tk, MinEnd Pv lt d n v → (∀ b o, b ∉ wr → b ≠ best → s.heap.get? b = some o → h'.get? b = some o) → R (.ok (.ret v)) { s with heap := h', toks := tk }) →
    codeAny (model P w) A (.builtin "min.loop" ⟨[.ref it, .none, .ref best], [("default", d)]⟩) R s := by
  have nm : (toString "min" ++ toString ".loop" : String) = "min.loop" := by decide
  have ow : best ∉ wr := fun h => off (W.sub _ h)
  have z2 : ∀ v : Value, (#[v, v] : Array Value).size ≤ sizeLine := fun v => Nat.le_of_ble_eq_true rfl
  intro m
  induction m with
  | zero =>
    intro j s old c hj st up at_ fin
    obtain rfl : j = n := hj
    apply codeAny_builtin F.entry_min_loop
    rw [Around.under_plainId F.plain_min_loop _]
    refine wpAny_bind (wpAny_seqItems at_ rfl (wpAny_bind (wpAny_tryCatch (W.done s _ _ st fun h' tk kept => ?_))))
    rcases up with ⟨h0, rfl⟩ | ⟨v, h0, rfl, hv⟩
    · exact wpAny_bind (wpAny_rule (wpAny_pure (fin d h' tk (.inl ⟨h0, rfl⟩) fun b o n1 _ e => kept b o n1 e)))
    · change wpAny _ _ (updateSeq best (fun _ => #[]) >>= fun _ => letGo [v] [v] >>= fun _ => ret v) _ _ _
      exact wpAny_bind (wpAny_updateSeq (f := fun _ => #[]) (kept best _ ow at_) rfl (hz := z2 v) (_hz' := Nat.zero_le _) (wpAny_bind (wpAny_letGo (wpAny_pure (fin v _ tk (.inr ⟨h0, hv⟩) fun b o n1 n2 e => (Heap.get?_update_other _ _ (Ne.symm n2)).trans (kept b o n1 e))))))
  | succ m later =>
    intro j s old c hj st up at_ fin
    have jn : j < n := by omega
    apply codeAny_builtin F.entry_min_loop
    rw [Around.under_plainId F.plain_min_loop _]
    refine wpAny_bind (wpAny_seqItems at_ rfl (wpAny_bind (wpAny_tryCatch (W.item j s _ _ jn st fun v h' tk hv st' kept => ?_))))
    have at' := kept best _ ow at_
    have keep2 : ∀ {f : Array Value → Array Value} (b : Addr) (o : Obj), b ≠ best → h'.get? b = some o → (h'.update best (Obj.mapSeq f)).get? b = some o := fun b o n2 e => (Heap.get?_update_other _ _ (Ne.symm n2)).trans e
    have st2 : ∀ f : Array Value → Array Value, St (j + 1) (h'.update best (Obj.mapSeq f)) := fun f => W.frame _ _ _ st' fun b hb o e => keep2 b o (fun z => off (z ▸ hb)) e
    rcases up with ⟨rfl, rfl⟩ | ⟨vb, h0, rfl, hb⟩
    · change wpAny _ _ (updateSeq best (fun _ => #[v, v]) >>= fun _ => again _) _ _ _
      refine wpAny_bind (wpAny_updateSeq (f := fun _ => #[v, v]) at' rfl ?_ (hz := Nat.zero_le _) (_hz' := Nat.le_succ_of_le (z2 v)))
      rw [nm]
      exact wpAny_pure ⟨plainId_quiet F.plain_min_loop _, later 1 _ #[v, v] _ (by omega) (st2 _) (.inr ⟨v, Nat.one_pos, rfl, hv⟩) (Heap.get?_update_self _ at' rfl) fun u h2 tk2 e2 k2 => fin u h2 tk2 e2 fun b o n1 n2 e => k2 b o n1 n2 (keep2 b o n2 (kept b o n1 e))⟩
    · change wpAny _ _ (tryCatch (holding [v, v] (richCompare .Lt v vb >>= _)) _ >>= _) _ _ _
      refine wpAny_bind (wpAny_tryCatch (wpAny_holding (wpAny_bind (less j (argBest lt (j - 1)) v vb _ _ _ hv hb (wpAny_bind (wpAny_holding (wpAny_truthy_bool (wpAny_bind (wpAny_letGo (wpAny_pure ?_))))))))))
      obtain ⟨i, rfl⟩ : ∃ i, j = i + 1 := ⟨j - 1, by omega⟩
      rw [Nat.add_sub_cancel] at hb ⊢
      by_cases q : lt (i + 1) (argBest lt i) = true
      · rw [if_pos q]
        change wpAny _ _ (updateSeq best (fun _ => #[v, v]) >>= fun _ => letGo [vb, vb] >>= fun _ => again _) _ _ _
        refine wpAny_bind (wpAny_updateSeq (f := fun _ => #[v, v]) at' rfl (wpAny_bind (wpAny_letGo ?_)) (hz := z2 vb) (_hz' := Nat.le_succ_of_le (z2 v)))
        rw [nm]
        exact wpAny_pure ⟨plainId_quiet F.plain_min_loop _, later (i + 2) _ #[v, v] _ (by omega) (st2 _) (.inr ⟨v, by omega, rfl, by rw [show i + 2 - 1 = i + 1 from rfl, argBest, if_pos q]; exact hv⟩) (Heap.get?_update_self _ at' rfl) fun u h2 tk2 e2 k2 => fin u h2 tk2 e2 fun b o n1 n2 e => k2 b o n1 n2 (keep2 b o n2 (kept b o n1 e))⟩
      · rw [if_neg q]
        refine wpAny_bind (wpAny_letGo ?_)
        rw [nm]
        exact wpAny_pure ⟨plainId_quiet F.plain_min_loop _, later (i + 2) _ #[vb, vb] c (by omega) st' (.inr ⟨vb, by omega, rfl, by rw [show i + 2 - 1 = i + 1 from rfl, argBest, if_neg q]; exact hb⟩) at' fun u h2 tk2 e2 k2 => fin u h2 tk2 e2 fun b o n1 n2 e => k2 b o n1 n2 (kept b o n1 e)⟩
end
theorem min_default_args (a v : Value) : argsOk "min" ⟨[a], [("default", v)]⟩ := by unfold argsOk; kernel_rfl
/-- the call, for a list of ints -/
theorem min_default {P : Program} {w : World} {A : Around} {E : Value → Shared → Prop} {s : Shared} {d : Value} {l : Addr} {xs : Array (Int × Tok)} {Q : Value → Shared → Prop} (hh : A.handled = none) (hl : s.heap.IsList l (intItems xs))
    (q : ∀ v h' tk, MinEnd (fun i v => (intItems xs)[i]? = some v) (fun i j => decide (numAt xs i < numAt xs j)) d (intItems xs).size v → (∀ b o, s.heap.get? b = some o → h'.get? b = some o) → Q v { s with heap := h', toks := tk }) :
    wpAny (model P w) A (call (.builtin "min") [.ref l] [("default", d)]) Q E s := by
  have nm : (toString "min" ++ toString ".loop" : String) = "min.loop" := by decide
  refine PyProof.Rows.kmk_tree F.kind_min F.plain_min F.entry_min (min_default_args _ _) (wpAny_bind (wpAny_of_eq (show Builtin.Builtins.bindParams "min" ["key", "default"] 0 ⟨[], [("default", d)]⟩ = pure [none, some d] from rfl) (wpAny_bind (wpAny_pure (wpAny_bind (iter_intList hl fun s2 e st old hne => ?_))))))
  subst e
  refine wpAny_bind (wpAny_newObj_type ?_)
  rw [nm]
  have W := Walks.list (prog := P) (w := w) (A := A.in1) hh s.heap.objs.size l hne (intItems xs)
  refine wpAny_pure ⟨plainId_quiet F.plain_min_loop _, min_turns W (CmpOf.ints_lt (numAt xs) fun _ _ => intItems_at) (fun z => Nat.lt_irrefl _ (old _ z)) (intItems xs).size 0 _ #[] _ (Nat.zero_add _) (W.frame _ _ _ st fun b _ o e => Heap.get?_push_of_some _ e) (.inl ⟨rfl, rfl⟩) (Heap.get?_push_size _ rfl) fun v h' tk e kept => q v h' tk e fun b o x => ?_⟩
  exact kept b o (fun z => by rw [List.mem_singleton] at z; exact absurd (z ▸ Heap.lt_size x) (Nat.lt_irrefl _)) (Nat.ne_of_lt (Heap.lt_size (Heap.get?_push_of_some _ x))) (Heap.get?_push_of_some _ (Heap.get?_push_of_some _ x))
end PySem
namespace L2
open PySem PySem.Spec
open PyProof.Rows hiding St
section
variable {prog : Program} {w : World} {A : Around} {E : Value → Shared → Prop} {s : Shared} {d : Value} {l : Addr} {its : List Value} {ns : List Int} {Q : Value → Shared → Prop}
theorem min_rawD (hh : A.handled = none) (hl : s.heap.IsList l its.toArray) (hi : IntsAre its ns)
    (h0 : ns = [] → ∀ h' tk, (∀ b o, s.heap.get? b = some o → h'.get? b = some o) → Q d { s with heap := h', toks := tk })
    (h : ∀ h' tk M t', (∀ b o, s.heap.get? b = some o → h'.get? b = some o) → M ∈ ns → (∀ a, a ∈ ns → M ≤ a) → Q (.int M t') { s with heap := h', toks := tk }) : wpAny (model prog w) A (call (.builtin "min") [.ref l] [("default", d)]) Q E s := by
  obtain ⟨xs, e⟩ := hi.allInts.items
  obtain rfl : xs.toList.map (·.1) = ns := by rw [← nums_intItems, ← e]; exact hi.numsOf
  have sz : (intItems xs).size = xs.size := by simp [intItems]
  refine min_default hh (e ▸ hl) fun v h' tk z kept => ?_
  rw [sz] at z
  rcases z with ⟨z, rfl⟩ | ⟨pos, hv⟩
  · exact h0 (by rw [List.map_eq_nil_iff, ← List.length_eq_zero_iff, Array.length_toList]; exact z) h' tk kept
  · obtain ⟨t, rfl⟩ := intItems_at hv
    obtain ⟨a1, a2⟩ := argBest_lt (numAt xs) (xs.size - 1)
    have at_ : ∀ i, i < xs.size → numAt xs i ∈ xs.toList.map (·.1) := fun i hi => by rw [numAt_eq]; exact PySem.getD_mem (by simpa using hi)
    refine h h' tk _ t kept (at_ _ (by omega)) fun a ha => ?_
    obtain ⟨i, hi, rfl⟩ := mem_getD ha
    rw [← numAt_eq]
    exact a2 i (by have : i < xs.size := by simpa using hi
                   omega)
end
def rMinD (K : PySem.W.Frag) : List V → List V → Hp → VK → Prop := fun vs zs H Q => ∃ (a : Addr) (ns : List Int) (z : V), vs = [V.ref a] ∧ zs = [z] ∧ SqL K H a (ns.map V.int) ∧ (ns = [] → Q z H) ∧ ∀ m, m ∈ ns → (∀ y, y ∈ ns → m ≤ y) → Q (.int m) H
theorem cr_minD {X : Cx} (hc : X.calm = true) : CallRK X (.builtin "min") [Str.ofString "default"] (rMinD X.K) := by
  intro pins s σ H vs zs us ws Q I r rz h
  obtain ⟨a, ns, z, rfl, rfl, hs, q0, q⟩ := h
  obtain rfl := Vals.ref1 r
  obtain ⟨w1, rfl, e1⟩ := vals1 rz
  obtain ⟨its, rv, hl, _⟩ := I.list hs
  exact min_rawD (I.ok.hd hc) hl.isList rv.ints (fun hn h' tk hk => ⟨z, H, I.kept hk, e1, q0 hn⟩) fun h' tk m t' hk h1 h2 => ⟨.int _, H, I.kept hk, ⟨_, rfl⟩, q m h1 h2⟩
end L2
namespace DL
open PySem PySem.Spec L2
open PyProof.Rows hiding St
/-! ### min(xs, default=..) at the data level -/
section
variable {X : Cx} {W : WX} {e : Expr} {wa wb : DE} {pos p : Pos}
def minDK (Q : DV → Gh → Prop) (x y : DV) (G : Gh) : Prop := match x with
  | .ref a => ∃ ns : List Int, G a = some (.lst (ns.map .int)) ∧ (ns = [] → Q y G) ∧ ∀ m, m ∈ ns → (∀ z, z ∈ ns → m ≤ z) → Q (.int m) G
  | _ => False
def wMinD (wa wb : DE) : DE := fun Y env G Q => wa Y env G fun x G1 => wb Y env G1 fun y G2 => minDK Q x y G2
theorem q_minD {f : Expr} {kp : Pos} (hm : X.mg "min" = none) (hc : X.calm = true) (ha : QE X W e wa) (hb : QE X W f wb) (hg : Gl X "min" := by rfl)
    (hst : starEach [e] X.env = (false, eval e X.env) :: starEach [] X.env := by rfl)
    (he : backTo pos (starEach [e] X.env) = (false, eval e X.env) :: backTo pos (starEach [] X.env) := by rfl) (hpl : (backTo pos (starEach [e] X.env)).any (·.1) = false := by rfl)
    (hall : (backToKw pos (keywordEach [⟨some "default", f, kp⟩] X.env)).all (·.1.isSome) = true := by rfl) (hnone : (backToKw pos (keywordEach [⟨some "default", f, kp⟩] X.env)).any (·.1.isNone) = false := by rfl) (hks : (backToKw pos (keywordEach [⟨some "default", f, kp⟩] X.env)).filterMap (·.1) = [Str.ofString "default"] := by rfl) :
    QE X W (.Call (.Name "min" p) [e] [⟨some "default", f, kp⟩] pos) (wMinD wa wb) := by
  refine ⟨PE.wk (pe_callBK (cr_minD hc) hg hm (by decide +kernel) (qa_cons ha qa_nil hst).pa (pk_cons hb.pe pk_nil) (by decide) (by decide) he hpl hall hnone hks) ?_⟩
  rintro σ H Q ⟨Y, env, G, P, er, wg, h, k, kx⟩
  refine ⟨Y, env, G, (fun ds G1 => match ds with | [x] => wb Y env G1 fun y G2 => minDK P x y G2 | _ => False), er, wg, h, fun ds G1 vs H1 h1 w1 x1 r1 => ?_, kx⟩
  match ds, vs, r1, h1 with
  | [x], [vx], .cons rx .nil, h1 =>
    refine ⟨Y, env, G1, _, er.ext wg x1, w1, h1, fun y G2 vy H2 h2 w2 x2 r2 => ?_, kx.step x1⟩
    cases x <;> first | exact h2.elim | skip
    rename_i a
    obtain ⟨ns, ga, q0, q⟩ := h2
    cases rx
    obtain ⟨xs, ha', rs⟩ := w2 _ _ ga
    rw [rs.ofInts] at ha'
    exact ⟨a, ns, vy, rfl, rfl, .inl (.inl ha'), fun hn => k _ _ _ _ (q0 hn) w2 (x1.trans x2) r2, fun m h1 h2 => k _ _ _ _ (q m h1 h2) w2 (x1.trans x2) (.int m)⟩
theorem s_minD {Y : DX} {env : Dv} {G : Gh} {Q : DV → Gh → Prop} (q : wa Y env G fun x G1 => wb Y env G1 fun y G2 => minDK Q x y G2) : wMinD wa wb Y env G Q := q
theorem s_minDK {G : Gh} {Q : DV → Gh → Prop} {a : Addr} {y : DV} {ns : List Int} (ga : G a = some (.lst (ns.map .int))) (q0 : ns = [] → Q y G) (q : ∀ m, m ∈ ns → (∀ z, z ∈ ns → m ≤ z) → Q (.int m) G) : minDK Q (.ref a) y G := ⟨ns, ga, q0, q⟩
end
/-! ### a dict that is walked: locked meanwhile -/
section
variable {X : Cx} {W : WX} {e : Expr} {st : Stmt} {we : DE} {w : DS} {pos : Pos} {tg : Expr}
def lockE (w : DS) : DS := fun D env G => ∃ d kvs, G d = some (.dic kvs) ∧ ∀ o xs G1, Old d G G1 → G1 d = some (.fz o xs kvs) → w ⟨fun env' G' => G' d = some (.fz o xs kvs) ∧ ∀ G2, Old d G' G2 → G2 d = some (.dic kvs) → D.nx env' G2, fun _ _ => False, fun _ _ => False, fun _ _ => False, fun _ _ _ _ => False⟩ env G1
theorem qs_lock (h : QS X W st w) : QS X W st (lockE w) := by
  refine ⟨PS.wk (ps_lock h.ps) ?_⟩
  rintro D σ H ⟨env, G, De, er, wg, ⟨d, kvs, gd, h⟩, le⟩
  obtain ⟨xs, hd, kr⟩ := wg _ _ gd
  refine ⟨d, .dK xs, hd, trivial, fun od => ?_⟩
  have x1 : Ext G H (gup G d (.fz od xs kvs)) (upd H d (.frz od (.dK xs))) := Ext.setC gd
  have w1 : WG X.K (gup G d (.fz od xs kvs)) (upd H d (.frz od (.dK xs))) := wg.put (.inr ⟨_, gd⟩) ⟨upd_same, kr.ext wg (Put.ext (c := .fz od xs kvs) (.inr ⟨_, gd⟩))⟩
  refine ⟨env, _, _, er.ext wg x1, w1, h od xs _ Old.set gup_same, ⟨fun env' G' σ' H' p e' w' x' => ?_, fun _ _ _ _ p => p.elim, fun _ _ _ _ p => p.elim, fun _ _ _ _ p => p.elim, fun _ _ _ _ _ _ _ _ p => p.elim⟩⟩
  obtain ⟨g2, q⟩ := p
  obtain ⟨hd2, kr2⟩ := w' _ _ g2
  have x2 : Ext G' H' (gup G' d (.dic kvs)) (upd H' d (.dK xs)) := Ext.setC g2
  exact ⟨hd2, le.nx _ _ _ _ (q _ Old.set gup_same) (e'.ext w' x2) (w'.put (.inr ⟨_, g2⟩) ⟨xs, upd_same, kr2.ext w' (Put.ext (c := .dic kvs) (.inr ⟨_, g2⟩))⟩) ((x1.trans x').trans x2)⟩
theorem s_lock {D : DEnds} {env : Dv} {G : Gh} (d : Addr) {kvs : List (Key × DV)} (gd : G d = some (.dic kvs)) (q : ∀ o xs G1, Old d G G1 → G1 d = some (.fz o xs kvs) → w ⟨fun env' G' => G' d = some (.fz o xs kvs) ∧ ∀ G2, Old d G' G2 → G2 d = some (.dic kvs) → D.nx env' G2, fun _ _ => False, fun _ _ => False, fun _ _ => False, fun _ _ _ _ => False⟩ env G1) : lockE w D env G := ⟨d, kvs, gd, q⟩
def kyK (R : List DV → (Gh → Prop) → Gh → Prop) (x : DV) (G : Gh) : Prop := match x with
  | .ref a => ∃ o xs l, G a = some (.fz o xs l) ∧ R (l.map fun kv => kD kv.1) (fun g => g a = some (.fz o xs l)) G
  | _ => False
def wiKeys (we : DE) : DI := fun Y env G R => we Y env G (kyK R)
theorem VR.ofKey {K : PySem.W.Frag} {H : Hp} (k : Key) : VR K H (kV k) (kD k) := by
  cases k with
  | inl i => exact .int i
  | inr x => exact .str x
theorem qi_keys (he : QE X W e we) : QI X W tg e (wiKeys we) := by
  refine ⟨PI.wk (pi_keys he.pe) ?_⟩
  rintro σ H R ⟨Y, env, G, P, er, wg, h, k, kx⟩
  refine ⟨Y, env, G, _, er, wg, h, fun x G1 v H1 h1 w1 x1 r1 => ?_, kx⟩
  cases x <;> first | exact h1.elim | skip
  rename_i a
  obtain ⟨o, xs, l, ga, q⟩ := h1
  cases r1
  obtain ⟨ha, kr⟩ := w1 _ _ ga
  refine ⟨a, o, rfl, .inl ⟨xs, ha, k _ _ _ _ _ q w1 x1 ⟨fun i H G d w _ ga hd => ?_, fun i H G w _ ga hl => ?_⟩⟩⟩
  · obtain ⟨ha, kr⟩ := w _ _ ga
    have hk : xs.map (·.1) = l.map (·.1) := kr.fsts
    obtain ⟨kv, hkv, rfl⟩ : ∃ kv, l[i]? = some kv ∧ kD kv.1 = d := by
      rw [List.getElem?_map] at hd
      exact Option.map_eq_some_iff.mp hd
    have hx : (xs.map (·.1))[i]? = some kv.1 := by rw [hk, List.getElem?_map, hkv]; rfl
    rw [List.getElem?_map] at hx
    obtain ⟨p, hp, e1⟩ := Option.map_eq_some_iff.mp hx
    refine ⟨⟨ha, (List.getElem?_eq_some_iff.mp hp).1⟩, ?_⟩
    rintro x H' ⟨rfl, k', v', e2, rfl⟩
    rw [hp] at e2
    cases e2
    exact ⟨w, Ext.refl, e1 ▸ VR.ofKey _⟩
  · obtain ⟨ha, kr⟩ := w _ _ ga
    exact ⟨ha, by rw [kr.len, ← hl, List.length_map]; exact Nat.le_refl _⟩
theorem s_wiKeys {Y : DX} {env : Dv} {G : Gh} {R : List DV → (Gh → Prop) → Gh → Prop} (q : we Y env G (kyK R)) : wiKeys we Y env G R := q
theorem s_kyK {G : Gh} {R : List DV → (Gh → Prop) → Gh → Prop} {a : Addr} {o : Obj} {xs : List (Key × V)} {l : List (Key × DV)} (ga : G a = some (.fz o xs l)) (q : R (l.map fun kv => kD kv.1) (fun g => g a = some (.fz o xs l)) G) : kyK R (.ref a) G := ⟨o, xs, l, ga, q⟩
/-- d[k] of a locked dict -/
def dIxZ : D2 := fun x y G Q => match x with
  | .ref a => ∃ o xs l k d, G a = some (.fz o xs l) ∧ keyD y = some k ∧ valD l k = some d ∧ Q d G
  | _ => False
theorem o_ixZ (hu : X.A.units + 64 < cLine) : IxD X dIxZ := by
  rintro value slice pins s σ H x y v u Q I rx ry ⟨dx, dy, G, P, vx, vy, wg, h, k⟩ hs
  cases dx <;> first | exact h.elim | skip
  rename_i a
  cases vx
  obtain ⟨o, xs, l, kk, d, ga, hk, hv, q⟩ := h
  obtain ⟨ha, kr⟩ := wg _ _ ga
  obtain ⟨z, hz, rz⟩ := kr.val hv
  rw [vy.key hk] at ry
  exact ix_dict (by omega) value slice pins s σ H _ _ v u Q I rx ry ⟨a, z, rfl, .inl ⟨xs, kk, .inr ⟨o, ha⟩, rfl, hz.symm⟩, op_end wg k q rz⟩ hs
theorem s_ixZ {G : Gh} {Q : DV → Gh → Prop} {a : Addr} {y d : DV} {k : Key} {o : Obj} {xs : List (Key × V)} {l : List (Key × DV)} (ga : G a = some (.fz o xs l)) (hk : keyD y = some k) (hv : valD l k = some d) (q : Q d G) : dIxZ (.ref a) y G Q := ⟨o, xs, l, k, d, ga, hk, hv, q⟩
/-- list(d): its keys -/
def dListDk : DC := fun ds G Q => match ds with
  | [.ref a] => ∃ kvs, G a = some (.dic kvs) ∧ ∀ p, G p = none → Q (.ref p) (gup G p (.lst (kvs.map fun kv => kD kv.1)))
  | _ => False
theorem c_listDk (hc : X.calm = true) : CallD X (.type "list") dListDk := by
  rintro pins s σ H xs us Q I r ⟨ds, G, P, vs, wg, h, k⟩
  match ds, xs, vs, h with
  | [.ref a], [_], .cons (.ref _) .nil, ⟨kvs, ga, q⟩ =>
    obtain ⟨ws, ha, kr⟩ := wg _ _ ga
    refine call_listD hc pins s σ H _ us Q I r ⟨a, ws, rfl, .inl ha, fun p np => k _ _ _ _ (q p (wg.non np)) ?_ (Ext.newC np) (.ref p)⟩
    have hk : (ws.map fun kv => kV kv.1) = (kvs.map (·.1)).map kV := by rw [← kr.fsts, List.map_map]; rfl
    have hq : VRs X.K H (ws.map fun kv => kV kv.1) (kvs.map fun kv => kD kv.1) := by
      rw [hk]
      clear q ga ha kr hk
      induction kvs with
      | nil => exact .nil
      | cons y t ih => exact .cons (VR.ofKey _) ih
    exact wg.newL np hq
theorem x_listDk {G : Gh} {Q : DV → Gh → Prop} {a : Addr} {kvs : List (Key × DV)} (ga : G a = some (.dic kvs)) (q : ∀ p G1, G p = none → Sub G G1 → G1 p = some (.lst (kvs.map fun kv => kD kv.1)) → Q (.ref p) G1) : dListDk [.ref a] G Q := ⟨kvs, ga, fun p np => q p _ np (Sub.new np) gup_same⟩
/-- d.pop(k), k there -/
def dropD (kvs : List (Key × DV)) (k : Key) : List (Key × DV) := kvs.filter fun kv => decide (kv.1 ≠ k)
theorem KR.drop {K : PySem.W.Frag} {H : Hp} {k : Key} : ∀ {xs : List (Key × V)} {ys : List (Key × DV)}, KR K H xs ys → KR K H (dropK xs k) (dropD ys k)
  | _, _, .nil => .nil
  | _, _, .cons (k := j) r t => by
    unfold dropK dropD
    by_cases h : j = k
    · rw [List.filter_cons_of_neg (by simp [h]), List.filter_cons_of_neg (by simp [h])]; exact t.drop
    · rw [List.filter_cons_of_pos (by simp [h]), List.filter_cons_of_pos (by simp [h])]; exact .cons r t.drop
def dDpop : DM := fun x ds G Q => match x, ds with
  | .ref a, [y] => ∃ kvs k d, G a = some (.dic kvs) ∧ keyD y = some k ∧ valD kvs k = some d ∧ Q d (gup G a (.dic (dropD kvs k)))
  | _, _ => False
theorem m_dpop : MtD X "dict.pop" dDpop := by
  rintro pins s σ H x xs v us Q I rx rs ⟨dx, ds, G, P, vx, vs, wg, h, k⟩
  match dx, ds, vx, vs, h with
  | .ref a, [y], .ref _, .cons vy .nil, ⟨kvs, kk, d, ga, hk, hv, q⟩ =>
    obtain ⟨ws, ha, kr⟩ := wg _ _ ga
    obtain ⟨z, hz, rz⟩ := kr.val hv
    have ey := vy.key hk
    subst ey
    cases rx
    match us, rs with
    | [uk], .cons rk .nil =>
      have x1 : Ext G H (gup G a (.dic (dropD kvs kk))) (upd H a (.dK (dropK ws kk))) := Ext.setC ga
      refine d_pop I ha rk hz (.inl rfl) fun w' s3 I3 rw' => ⟨z, _, I3, rw', k _ _ _ _ q (wg.put (.inr ⟨_, ga⟩) ⟨_, upd_same, kr.drop.ext wg (Put.ext (c := .dic (dropD kvs kk)) (.inr ⟨_, ga⟩))⟩) x1 (rz.ext wg x1)⟩
theorem x_dpop {G : Gh} {Q : DV → Gh → Prop} {a : Addr} {y d : DV} {k : Key} {kvs : List (Key × DV)} (ga : G a = some (.dic kvs)) (hk : keyD y = some k) (hv : valD kvs k = some d) (q : ∀ G1, Old a G G1 → G1 a = some (.dic (dropD kvs k)) → Q d G1) : dDpop (.ref a) [y] G Q := ⟨kvs, k, d, ga, hk, hv, q _ Old.set gup_same⟩
end
end DL

/-! ### tuples that are known to the object: made by tuple(list), asked for an index -/
namespace L2
open PySem PySem.Spec
open PyProof.Rows hiding St
section
variable {X : Cx}
theorem call_tupleF : CallR X (.type "tuple") (fun xs H Q => ∃ p ys, xs = [.ref p] ∧ SqL X.K H p ys ∧ ∀ l o, o.cls = .type "tuple" → o.dict = none → H l = none → Q (.ref l) (upd H l (.frz o (.tup ys)))) := by
  intro pins s σ H xs us Q I r h
  obtain ⟨p, ys, rfl, hq, q⟩ := h
  obtain ⟨u, rfl, rx⟩ := vals1 r
  cases rx
  obtain ⟨its, r', pl, hz⟩ := I.list hq
  have hlen := r'.length
  refine call_tuple_list pl.isList (fun h' kp => ?_) (by simp only [List.size_toArray] <;> omega)
  have I1 : Inv X pins σ H { s with heap := h' } := I.kept (t' := s.toks) kp
  have I2 : Inv X pins σ (upd H h'.objs.size (.frz { cls := .type "tuple", data := .seq its.toArray } (.tup ys))) { s with heap := h'.push { cls := .type "tuple", data := .seq its.toArray } } :=
    I1.laid (t' := s.toks) (fun b o e => Heap.get?_push_of_some _ e) (Nat.le_refl _) (show ObjOk X.prog X.w _ _ _ (.frz _ (.tup ys)) from ⟨Heap.get?_push_size _ rfl, hz, its, r', IsTup.new _ _⟩)
  exact ⟨.ref h'.objs.size, _, I2, rfl, q _ _ rfl rfl (I1.hok.fresh (Nat.le_refl _))⟩
/-- o.m(e), o a thing of a builtin type without a dict -/
def tBMd (φ : V → Hp → Prop) (r : V → List V → Hp → VK → Prop) (to : TE) (t : TA) : TE := fun σ H Q => to σ H fun x H1 => φ x H1 ∧ t σ H1 fun vs H2 => r x vs H2 Q
theorem pe_bmD {o e : Expr} {es : List Expr} {to : TE} {t : TA} {name : Str} {apos cpos : Pos} {T id : String} {r : V → List V → Hp → VK → Prop} {φ : V → Hp → Prop} (pa : PlainAttrs T) (slot : Slot T name id) (hty : typeOf (.builtin id) = pure (.type "method_descriptor")) (hm : MtR X id r) (ho : PE X o to) (ha : PA X (e :: es) t)
    (hφ : ∀ {pins : List (Addr × Obj)} {σ : St} {H : Hp} {s : Shared} {x : V} {v : Value}, Inv X pins σ H s → RelV x v → φ x H → s.TypeIs v T ∧ ∀ a, v = .ref a → ∃ ob, s.heap.get? a = some ob ∧ ob.dict = none)
    (hbase : attributeBase o name X.env (eval o X.env) = eval o X.env := by rfl)
    (hfew : ((backTo cpos (starEach (e :: es) X.env)).all (fun x => !x.1) && (backToKw cpos (keywordEach [] X.env)).all (fun x => x.1.isSome) && decide ((e :: es).length + ([] : List Keyword).length + (if ([] : List Keyword).isEmpty then 0 else 1) < 30)) = true := by rfl)
    (hline : (apos.endLine == cpos.line) = true := by rfl) (hs : starEach (e :: es) X.env = (false, eval e X.env) :: starEach es X.env := by rfl) (hplain : (backTo cpos (starEach es X.env)).any (·.1) = false := by rfl) :
    PE X (.Call (.Attribute o name apos) (e :: es) [] cpos) (tBMd φ r to t) := by
  refine ⟨fun pins s σ H Q I h => ?_⟩
  refine wpAny_Call_method_late hbase hfew hline rfl (thn (ho.run pins s σ H _ I h) fun v s1 ⟨x, H1, I1, r1, ty, q1⟩ => ?_)
  obtain ⟨h1, h2⟩ := hφ I1 r1 ty
  refine ⟨T, id, pa, slot, hty, h1, h2, ?_⟩
  have hA := ha.run cpos pins s1 σ H1 _ I1 q1
  rw [hs] at hA ⊢
  refine Calls.callWith_builtin (by show (false || (backTo cpos (starEach es X.env)).any (·.1)) = false; rw [hplain]; rfl) (Calls.evalArgs_plain ?_)
  exact thn hA fun us s2 ⟨vs, H2, I2, r2, q2⟩ => hm pins s2 σ H2 x vs v us Q I2 r1 r2 q2
end
end L2
namespace DL
open PySem PySem.Spec L2
open PyProof.Rows hiding St
section
variable {X : Cx} {W : WX}
/-- tuple(a list): a tuple that is known -/
def dTupleF : DC := fun ds G Q => match ds with
  | [.ref a] => ∃ l, G a = some (.lst l) ∧ Q (.kt l) G
  | _ => False
theorem c_tupleF : CallD X (.type "tuple") dTupleF := by
  rintro pins s σ H xs us Q I rs ⟨ds, G, P, vs, wg, h, k⟩
  match ds, vs, h with
  | [.ref a], .cons (.ref _) .nil, ⟨l, ga, h⟩ =>
    obtain ⟨ys, ha, r⟩ := wg _ _ ga
    refine call_tupleF pins s σ H _ us Q I rs ⟨_, _, rfl, SqL.of ha, fun p o hc hd np => ?_⟩
    exact k _ _ _ _ h (wg.new np) (Ext.new np) (.kt (.inl ⟨o, upd_same, hc, hd⟩) (r.ext wg (Ext.new np)))
/-- a known tuple is seen as any tuple: its length, an item, a list of it, its items in turn -/
def dLenF : DC := fun ds G Q => match ds with
  | [.kt l] => Q (.int l.length) G
  | _ => False
theorem c_lenF : CallD X (.builtin "len") dLenF := by
  rintro pins s σ H xs us Q I rs ⟨ds, G, P, vs, wg, h, k⟩
  match ds, vs, h with
  | [.kt l], .cons (.kt sq r) .nil, h => exact call_len pins s σ H _ us Q I rs ⟨_, _, rfl, .inr ⟨_, sq.sq, r.len.symm⟩, op_end wg k h (.int _)⟩
def dListF : DC := fun ds G Q => match ds with
  | [.kt l] => ∀ p, G p = none → Q (.ref p) (gup G p (.lst l))
  | _ => False
theorem c_listF : CallD X (.type "list") dListF := by
  rintro pins s σ H xs us Q I rs ⟨ds, G, P, vs, wg, h, k⟩
  match ds, vs, h with
  | [.kt l], .cons (.kt sq r) .nil, h => exact call_list_of pins s σ H _ us Q I rs ⟨_, _, rfl, .inr sq.sq, fun p np => k _ _ _ _ (h p (wg.non np)) (wg.newL np r) (Ext.newC np) (.ref p)⟩
def dIxF : D2 := fun x y G Q => match x, y with
  | .kt l, .int i => ∃ d, atI l i = some d ∧ Q d G
  | _, _ => False
theorem o_ixF : IxD X dIxF := by
  rintro value slice pins s σ H x y v u Q I rx ry ⟨dx, dy, G, P, vx, vy, wg, h, k⟩ hs
  match dx, dy, vx, vy, h with
  | .kt l, .int i, .kt sq rs, .int _, ⟨d, e, h⟩ =>
    obtain ⟨w, e2, r⟩ := rs.atI e
    exact ix_tup value slice pins s σ H _ _ v u Q I rx ry ⟨_, _, i, w, rfl, rfl, sq.sq, e2, op_end wg k h r⟩ hs
def wiSeqF (we : DE) : DI := fun Y env G R => we Y env G fun d G1 => match d with
  | .kt l => R l (fun _ => True) G1
  | _ => False
theorem qi_seqF {e tg : Expr} {wa : DE} (h : QE X W e wa) : QI X W tg e (wiSeqF wa) := by
  refine ⟨⟨?_⟩⟩
  rintro pins s σ H R I ⟨Y, env, G, P, er, wg, hw, k, kx⟩
  refine thn (h.pe.run pins s σ H (fun v H1 => ∃ d G1, VR X.K H1 v d ∧ WG X.K G1 H1 ∧ Ext G H G1 H1 ∧ (match d with
    | .kt l => P l (fun _ => True) G1
    | _ => False)) I ⟨Y, env, G, _, er, wg, hw, fun d G1 v H1 h1 w1 x1 r1 => ⟨d, G1, r1, w1, x1, h1⟩, kx⟩) ?_
  rintro u s1 ⟨v, H1, I1, ru, d, G1, r1, w1, x1, h1⟩
  have seqT : ∀ {a : Addr} {xs : List V}, v = .ref a → SqT X.K H1 a xs → R (Itt X.K a) H1 → wpAny (model X.prog X.w) X.A (pyIter u) (PIE X pins σ tg R) X.xe s1 := by
    rintro a xs rfl sq q
    cases (show u = Value.ref a from ru)
    obtain ⟨its, rv, pl, hz⟩ := I1.tuple sq
    refine wpAny_pyIter_tuple (show s1.heap.IsTuple a its.toArray from pl) ⟨s1.heap.objs.size, [s1.heap.objs.size], _, _, H1, rfl, ?_, turn_tuple a _, ?_, ?_, q⟩
    · exact I1.kept (t' := s1.toks) fun b o z => Heap.get?_push_of_some _ z
    · exact ⟨_, Heap.get?_push_size _ rfl, rfl, rfl⟩
    · intro b hb
      obtain rfl : b = s1.heap.objs.size := by simpa using hb
      exact I1.fpOk (Nat.le_refl _) (I1.hok.fresh (Nat.le_refl _))
  cases r1 <;> first | exact h1.elim | skip
  rename_i sq rs
  exact seqT rfl sq.sq (k _ _ _ _ _ h1 w1 x1 (itd_tup w1 sq.sq rs))
/-! #### t.index(x) -/
def isKt (x : DV) : Prop := match x with
  | .kt _ => True
  | _ => False
def dIndexK : DM := fun x ds G Q => match x, ds with
  | .kt l, [.str k] => ∃ (ns : List Str) (j : Nat), l = ns.map DV.str ∧ ns[j]? = some k ∧ (∀ m : Nat, m < j → ns[m]? ≠ some k) ∧ Q (.int (j : Nat)) G
  | _, _ => False
theorem m_indexK : MtD X "tuple.index" dIndexK := by
  rintro pins s σ H x xs v us Q I rx rs ⟨dx, ds, G, P, vx, vs, wg, h, k⟩
  match dx, ds, vx, vs, h with
  | .kt l, [.str i], .kt sq rr, .cons (.str _) .nil, ⟨ns, j, hl, hj, hm, h⟩ =>
    subst hl
    have e := rr.ofStrs
    subst e
    cases rx
    cases rs with
    | cons rv rn =>
      cases rn
      obtain ⟨tk, rfl⟩ := (show ∃ t, _ = Value.str i t from rv)
      obtain ⟨its, rvs, hT, hz⟩ := I.tuple sq.sq
      have hlen := rvs.length
      have hjn : j < ns.length := (List.getElem?_eq_some_iff.mp hj).1
      have hji : j < its.length := by rw [← hlen, List.length_map]; exact hjn
      have val : ∀ m (hm : m < its.length), eqU (.str i) its[m] = decide (ns[m]? = some i) := fun m hm => by
        have hmn : m < ns.length := by rw [← hlen, List.length_map] at hm; exact hm
        have e1 : (ns.map V.str)[m]? = some (.str ns[m]) := by rw [List.getElem?_map, List.getElem?_eq_getElem hmn]; rfl
        obtain ⟨u, hu, ru⟩ := rvs.get e1
        have e2 : its[m] = u := by
          have := List.getElem?_eq_getElem hm
          rw [this] at hu; exact Option.some.inj hu
        rw [e2, eqU_of ru rfl, List.getElem?_eq_getElem hmn]
        show (ns[m] == i) = decide (some ns[m] = some i)
        rw [Bool.eq_iff_iff, beq_iff_eq, decide_eq_true_iff, Option.some.injEq]
      refine call_meets F.slot_tuple_index (by obtain ⟨o, ho, hc, _⟩ := hT; exact ⟨o, ho, hc⟩) F.entry_tuple_index (F.args_tuple_index_2 _ _) (tuple_indexAt _ its.toArray (.str i tk) (eqU (.str i)) j (by simpa using hji) ?_ ?_) ⟨hT, ?_, ?_⟩
      · rw [List.getElem_toArray, val j hji, decide_eq_true_iff]; exact hj
      · intro m hm1 hm2
        rw [List.getElem_toArray, val m (by simpa using hm1), decide_eq_false_iff_not]
        exact hm m hm2
      · intro y hy
        exact mem_eqAt (x := .str i) (v := .str i tk) ⟨tk, rfl⟩ rfl rvs (by rw [List.all_map, List.all_eq_true]; intro z _; rfl) y (by simpa using hy)
      · exact ⟨.int (j : Nat), H, I.tok _, ⟨_, rfl⟩, k _ _ _ _ h wg Ext.refl (.int _)⟩
/-- the value is a known tuple -/
def KtV (K : PySem.W.Frag) (x : V) (H : Hp) : Prop := match x with
  | .ref a => ∃ xs, KtL K H a xs
  | _ => False
theorem KtV.is {pins : List (Addr × Obj)} {σ : L2.St} {H : Hp} {s : Shared} {x : V} {v : Value} (I : Inv X pins σ H s) (r : RelV x v) (h : KtV X.K x H) : s.TypeIs v "tuple" ∧ ∀ a, v = .ref a → ∃ ob, s.heap.get? a = some ob ∧ ob.dict = none := by
  cases x <;> first | exact h.elim | skip
  rename_i a
  obtain ⟨xs, h⟩ := h
  cases r
  rcases h with ⟨o, e, hc, hd⟩ | ⟨_, o, e, hc, hd⟩
  · have e2 : s.heap.get? a = some o := (show ObjOk X.prog X.w H s.heap a (.frz o (.tup xs)) from I.hok a _ e).1
    exact ⟨⟨o, e2, hc⟩, fun b eb => by cases eb; exact ⟨o, e2, hd⟩⟩
  · exact tyV_is (x := .ref a) I rfl (show tyV X.K "tuple" (.ref a) H from .inr (.inl ⟨rfl, o, e, hc, hd⟩))
def wBMk (r : DM) (wo : DE) (wr : DA) : DE := fun Y env G Q => wo Y env G fun x G1 => isKt x ∧ wr Y env G1 fun xs G2 => r x xs G2 Q
theorem q_bmK {o e : Expr} {es : List Expr} {wa : DE} {wr : DA} {name : Str} {apos cpos : Pos} {id : String} {r : DM} (slot : Slot "tuple" name id) (hty : typeOf (.builtin id) = pure (.type "method_descriptor")) (hm : MtD X id r) (ho : QE X W o wa) (ha : QA X W (e :: es) wr)
    (hbase : attributeBase o name X.env (eval o X.env) = eval o X.env := by rfl)
    (hfew : ((backTo cpos (starEach (e :: es) X.env)).all (fun x => !x.1) && (backToKw cpos (keywordEach [] X.env)).all (fun x => x.1.isSome) && decide ((e :: es).length + ([] : List Keyword).length + (if ([] : List Keyword).isEmpty then 0 else 1) < 30)) = true := by rfl)
    (hline : (apos.endLine == cpos.line) = true := by rfl) (hs : starEach (e :: es) X.env = (false, eval e X.env) :: starEach es X.env := by rfl) (hplain : (backTo cpos (starEach es X.env)).any (·.1) = false := by rfl) :
    QE X W (.Call (.Attribute o name apos) (e :: es) [] cpos) (wBMk r wa wr) :=
  ⟨PE.wk (pe_bmD (φ := KtV X.K) PySem.F.plainAttrs_tuple slot hty hm ho.pe ha.pa (fun I r h => KtV.is I r h) hbase hfew hline hs hplain) fun σ H Q ⟨Y, env, G, P, er, wg, h, k, kx⟩ => ⟨Y, env, G, _, er, wg, h, fun x G1 v H1 ⟨t1, h1⟩ w1 x1 r1 =>
    ⟨by cases r1 with
        | kt sq rr => exact ⟨_, sq⟩
        | _ => exact t1.elim, Y, env, G1, _, er.ext wg x1, w1, h1, fun ds G2 vs H2 h2 w2 x2 r2 => ⟨x, ds, G2, P, r1.ext w1 x2, r2, w2, h2, fun d G' v' H' p w' x' r' => k d G' v' H' p w' ((x1.trans x2).trans x') r'⟩, kx.step x1⟩, kx⟩⟩
end
section
variable {G : Gh} {Q : DV → Gh → Prop} {l : List DV} {Y : DX} {env : Dv}
def seqFK (I : List DV → (Gh → Prop) → Gh → Prop) (d : DV) (G1 : Gh) : Prop := match d with
  | .kt l => I l (fun _ => True) G1
  | _ => False
theorem s_wiSeqF {wa : DE} {I : List DV → (Gh → Prop) → Gh → Prop} (q : wa Y env G (seqFK I)) : wiSeqF wa Y env G I := q
theorem s_seqKt {I : List DV → (Gh → Prop) → Gh → Prop} (q : I l (fun _ => True) G) : seqFK I (.kt l) G := q
theorem s_wBMk {r : DM} {wo : DE} {wr : DA} (q : wo Y env G fun x G1 => isKt x ∧ wr Y env G1 fun xs G2 => r x xs G2 Q) : wBMk r wo wr Y env G Q := q
theorem s_lenF (q : Q (.int l.length) G) : dLenF [.kt l] G Q := q
theorem s_listF (q : ∀ p G1, G p = none → Sub G G1 → G1 p = some (.lst l) → Q (.ref p) G1) : dListF [.kt l] G Q := fun p hp => q p _ hp (Sub.new hp) gup_same
theorem s_tupleF {a : Addr} (he : G a = some (.lst l)) (q : Q (.kt l) G) : dTupleF [.ref a] G Q := ⟨l, he, q⟩
theorem s_ixF {i : Int} {d : DV} (he : atI l i = some d) (q : Q d G) : dIxF (.kt l) (.int i) G Q := ⟨d, he, q⟩
theorem s_idxK {ns : List Str} {k : Str} {j : Nat} (hj : ns[j]? = some k) (hm : ∀ m : Nat, m < j → ns[m]? ≠ some k) (q : Q (.int (j : Nat)) G) : dIndexK (.kt (ns.map .str)) [.str k] G Q := ⟨ns, j, rfl, hj, hm, q⟩
end
end DL

/-! ### len(set(t)) of a tuple of ints, or of texts, whatever they are: how many, and that it is all just where they are unlike -/
namespace L2
open PySem PySem.Spec
open PyProof.Rows hiding St
section
variable {s : Shared} {A : Around} {P : Program} {w : World} {E : Value → Shared → Prop}
/-- an empty set, as it is made -/
abbrev emptyTG (w : World) : Obj := { cls := .type "set", dict := none, data := .set #[] 0 (.fresh 0 0 (!w.params.followText "set-order")) }
/-- a set of some texts -/
def TxtSetG (P : Program) (w : World) (h : Heap) (S : Addr) (xs : List Str) : Prop := ∃ c, c ≤ xs.length ∧ (c = xs.length ↔ xs.Nodup) ∧ h.SetOf (PySem.strKind P w) S (fun k => xs.any (· == k)) c
theorem TxtSetG.at {h h' : Heap} {S : Addr} {xs : List Str} (T : TxtSetG P w h S xs) (k : ∀ o, h.get? S = some o → h'.get? S = some o) : TxtSetG P w h' S xs := by
  obtain ⟨c, h1, h2, o, es, ep, t, ho, r⟩ := T
  exact ⟨c, h1, h2, o, es, ep, t, k o ho, r⟩
theorem any_snocG (xs : List Str) (x k : Str) : ((xs ++ [x]).any (· == k)) = (xs.any (· == k) || decide (k = x)) := by
  rw [List.any_append]
  congr 1
  by_cases e : k = x
  · subst e; simp
  · have e2 : ¬ x = k := fun h => e h.symm
    simp [e, e2]
theorem fill_textsG {I : Addr} {fp wr : List Addr} {G : Array GenState → Array GenState → Prop} {n : Nat} {Pv : Nat → Value → Prop} {St : Nat → Shared → Prop} {R : Result → Shared → Prop}
    (W : WalksS P w A.in1 I fp wr G n Pv St) (S : Addr) (away : S ∉ fp) (xs : List Str) (hn : n = xs.length) (hb : xs.length + 1 < scanBound) (hval : ∀ i v, Pv i v → ∃ k t, xs[i]? = some k ∧ v = .str k t) :
    ∀ (k i : Nat) (s : Shared), n - i = k → i ≤ n → St i s → TxtSetG P w s.heap S (xs.take i) → (∀ s', Moved (S :: wr) G s s' → TxtSetG P w s'.heap S xs → R (.ok (.ret .none)) s') →
      codeAny (model P w) A (.builtin "set.update.loop" ⟨[.ref S, .ref I], []⟩) R s := by
  have hSw : S ∉ wr := fun h => away (W.sub _ h)
  have more : ∀ b ∈ wr, b ∈ S :: wr := fun b hb => List.mem_cons_of_mem _ hb
  intro k
  induction k with
  | zero =>
    intro i s hk hi st T q
    obtain rfl : i = n := by omega
    refine codeAny_builtin F.entry_set_update_loop ?_
    rw [Around.under_plainId F.plain_set_update_loop _]
    show wpAny _ A.in1 (pyNext (.ref I) >>= _) _ _ s
    refine wpAny_bind (W.done s _ _ st fun s' mv => ?_)
    show wpAny _ A.in1 (ret Value.none) _ _ s'
    rw [List.take_of_length_le (by omega)] at T
    exact wpAny_pure (q s' (mv.mono more) (T.at fun o e => mv.heap S o hSw e))
  | succ k ih =>
    intro i s hk hi st T q
    have lt : i < n := by omega
    refine codeAny_builtin F.entry_set_update_loop ?_
    rw [Around.under_plainId F.plain_set_update_loop _]
    show wpAny _ A.in1 (pyNext (.ref I) >>= _) _ _ s
    refine wpAny_bind (W.item i s _ _ lt st fun v s' hP st' mv => ?_)
    obtain ⟨z, t, hz, rfl⟩ := hval i v hP
    have T' : TxtSetG P w s'.heap S (xs.take i) := T.at fun o e => mv.heap S o hSw e
    show wpAny _ A.in1 (holding [Value.str z t] (setAdd S (.str z t)) >>= _) _ _ s'
    refine wpAny_bind (wpAny_holding ?_)
    unfold setAdd
    refine wpAny_holding ?_
    refine wpAny_bind ((PySem.strKind P w).pyHash (k := z) (strKind_is _ _ _ _) ?_)
    obtain ⟨c, c1, c2, T'⟩ := T'
    rw [List.length_take] at c1 c2
    refine wpAny_setAddHashed_of (knd := PySem.strKind P w) (s := { s' with toks := s'.toks + 1 }) (strKind_is _ _ _ _) rfl T' (by omega) fun h' sb T2 => ?_
    have ht : xs.take (i + 1) = xs.take i ++ [z] := by rw [List.take_add_one, hz]; rfl
    have yes : (xs.take i).any (· == z) = true ↔ z ∈ xs.take i := by
      rw [List.any_eq_true]
      constructor
      · rintro ⟨y, hy, ey⟩
        have ey2 : y = z := eq_of_beq ey
        subst ey2; exact hy
      · intro h; exact ⟨z, h, by simp⟩
    have T3 : TxtSetG P w h' S (xs.take (i + 1)) := by
      refine ⟨if (xs.take i).any (· == z) then c else c + 1, ?_, ?_, SetOf_congr T2 (fun k' => ?_) rfl⟩
      · rw [List.length_take]; split <;> omega
      · rw [List.length_take, ht, List.nodup_append]
        by_cases hb2 : (xs.take i).any (· == z) = true
        · rw [if_pos hb2]
          constructor
          · intro h; omega
          · rintro ⟨_, _, h⟩
            exact absurd rfl (h z (yes.mp hb2) z (List.mem_singleton.mpr rfl))
        · rw [if_neg hb2]
          have hn : z ∉ xs.take i := fun h => hb2 (yes.mpr h)
          constructor
          · intro h
            refine ⟨c2.mp (by omega), by simp, fun a ha b hb => ?_⟩
            rw [List.mem_singleton.mp hb]
            rintro rfl
            exact hn ha
          · rintro ⟨h, _⟩
            have := c2.mpr h
            omega
      · rw [ht]
        exact (any_snocG _ z k').symm
    refine wpAny_pure ⟨plainId_quiet F.plain_set_update_loop _, ih (i + 1) _ (by omega) lt (W.frame _ s' _ _ st' (Nat.le_succ _) fun b hb o e => ?_) T3 fun s2 mv2 Tn => ?_⟩
    · rw [sb.2 b (fun h : b = S => away (by rw [← h]; exact hb))]; exact e
    · refine q s2 (Moved.trans W.gtrans ((mv.mono more).then_heap (Nat.le_succ _) fun b o hb e => ?_) mv2) Tn
      rw [sb.2 b (fun h : b = S => hb (by rw [h]; exact List.mem_cons_self))]; exact e
/-- what the filling of a new set leaves -/
def FilledTG (P : Program) (w : World) (s : Shared) (xs : List Str) (s2 : Shared) : Prop :=
  ∃ h' tk, s2 = { s with heap := h', toks := tk } ∧ TxtSetG P w h' s.heap.objs.size xs ∧ ∀ b o, s.heap.get? b = some o → h'.get? b = some o
set_option maxHeartbeats 3200000 in
theorem set_of_textsG {l : Addr} {items : Array Value} (xs : List Str) {Q : Value → Shared → Prop} (calm : A.handled = none) (il : s.heap.IsTuple l items) (hit : StrsAre items.toList xs) (few : xs.length + 1 < scanBound)
    (q : ∀ s2, FilledTG P w s xs s2 → Q (.ref s.heap.objs.size) s2) : wpAny (model P w) A (call (.type "set") [.ref l]) Q E s := by
  have sz : items.size = xs.length := (Array.length_toList (xs := items)).symm.trans (StrsAre.len_eq hit)
  obtain ⟨z0, z1, line⟩ := F.called_set.mro
  have z2 := F.called_set.made
  have z3 := F.called_set.sub
  have z4 := F.called_set.notType
  have z5 := F.called_set.canCreate
  have z6 := F.typeCall_set_1 (.ref l)
  have z7 := F.called_set.init.lookup
  have z8 := F.called_set.init.bind (.ref s.heap.objs.size)
  refine wpAny_call (codeAny_of_tree (wpAny_pure ⟨Code.quiet_builtin _ (by decide +kernel), ?_⟩))
  refine codeAny_builtin F.entry_type_call ?_
  rw [Around.under_plain (weight_type_call_type ..) rfl]
  repeat (any_goals (first | wp_step | assumption))
  have made : ∀ {A : Around} {E : Value → Shared → Prop}, codeAny (model P w) A (.call (.builtin "set.__new__") ⟨[.type "set", .ref l], []⟩)
      (wants (fun v s1 => v = .ref s.heap.objs.size ∧ s1 = { s with heap := s.heap.push (emptyTG w) }) E) s := code_set_led1 (.ref l) ⟨rfl, rfl⟩
  refine codeAny_mono (made (E := E)) fun r s1 k => ?_
  rcases r with x | f
  · exact k
  cases f <;> first | exact k.elim | skip
  obtain ⟨rfl, rfl⟩ := k
  have eS : (s.heap.push (emptyTG w)).get? s.heap.objs.size = some (emptyTG w) := Heap.get?_push_size _ rfl
  have tS : Shared.TypeIs { s with heap := s.heap.push (emptyTG w) } (.ref s.heap.objs.size) "set" := ⟨_, eS, rfl⟩
  repeat (any_goals (first | wp_step | assumption))
  refine codeAny_mono (codeAny_call_builtin (R := wants (fun v s2 => v = .none ∧ FilledTG P w s xs s2) E) F.called_set.init.plain F.entry_set_init (check_set_init_1 tS ?_)) fun r s2 k => ?_
  · obtain ⟨⟨cls, dict, data, slots⟩, ol, rfl, nl, rfl⟩ := il
    have lt := Heap.lt_size ol
    have il2 : (s.heap.push (emptyTG w)).IsTuple l items := ⟨_, Heap.get?_push_of_some _ ol, rfl, nl, rfl⟩
    have z9 := F.sub_tuple_set
    have z10 := F.sub_tuple_frozenset
    have ol2 := Heap.get?_push_of_some (emptyTG w) ol
    have z11 : (Value.type "tuple" == Value.type "dict") = false := by decide
    unfold Builtin.«set.__init__» Builtin.Frozenset.updateFrom noKeywords
    generalize ep : pyIter = it
    wp_walk
    subst ep
    refine wpAny_pyIter_tuple il2 (wpAny_bind (wpAny_runValue ?_))
    have sz1 : (s.heap.push (emptyTG w)).objs.size = s.heap.objs.size + 1 := Heap.size_push ..
    have calm3 : A.in1.in1.in1.handled = none := by simp [calm]
    have up : ∀ {b : Addr}, b < s.heap.objs.size → b ≠ (s.heap.push (emptyTG w)).objs.size := fun h => by
      rw [sz1]; exact Nat.ne_of_lt (Nat.lt_succ_of_lt h)
    have away : s.heap.objs.size ∉ [(s.heap.push (emptyTG w)).objs.size, l] := by
      rw [sz1]
      intro h
      rcases List.mem_cons.mp h with h | h
      · exact Nat.ne_of_lt (Nat.lt_succ_self _) h
      · exact Nat.ne_of_gt lt (List.mem_singleton.mp h)
    have wk := (Walks.tuple (prog := P) (w := w) calm3 (s.heap.push (emptyTG w)).objs.size l (up lt) items).toS
    refine fill_textsG wk s.heap.objs.size away xs sz few (fun i v hv => ?_) items.size 0 _ (Nat.sub_zero _) (Nat.zero_le _) ⟨⟨_, Heap.get?_push_size _ rfl, rfl, rfl⟩, il2.push _⟩
      ⟨0, Nat.le_refl 0, by simp, SetOf_congr ((setObjOf_fresh (knd := PySem.strKind P w) _).setOf (Heap.get?_push_of_some _ eS) (by unfold scanBound; omega)) (fun _ => rfl) rfl⟩ ?_
    · obtain ⟨t, e⟩ := SS.strs_at hit i v ((Array.getElem?_toList ..).trans hv)
      have hi : i < xs.length := sz ▸ (Array.getElem?_eq_some_iff.mp hv).1
      have g : xs[i]? = some xs[i] := List.getElem?_eq_getElem hi
      exact ⟨xs[i], t, g, by rw [e, List.getD_eq_getElem?_getD, g]; rfl⟩
    rintro ⟨h2, g2, d2, t2, o2⟩ mv T
    have e1 : g2 = s.gens := mv.gens
    have e2 : d2 = s.drawn := mv.drawn
    have e3 : o2 = s.os := mv.os
    subst e1 e2 e3
    show wpAny _ _ _ _ _ _
    refine wpAny_pure ?_
    refine show wpAny _ _ (ret Value.none) _ _ _ from wpAny_pure ⟨rfl, h2, t2, rfl, T, fun b o e => ?_⟩
    have ltb := Heap.lt_size e
    refine mv.heap b o ?_ (Heap.get?_push_of_some _ (Heap.get?_push_of_some _ e))
    intro h
    rcases List.mem_cons.mp h with h | h
    · exact Nat.ne_of_lt ltb h
    · exact up ltb (List.mem_singleton.mp h)
  · rcases r with x | f
    · exact k
    cases f <;> first | exact k.elim | skip
    obtain ⟨rfl, h2, t2, rfl, T, old⟩ := k
    repeat (any_goals (first | wp_step | assumption))
    exact q _ ⟨_, _, rfl, T, old⟩
theorem strs_valsG : ∀ {xs : List Str} {us : List Value}, Vals (xs.map V.str) us → StrsAre us xs
  | [], _, .nil => .nil
  | n :: ns, _, .cons r t => by
    obtain ⟨k, rfl⟩ := r
    exact .cons n k (strs_valsG t)
theorem nodup_leG {α : Type} [DecidableEq α] : ∀ {l m : List α}, l.Nodup → (∀ x ∈ l, x ∈ m) → l.length ≤ m.length
  | [], _, _, _ => Nat.zero_le _
  | a :: l, m, nd, h => by
    obtain ⟨n1, n2⟩ := List.nodup_cons.mp nd
    have hm := h a List.mem_cons_self
    have := nodup_leG (l := l) (m := m.erase a) n2 fun x hx => (List.mem_erase_of_ne (fun e : x = a => n1 (by rw [← e]; exact hx))).mpr (h x (List.mem_cons_of_mem _ hx))
    rw [List.length_erase_of_mem hm] at this
    have := List.length_pos_of_mem hm
    rw [List.length_cons]; omega
theorem nodup_of_len {α : Type} [DecidableEq α] : ∀ {m l : List α}, l.Nodup → (∀ x ∈ l, x ∈ m) → l.length = m.length → m.Nodup
  | [], _, _, _, _ => List.nodup_nil
  | a :: m, l, nd, h, e => by
    rw [List.length_cons] at e
    have out : (∀ x ∈ l, x ∈ m) → False := fun h2 => by have := nodup_leG nd h2; omega
    have ha : a ∉ m := fun hm => out fun x hx => by
      rcases List.mem_cons.mp (h x hx) with rfl | h3
      · exact hm
      · exact h3
    have hl : a ∈ l := Decidable.byContradiction fun hn => out fun x hx => by
      rcases List.mem_cons.mp (h x hx) with rfl | h3
      · exact absurd hx hn
      · exact h3
    refine List.nodup_cons.mpr ⟨ha, nodup_of_len (l := l.erase a) (nd.erase a) (fun x hx => ?_) (by rw [List.length_erase_of_mem hl]; omega)⟩
    have hx2 := (List.Nodup.mem_erase_iff nd).mp hx
    rcases List.mem_cons.mp (h x hx2.2) with rfl | h3
    · exact absurd rfl hx2.1
    · exact h3
theorem setR_lenG {h : Heap} {a : Addr} {ns : List Int} {c : Nat} (R : SetR w h a (fun j => decide (j ∈ ns)) c) : c ≤ ns.length ∧ (c = ns.length ↔ ns.Nodup) := by
  obtain ⟨o, es, ep, t, ho, hex, hd, hg, nd2, hm, _, _, hn, _⟩ := R
  have hl : (es.toList.map keyOf).length = c := by rw [List.length_map, Array.length_toList, hn]
  have sub : ∀ x ∈ es.toList.map keyOf, x ∈ ns := fun x hx => by have := (hm x).mpr hx; simpa using this
  refine ⟨by have := nodup_leG nd2 sub; omega, fun e => nodup_of_len nd2 sub (by omega), fun nd => ?_⟩
  have := nodup_leG nd fun x hx => (hm x).mp (by simpa using hx)
  have := nodup_leG nd2 sub
  omega
section
variable {X : Cx} {a : Expr} {ta : TE} {p p2 q pos : Pos}
def tLsTG (ta : TE) (K : PySem.W.Frag) : TE := fun σ H Q => ta σ H fun x H1 => ∃ (l : Addr) (vs : List V), x = .ref l ∧ SqT K H1 l vs ∧ vs.length ≤ 4000 ∧ ((∃ ns : List Int, vs = ns.map V.int ∧ ∀ c : Nat, c ≤ vs.length → (c = vs.length ↔ ns.Nodup) → Q (.int c) H1) ∨ ∃ xs : List Str, vs = xs.map V.str ∧ ∀ c : Nat, c ≤ vs.length → (c = vs.length ↔ xs.Nodup) → Q (.int c) H1)
theorem pe_lenSetTG (hg : Gl X "len") (hm : X.mg "len" = none) (hg2 : Gl X "set") (hm2 : X.mg "set" = none) (ha : PE X a ta) (hc : X.calm = true)
    (na : starEach [a] X.env = (false, eval a X.env) :: starEach [] X.env := by rfl) : PE X (.Call (.Name "len" p) [.Call (.Name "set" p2) [a] [] q] [] pos) (tLsTG ta X.K) := by
  refine ⟨fun pins s σ H Q I h => Call_ (ld_blt I hg hm boot_len (callWith_builtin1 (args_cons (Call_ (ld_blt I hg2 hm2 boot_set (callWith_type1 (args_cons (thn (ha.run pins s σ H _ I h) fun v s1 ⟨x, H1, I1, r1, l, vs, ex, hq, hl, hk⟩ => args_nil ?_) na) na rfl))) rfl) rfl rfl))⟩
  subst ex
  cases r1
  obtain ⟨its, r, pl, hz⟩ := I1.tuple hq
  have hlen : its.toArray.size = vs.length := by rw [List.size_toArray, ← r.length]
  rcases hk with ⟨ns, rfl, q1⟩ | ⟨xs, rfl, q1⟩
  · rw [List.length_map] at hl q1
    refine call_set_tupI ns (I1.ok.hd hc) pl (by simpa using RZ.intsAre_vals r) (by unfold scanBound; omega) fun h' tk c R hcn hk => args_nil ?_
    obtain ⟨e1, e2⟩ := setR_lenG R
    obtain ⟨o, es, ep, t, ho, hex, hd, _, _, _, _, hf, hn, _⟩ := R
    have I2 : Inv X pins σ H1 { s1 with heap := h', toks := tk } := I1.kept fun b o e => hk b o e
    exact call_len_set ho hex hd hf (by rw [hn]; omega) ⟨.int c, H1, I2.tok _, ⟨_, by rw [hn]⟩, q1 c e1 e2⟩
  · rw [List.length_map] at hl q1
    refine set_of_textsG xs (I1.ok.hd hc) pl (by simpa using strs_valsG r) (by unfold scanBound; omega) fun s2 ⟨h', tk, e2, T, hk⟩ => args_nil ?_
    subst e2
    obtain ⟨c, e1, e3, o, es, ep, t, ho, hex, hd, _, _, _, hf, hn⟩ := T
    have I2 : Inv X pins σ H1 { s1 with heap := h', toks := tk } := I1.kept fun b o e => hk b o e
    exact call_len_set ho hex hd hf (by rw [hn]; omega) ⟨.int c, H1, I2.tok _, ⟨_, by rw [hn]⟩, q1 c e1 e3⟩
end
end
end L2
namespace DL
open PySem PySem.Spec L2
open PyProof.Rows hiding St
section
variable {X : Cx} {W : WX} {a : Expr} {wa : DE} {p p2 q pos : Pos} {Y : DX} {env : Dv} {G : Gh} {Q : DV → Gh → Prop}
def lsTG (Q : DV → Gh → Prop) (x : DV) (G : Gh) : Prop := match x with
  | .tup l => l.length ≤ 4000 ∧ ((∃ ns : List Int, l = ns.map .int ∧ ∀ c : Nat, c ≤ l.length → (c = l.length ↔ ns.Nodup) → Q (.int c) G) ∨ ∃ xs : List Str, l = xs.map .str ∧ ∀ c : Nat, c ≤ l.length → (c = l.length ↔ xs.Nodup) → Q (.int c) G)
  | _ => False
def wLenSetTG (wa : DE) : DE := fun Y env G Q => wa Y env G (lsTG Q)
theorem q_lenSetTG (hm : X.mg "len" = none) (hm2 : X.mg "set" = none) (hc : X.calm = true) (ha : QE X W a wa) (hg : Gl X "len" := by rfl) (hg2 : Gl X "set" := by rfl)
    (na : starEach [a] X.env = (false, eval a X.env) :: starEach [] X.env := by rfl) : QE X W (.Call (.Name "len" p) [.Call (.Name "set" p2) [a] [] q] [] pos) (wLenSetTG wa) := by
  refine ⟨PE.wk (pe_lenSetTG hg hm hg2 hm2 ha.pe hc na) ?_⟩
  rintro σ H Q ⟨Y, env, G, P, er, wg, h, k, kx⟩
  refine ⟨Y, env, G, _, er, wg, h, fun x G1 v H1 h1 w1 x1 r1 => ?_, kx⟩
  cases x <;> first | exact h1.elim | skip
  rename_i l
  obtain ⟨hl, hk⟩ := h1
  cases r1
  rename_i hp r
  have el := r.len
  refine ⟨_, _, rfl, SqT.of hp, by omega, ?_⟩
  rcases hk with ⟨ns, rfl, q⟩ | ⟨xs, rfl, q⟩
  · exact .inl ⟨ns, r.ofInts, fun c h1 h2 => k _ _ _ _ (q c (by omega) (by rw [← el]; exact h2)) w1 x1 (.int _)⟩
  · exact .inr ⟨xs, strs_vrs r, fun c h1 h2 => k _ _ _ _ (q c (by omega) (by rw [← el]; exact h2)) w1 x1 (.int _)⟩
theorem s_lenSetTG (q : wa Y env G (lsTG Q)) : wLenSetTG wa Y env G Q := q
theorem s_lsTiG {ns : List Int} (hl : ns.length ≤ 4000) (q : ∀ c : Nat, c ≤ ns.length → (c = ns.length ↔ ns.Nodup) → Q (.int c) G) : lsTG Q (.tup (ns.map .int)) G := ⟨by rw [List.length_map]; exact hl, .inl ⟨ns, rfl, by rw [List.length_map]; exact q⟩⟩
theorem s_lsTsG {xs : List Str} (hl : xs.length ≤ 4000) (q : ∀ c : Nat, c ≤ xs.length → (c = xs.length ↔ xs.Nodup) → Q (.int c) G) : lsTG Q (.tup (xs.map .str)) G := ⟨by rw [List.length_map]; exact hl, .inr ⟨xs, rfl, by rw [List.length_map]; exact q⟩⟩
end
end DL

namespace DL
open PySem PySem.Spec L2
open PyProof.Rows hiding St
/-- a feed: [left, seed, turn], the turn at most n -/
structure FeedA (G : Gh) (t : Addr) (n : Nat) : Prop where
  ex : ∃ l s u : Int, G t = some (.lst [.int l, .int s, .int u]) ∧ 0 ≤ l ∧ 0 ≤ u ∧ u ≤ n
section
variable {G G' : Gh} {t p : Addr} {n m : Nat}
theorem FeedA.sub (h : FeedA G t n) (k : Sub G G') : FeedA G' t n := by
  obtain ⟨l, s, u, h1, h2⟩ := h.ex
  exact ⟨l, s, u, k _ _ h1, h2⟩
theorem FeedA.mono (h : FeedA G t n) (k : n ≤ m) : FeedA G t m := by
  obtain ⟨l, s, u, h1, h2, h3, h4⟩ := h.ex
  exact ⟨l, s, u, h1, h2, h3, by omega⟩
theorem FeedA.ne1 (h : FeedA G t n) (k : G p = none) : p ≠ t := by
  obtain ⟨l, s, u, h1, _⟩ := h.ex
  rintro rfl; rw [k] at h1; cases h1
theorem FeedA.ne2 (h : FeedA G t n) (k : G p = none) : p ≠ t := h.ne1 k
theorem FeedA.nct (h : FeedA G t n) : True := trivial
theorem FeedA.old {e : Addr} (h : FeedA G t n) (k : Old e G G') (n1 : e ≠ t) (n2 : e ≠ t) : FeedA G' t n := by
  obtain ⟨l, s, u, h1, h2⟩ := h.ex
  exact ⟨l, s, u, k _ _ n1.symm h1, h2⟩
end
local macro_rules | `(tactic| walk_at "ne") => `(tactic| first
  | assumption | (refine Ne.symm ?_; assumption) | exact FeedA.nct (by assumption) | exact FeedA.ne1 (by assumption) (by assumption) | exact FeedA.ne2 (by assumption) (by assumption) | (refine Ne.symm ?_; exact FeedA.ne1 (by assumption) (by assumption)) | (refine Ne.symm ?_; exact FeedA.ne2 (by assumption) (by assumption))
  | ((apply ne_goneR); (· assumption); walk_at "gl") | ((refine Ne.symm ?_); (apply ne_goneR); (· assumption); walk_at "gl"))
local macro_rules | `(tactic| walk_at "gl") => `(tactic| first
  | assumption | ((apply Sub.look); (· assumption); walk_at "gl") | ((apply Old.look); (· assumption); (· walk_at "ne"); walk_at "gl"))
local macro_rules | `(tactic| walk_at "tp") => `(tactic| first
  | assumption | ((apply FeedA.sub); rotate_left; assumption; walk_at "tp") | ((apply FeedA.old); rotate_left; assumption; (· walk_at "ne"); (· walk_at "ne"); walk_at "tp"))
local macro_rules | `(tactic| walk_at "d1") => `(tactic| first
  | with_reducible (first | refine x_listR ?_ | refine s_strS ?_)
  | ((with_reducible apply s_ninT); (· exact rfl); (· exact rfl))
  | with_reducible (first | refine s_isiR (by decide) ?_ | refine s_seqR ?_ | refine s_seqStr ?_ | refine s_wiRange3 ?_ | refine s_wiZip3 ?_ | refine s_zip3 ?_ | refine s_srcR ?_ | refine s_t ?_ | refine s_f ?_)
  | ((with_reducible apply x_remove); (· walk_at "gl"))
  | ((with_reducible apply x_dictC); (· walk_at "gl"))
  | ((with_reducible apply x_reverse); (· walk_at "gl"))
  | with_reducible (first | refine s_tupRg ?_ | refine s_isBl ?_ | refine s_isntBl ?_ | refine s_revT ?_)
  | ((with_reducible apply s_eqNil); (· walk_at "gl"); (· walk_at "gl"))
  | ((with_reducible apply s_eqNilR); (· walk_at "gl"))
  | ((with_reducible apply s_neNilR); (· walk_at "gl"))
  | with_reducible (first | refine s_mulT (by decide) ?_ | refine x_dnewT ?_ | refine s_disp1T ?_)
  | ((with_reducible apply x_disp1); (· first | exact keyT_ints | exact rfl))
  | ((with_reducible apply s_inDt); (· walk_at "gl"); (· first | exact keyT_ints | exact rfl))
  | ((with_reducible apply s_ninDt); (· walk_at "gl"); (· first | exact keyT_ints | exact rfl))
  | ((with_reducible apply s_inKt); (· exact rfl); (· exact rfl))
  | ((with_reducible apply s_ninKt); (· exact rfl); (· exact rfl))
  | ((with_reducible apply s_tyDt); (· walk_at "gl"))
  | with_reducible (first | refine s_tyS ?_ | refine s_lenSet ?_)
  | ((with_reducible apply x_clear); (· walk_at "gl"))
  | ((with_reducible apply x_getDt); (· walk_at "gl"); (· first | exact keyT_ints | exact rfl))
  | ((with_reducible apply s_lenDt); (· walk_at "gl"))
  | ((with_reducible apply s_inRows); (· walk_at "gl"))
  | ((with_reducible apply s_ninRows); (· walk_at "gl")))
local macro_rules | `(tactic| walk_at "d1") => `(tactic| first
  | ((with_reducible apply x_stF); (· walk_at "gl"); (· exact rfl); (· walk_at "pf"))
  | with_reducible refine s_seqE ?_
  | ((with_reducible apply s_gUnl); (· walk_at "gl"))
  | with_reducible (first | refine s_bm0 ?_ | refine s_slT ?_)
  | ((with_reducible apply s_inT); (· exact rfl); (· exact rfl))
  | with_reducible refine s_pow (by decide) ?_
  | ((with_reducible apply x_get); (· walk_at "gl"); (· exact rfl))
  | ((with_reducible apply s_neNil); (· walk_at "gl"); (· walk_at "gl"))
  | with_reducible (first | refine x_dnew ?_ | refine x_slR ?_ | refine s_max2 ?_ | refine s_min2 ?_ | refine s_abs ?_ | refine s_tupleT ?_ | refine x_listT ?_ | refine s_wiRange2 ?_)
  | ((with_reducible apply x_slL); (· walk_at "gl"))
  | ((with_reducible apply x_listL); (· walk_at "gl"))
  | with_reducible refine s_rev ?_
  | ((with_reducible apply x_revL); (· walk_at "gl"))
  | with_reducible (first | refine s_make ?_ | refine s_minD ?_ | refine s_wiKeys ?_ | refine s_wiKeysT ?_)
  | ((with_reducible apply s_kyK); (· walk_at "gl"))
  | ((with_reducible apply x_listDk); (· walk_at "gl"))
  | with_reducible (first | refine s_le ?_ | refine s_retN ?_ | refine s_break ?_ | refine s_cont ?_ | refine s_or ?_ | refine s_orK ?_ | refine s_chain ?_ | refine s_chn ?_ | refine s_lcX ?_ | refine s_neB ?_ | refine s_eqB ?_ | refine s_lenR ?_ | refine s_intI ?_ | refine s_tupleR ?_))
local macro_rules | `(tactic| walk_at "d1") => `(tactic| first
  | ((with_reducible apply x_append); (· walk_at "gl"))
  | ((with_reducible apply s_isiL); (· walk_at "gl"); (· decide))
  | ((with_reducible apply s_isiD); (· walk_at "gl"); (· decide))
  | ((with_reducible apply s_lenL); (· walk_at "gl"))
  | with_reducible (first | refine s_neI ?_ | refine s_isnt ?_ | refine s_meth ?_)
  | ((with_reducible apply s_metK); (· walk_at "gl"); (· walk_at "nm"))
  | with_reducible (first | refine s_wiEnum1 ?_ | refine s_enum1 ?_)
  | ((with_reducible apply s_ixD); (· walk_at "gl"); (· exact rfl); (· exact rfl))
  | with_reducible (first | refine s_ge ?_ | refine s_part ?_ | refine s_partK ?_ | refine s_is ?_ | refine s_andT ?_ | refine s_not ?_ | refine s_notK ?_ | refine s_ifE ?_ | refine s_sl ?_ | refine s_intB ?_)
  | ((with_reducible apply x_setL); (· walk_at "gl"); (· exact rfl); (· (try dsimp only [Int.reduceToNat, List.set_cons_zero, List.set_cons_succ]); first | done | exact rfl))
  | ((with_reducible apply x_addL); (· walk_at "gl"); (· walk_at "gl"); (· simp only [List.length_cons, List.length_nil, Nat.reduceAdd]; decide))
  | with_reducible (first | refine s_noPart ?_ | refine s_neS ?_ | refine s_listRg ?_ | refine x_lr (by decide) ?_)
  | ((with_reducible apply x_setDi); (· walk_at "gl"); (· exact rfl); (· exact kv_few rfl))
  | ((with_reducible apply s_tyDc); (· walk_at "gl"))
  | with_reducible refine s_stF ?_)
local macro_rules | `(tactic| walk_at "d1") => `(tactic| first
  | with_reducible (first | refine s_orT ?_ | refine s_seqA ?_ | refine s_notT ?_ | refine s_expr ?_)
  | ((with_reducible apply s_addT); (· simp only [List.length_cons, List.length_nil, Nat.reduceAdd]; decide))
  | with_reducible (first | refine s_and ?_ | refine s_isiI (by decide) ?_ | refine s_isiB (by decide) ?_ | refine s_srcT ?_)
  | ((with_reducible apply s_srcL); (· walk_at "gl"))
  | with_reducible (first | refine s_lt ?_ | refine s_gt ?_ | refine s_neg ?_ | refine s_negK ?_ | refine s_isiS (by decide) ?_ | refine s_isiT (by decide) ?_ | refine s_isiN (by decide) ?_ | refine s_wiZip2 ?_ | refine s_zip2 ?_ | refine s_mod (by decide) ?_))
local macro_rules | `(tactic| walk_at "d1") => `(tactic| first
  | with_reducible (first | refine s_for ?_ | refine s_lenT ?_ | refine s_mul (by decide) ?_ | refine s_sub ?_ | refine s_fl ?_)
  | ((with_reducible apply s_flK); (· walk_at "gl"); (· walk_at "fl"))
  | with_reducible refine s_seqT ?_
  | ((with_reducible apply x_dispR); (· exact rfl); (· exact rfl); (· simp only [List.length_cons, List.length_nil, Nat.reduceAdd]; decide))
  | with_reducible (first | refine s_disp ?_ | refine s_pairs0 ?_ | refine s_bm ?_)
  | ((with_reducible apply s_seqL); (· walk_at "gl"))
  | with_reducible refine s_eqI ?_
  | ((with_reducible apply s_tyL); (· walk_at "gl"))
  | with_reducible refine s_gSub ?_)
local macro_rules | `(tactic| walk_at "d1") => `(tactic| first
  | with_reducible refine s_yes ?_
  | ((with_reducible apply s_ixL); (· walk_at "gl"); (· exact rfl))
  | with_reducible (first | refine s_eqS ?_ | refine s_wiSeq ?_)
  | ((with_reducible apply s_tupleL); (· walk_at "gl"))
  | with_reducible (first | refine s_pairs ?_ | refine s_gNil ?_ | refine s_lst ?_)
  | ((with_reducible apply x_mkL); (· simp only [List.length_cons, List.length_nil, Nat.reduceAdd]; decide))
  | with_reducible (first | refine s_add ?_ | refine s_gTup ?_ | refine s_andK ?_ | refine s_wiRange1 ?_ | refine s_rng1 (by decide) ?_ | refine s_asg ?_))
local macro_rules | `(tactic| walk_at "d1") => `(tactic| first
  | with_reducible (first | refine s_seqS ?_ | refine s_tst ?_ | refine s_cb ?_ | refine s_tup ?_)
  | ((with_reducible apply s_mkT); (· simp only [List.length_cons, List.length_nil, Nat.reduceAdd]; decide))
  | with_reducible (first | refine s_if ?_ | refine s_gCons ?_ | refine s_noB (by decide +kernel) ?_ | refine s_next ?_ | refine s_lc ?_))
local macro_rules | `(tactic| walk_at "d1") => `(tactic| first
  | with_reducible refine s_yesB (by decide +kernel) ?_
  | ((with_reducible apply s_st); (· (try dsimp only [List.set, start0, List.map, List.length, List.replicate, List.append, HAppend.hAppend, Append.append, wipeD, Nat.sub]); first | done | exact rfl))
  | with_reducible (first | refine s_call ?_ | refine s_ret ?_ | refine s_set ?_)
  | ((with_reducible apply s_ixT); (· first | exact rfl | exact at_0 | exact at_1 | exact at_2))
  | with_reducible refine s_gName ?_
  | ((with_reducible apply s_gs); (· (try dsimp only [List.set, start0, List.map, List.length, List.replicate, List.append, HAppend.hAppend, Append.append, wipeD, Nat.sub]); first | done | exact rfl)))
local macro_rules | `(tactic| walk_at "d1") => `(tactic| first
  | ((with_reducible apply s_var); (· exact rfl))
  | with_reducible (first | refine s_cons ?_ | refine s_c ?_ | refine s_nil ?_ | refine s_op ?_ | refine s_bl ?_))
local macro_rules | `(tactic| walk_at "dl") => `(tactic| ((repeat walk_at "d1"); try dsimp only))
local macro_rules | `(tactic| walk_at "if") => `(tactic| ((try with_reducible refine s_seq ?_); (try with_reducible refine s_if ?_); walk_at "dl"))
local macro_rules | `(tactic| walk_at "in") => `(tactic| (repeat (intro _ _ _; intros; walk_at "dl")))
local macro_rules | `(tactic| walk_at "sb") => `(tactic| first
  | assumption | exact Sub.refl | ((apply Sub.transR); (· assumption); walk_at "sb") | ((apply Sub.ownR); (· assumption); (· walk_at "nn"); walk_at "sb"))
local macro_rules | `(tactic| walk_at "nn") => `(tactic| first
  | assumption | ((apply none_sub); (· assumption); walk_at "sb"))
local macro_rules | `(tactic| walk_at "od") => `(tactic| first
  | assumption | exact Old.refl | exact Sub.old (by walk_at "sb")
  | ((apply Old.subR); (· assumption); walk_at "od") | ((apply Old.transR); (· assumption); walk_at "od") | ((apply Old.ownR2); (· assumption); (· walk_at "nn"); walk_at "od"))
local macro_rules | `(tactic| walk_at "ca1") => `(tactic| first
  | exact rfl | assumption | walk_at "tp" | omega | decide | walk_at "gl" | exact Sub.refl)
local macro_rules | `(tactic| walk_at "ca") => `(tactic| ((repeat (with_reducible apply Exists.intro)); (repeat ((with_reducible refine And.intro ?_ ?_); (· walk_at "ca1")))))

def top (i : Nat) : Stmt := PySem.Challenge.pw_dropsums_k01_names_and_pots.main.body.getD i (.Pass ⟨0, 0, 0, 0⟩)
abbrev bins : List String := ["all", "bool", "int", "isinstance", "len", "list", "max", "min", "range", "repr", "set", "str", "sum", "tuple"]

abbrev s_law_feed : Stmt := top 19
theorem sc_law_feed : FnScope ["_law_script", "_law_k", "_law_cell", "_law_left"] ["_law_script", "_law_k"] (defScope s_law_feed) := ⟨rfl, rfl, rfl, by decide +kernel, rfl, by decide +kernel, by decide +kernel⟩
/- law_feed : 0 _law_script, 1 _law_k, 2 _law_cell, 3 _law_left -/
theorem st_law_feed (x0 x1 : DV) : start0 4 [x0, x1] = [some x0, some x1, none, none] := rfl
def w_law_feed : DS := (wSeq (wSet 2 (wOp dAdd (wOp dMul (wC (.int 7919)) (wVar 1)) (wC (.int 5))))
  (wSeq (wIfS (wTst (wOp dGt (wCB dLen (wCons (wVar 0) wNil)) (wC (.int 0))))
  (wSet 2 (wOp dAdd (wOp dIx (wVar 0) (wOp dMod (wVar 1) (wCB dLen (wCons (wVar 0) wNil)))) (wOp dMul (wC (.int 104729)) (wOp dFdiv (wVar 1) (wCB dLen (wCons (wVar 0) wNil))))))
  wNext)
  (wSeq (wSet 3 (wIf (wTst (wOp dGe (wVar 2) (wOp dPow (wC (.int 10)) (wC (.int 18))))) (wVar 2) (wC (.int 0))))
  (wRet (wLst (wCons (wVar 3) (wCons (wOp dAdd (wOp dAdd (wOp dMod (wVar 2) (wC (.int 2147483629))) (wOp dMul (wC (.int 31)) (wVar 1))) (wC (.int 1))) (wCons (wC (.int 0)) wNil))))))))

def d_law_feed : DF := fun ds G Q _ => ∃ (ns : List Int) (k : Int), ds = [.ro (ns.map .int), .int k] ∧ ns.length ≤ 63 ∧ 0 ≤ k ∧ k ≤ 1000000 ∧ ∀ t G', G t = none → Sub G G' → FeedA G' t 0 → Q (.ref t) G'
theorem len_law_feed : ∀ ds G Q Y, d_law_feed ds G Q Y → ds.length = 2 := by
  rintro ds G Q Y ⟨ns, k, rfl, _⟩; rfl
theorem ok_law_feed : ∀ ds G Q Y, d_law_feed ds G Q Y → w_law_feed (bodyEnds Q Y) (start0 4 ds) G := by
  rintro ds G Q Y ⟨ns, k, rfl, hn, k0, k1, q⟩
  rw [st_law_feed]
  unfold w_law_feed
  walk_at "dl"
  refine s_mul (MulOk.of (a := 20) (b := 30) (by decide) (by omega) (by decide) (by decide) (by decide)) ?_
  walk_at "dl"
  refine s_join (fun e g => g = G ∧ ∃ cell : Int, e = [some (.ro (ns.map .int)), some (.int k), some (.int cell), none]) (fun K hK => ?_) ?_
  · walk_at "if"
    rw [List.length_map]
    refine s_ite (fun h => ?_) (fun h => ?_)
    · walk_at "dl"
      rw [List.length_map]
      refine s_mod (by omega) ?_
      obtain ⟨x, hx, _⟩ := atI_ints (l := ns) (j := k % (ns.length : Int)) (Int.emod_nonneg k (by omega)) (by rw [List.length_map]; exact Int.emod_lt_of_pos k (by omega))
      refine s_ixR hx ?_
      walk_at "dl"
      rw [List.length_map]
      refine s_fdiv (by omega) (log_small (by omega) (by omega)) ?_
      have hd0 : 0 ≤ k / (ns.length : Int) := Int.ediv_nonneg k0 (by omega)
      have hd1 : k / (ns.length : Int) ≤ k := Int.ediv_le_self _ k0
      refine s_mul (MulOk.of (a := 20) (b := 30) (by decide) (by omega) (by decide) (by decide) (by decide)) ?_
      walk_at "dl"
      exact hK _ _ ⟨rfl, _, rfl⟩
    · walk_at "dl"
      exact hK _ _ ⟨rfl, _, rfl⟩
  · rintro e g ⟨rfl, cell, rfl⟩
    have fin : ∀ l : Int, 0 ≤ l → _ := fun l hl => (True.intro : True)
    walk_at "dl"
    refine s_ite (fun h => ?_) (fun h => ?_)
    · have hc : 0 ≤ cell := Int.le_trans (by decide) h
      walk_at "dl"
      refine s_mul (MulOk.of (a := 20) (b := 30) (by decide) (by omega) (by decide) (by decide) (by decide)) ?_
      walk_at "dl"
      intro t G1 ht s1 e1
      walk_at "dl"
      exact q t G1 ht s1 ⟨_, _, _, e1, hc, by decide, by decide⟩
    · walk_at "dl"
      refine s_mul (MulOk.of (a := 20) (b := 30) (by decide) (by omega) (by decide) (by decide) (by decide)) ?_
      walk_at "dl"
      intro t G1 ht s1 e1
      walk_at "dl"
      exact q t G1 ht s1 ⟨_, _, _, e1, by decide, by decide, by decide⟩
abbrev s_law_draw : Stmt := top 20
theorem sc_law_draw : FnScope ["_law_feed_here", "_law_many", "_law_found", "_law_mixed"] ["_law_feed_here", "_law_many"] (defScope s_law_draw) := ⟨rfl, rfl, rfl, by decide +kernel, rfl, by decide +kernel, by decide +kernel⟩
/- law_draw : 0 _law_feed_here, 1 _law_many, 2 _law_found, 3 _law_mixed -/
theorem st_law_draw (x0 x1 : DV) : start0 4 [x0, x1] = [some x0, some x1, none, none] := rfl
def w_law_draw : DS := (wSeq (wAsg (wOp dAdd (wOp dIx (wVar 0) (wC (.int 2))) (wC (.int 1))) (wgSub (wVar 0) (wC (.int 2)) dSet))
  (wSeq (wIfS (wTst (wOp dGt (wOp dIx (wVar 0) (wC (.int 0))) (wC (.int 0))))
  (wSeq (wSet 2 (wOp dMod (wOp dIx (wVar 0) (wC (.int 0))) (wVar 1)))
  (wSeq (wAsg (wOp dFdiv (wOp dIx (wVar 0) (wC (.int 0))) (wVar 1)) (wgSub (wVar 0) (wC (.int 0)) dSet))
  (wRet (wVar 2))))
  wNext)
  (wSeq (wSet 3 (wOp dMod (wOp dMul (wOp dMod (wOp dAdd (wOp dIx (wVar 0) (wC (.int 1))) (wOp dMul (wC (.int 40692)) (wOp dIx (wVar 0) (wC (.int 2))))) (wC (.int 2147483399))) (wC (.int 48271))) (wC (.int 2147483647))))
  (wSeq (wSet 3 (wOp dMod (wOp dMul (wVar 3) (wOp dAdd (wVar 3) (wC (.int 7919)))) (wC (.int 2147483587))))
  (wRet (wOp dMod (wOp dFdiv (wOp dMod (wOp dMul (wVar 3) (wC (.int 69621))) (wC (.int 2147483629))) (wC (.int 7))) (wVar 1)))))))

def d_law_draw : DF := fun ds G Q _ => ∃ (t : Addr) (m : Int) (n : Nat), ds = [.ref t, .int m] ∧ FeedA G t n ∧ n ≤ 1000000000000 ∧ 0 < m ∧ m ≤ 1000000000000 ∧ ∀ r G', 0 ≤ r → r < m → FeedA G' t (n + 1) → Old t G G' → Q (.int r) G'
theorem len_law_draw : ∀ ds G Q Y, d_law_draw ds G Q Y → ds.length = 2 := by
  rintro ds G Q Y ⟨t, m, n, rfl, _⟩; rfl
theorem ok_law_draw : ∀ ds G Q Y, d_law_draw ds G Q Y → w_law_draw (bodyEnds Q Y) (start0 4 ds) G := by
  rintro ds G Q Y ⟨t, m, n, rfl, tp, hn, hm, hm1, q⟩
  have hm2 := log_small hm hm1
  obtain ⟨l, s, u, ht, l0, u0, u1⟩ := tp.ex
  rw [st_law_draw]
  unfold w_law_draw
  walk_at "dl"
  intro G1 o1 e1
  have back : ∀ (l' r : Int) (G2 : Gh), G2 t = some (.lst [.int l', .int s, .int (u + 1)]) → Old t G1 G2 → 0 ≤ l' → 0 ≤ r → r < m → Q (.int r) G2 := fun l' r G2 h2 o2 hl r0 r1 =>
    q r G2 r0 r1 ⟨l', s, u + 1, h2, hl, by omega, by omega⟩ (o1.trans o2)
  have rng : ∀ x : Int, 0 ≤ x % m ∧ x % m < m := fun x => ⟨Int.emod_nonneg _ (by omega), Int.emod_lt_of_pos _ hm⟩
  walk_at "dl"
  walk_at "if"
  refine s_ite (fun h => ?_) (fun h => ?_)
  · walk_at "dl"
    refine s_mod hm ?_
    walk_at "dl"
    refine s_fdiv hm hm2 ?_
    walk_at "dl"
    intro G2 o2 e2
    walk_at "dl"
    exact back _ _ _ e2 o2 (Int.ediv_nonneg l0 (by omega)) (rng l).1 (rng l).2
  · walk_at "dl"
    refine s_mul (MulOk.of (a := 20) (b := 41) (by decide) (by omega) (by decide) (by decide) (by decide)) ?_
    walk_at "dl"
    refine s_mul (MulOk.of (a := 60) (b := 20) (by omega) (by decide) (by decide) (by decide) (by decide)) ?_
    walk_at "dl"
    generalize hz : (s + 40692 * (u + 1)) % 2147483399 * 48271 % 2147483647 = z
    have hz0 : 0 ≤ z := by rw [← hz]; exact Int.emod_nonneg _ (by decide)
    have hz1 : z < 2147483647 := by rw [← hz]; exact Int.emod_lt_of_pos _ (by decide)
    refine s_mul (MulOk.of (a := 60) (b := 60) (by omega) (by omega) (by decide) (by decide) (by decide)) ?_
    walk_at "dl"
    generalize hw : z * (z + 7919) % 2147483587 = w
    have hw0 : 0 ≤ w := by rw [← hw]; exact Int.emod_nonneg _ (by decide)
    have hw1 : w < 2147483587 := by rw [← hw]; exact Int.emod_lt_of_pos _ (by decide)
    refine s_mul (MulOk.of (a := 60) (b := 20) (by omega) (by decide) (by decide) (by decide) (by decide)) ?_
    walk_at "dl"
    refine s_fdiv (by decide) (by decide) ?_
    walk_at "dl"
    refine s_mod hm ?_
    walk_at "dl"
    exact back _ _ _ e1 Old.refl l0 (rng _).1 (rng _).2

abbrev s_law_names : Stmt := top 21
theorem sc_law_names : FnScope ["_law_feed_here", "_law_many", "_law_some", "_law_start", "_law_step", "_law_k"] ["_law_feed_here", "_law_many"] (defScope s_law_names) := ⟨rfl, rfl, rfl, by decide +kernel, rfl, by decide +kernel, by decide +kernel⟩
/- law_names : 0 _law_feed_here, 1 _law_many, 2 _law_some, 3 _law_start, 4 _law_step, 5 _law_k -/
theorem st_law_names (x0 x1 : DV) : start0 6 [x0, x1] = [some x0, some x1, none, none, none, none] := rfl
def w_law_names : DS := (wSeq (wSet 2 (wLst (wCons (wC (.str "a")) (wCons (wC (.str "ab")) (wCons (wC (.str "abc")) (wCons (wC (.str "insort")) (wCons (wC (.str "outer")) (wCons (wC (.str "ruler")) (wCons (wC (.str "tone")) (wCons (wC (.str "begins")) (wCons (wC (.str "sort")) (wCons (wC (.str "b")) (wCons (wC (.str "zzzzzzzz")) (wCons (wC (.str "x")) wNil))))))))))))))
  (wSeq (wSet 3 (wCall d_law_draw (wCons (wVar 0) (wCons (wC (.int 12)) wNil))))
  (wSeq (wSet 4 (wOp dIx (wLst (wCons (wC (.int 1)) (wCons (wC (.int 5)) (wCons (wC (.int 7)) (wCons (wC (.int 11)) wNil))))) (wCall d_law_draw (wCons (wVar 0) (wCons (wC (.int 4)) wNil)))))
  (wRet (wLc [5] (wiRange1 (wCons (wVar 1) wNil)) (wgName 5) wYes (wOp dIx (wVar 2) (wOp dMod (wOp dAdd (wVar 3) (wOp dMul (wVar 4) (wVar 5))) (wC (.int 12)))))))))

theorem eqvAll_ints : ∀ (a b : List Int), PyData.eqvAll (a.map PyData.int) (b.map PyData.int) = decide (a = b)
  | [], [] => by simp [PyData.eqvAll]
  | x :: a, [] => by simp [PyData.eqvAll]
  | [], y :: b => by simp [PyData.eqvAll]
  | x :: a, y :: b => by
    have h := eqvAll_ints a b
    simp only [List.map_cons, PyData.eqvAll, PyData.eqv, h]
    rw [Bool.eq_iff_iff]
    simp
theorem eqv_ints (a b : List Int) : PyData.eqv (.list (a.map PyData.int)) (.list (b.map PyData.int)) = decide (a = b) := eqvAll_ints a b
theorem lst_reads {G : Gh} {e : Addr} {xs : List Int} (he : G e = some (.lst (xs.map DV.int))) : DR G (.ref e) (.list (xs.map PyData.int)) := by
  have := drs_pure (G := G) (l := xs.map DV.int) (pure_ints xs)
  rw [pd_ints] at this
  exact .ref he this

theorem set_mem {α : Type} {xs : List α} {j : Nat} {y : α} (h : j < xs.length) : y ∈ xs.set j y := List.mem_iff_getElem.mpr ⟨j, by simpa using h, by simp⟩
theorem set_ne {xs : List Int} {j : Nat} {v : Int} (h : j < xs.length) (hv : v ≠ xs[j]) : xs ≠ xs.set j v := by
  intro z
  have := congrArg (fun l : List Int => l[j]?) z
  simp only [List.getElem?_eq_getElem h, List.getElem?_set_self h] at this
  exact hv (Option.some.inj this).symm
def poolA : List Str := ["a", "ab", "abc", "insort", "outer", "ruler", "tone", "begins", "sort", "b", "zzzzzzzz", "x"]
def nameAt (u st : Int) (k : Nat) : Str := poolA.getD ((u + st * k) % 12).toNat "a"
def namesOf (u st : Int) (m : Nat) : List Str := (List.range m).map (nameAt u st)
structure NmA (ns : List Str) (m : Nat) : Prop where
  ln : ns.length = m
  nm : ∀ s ∈ ns, s ∈ poolA
  nd : m ≤ 12 → ns.Nodup
theorem names_nodup (u st : Int) (hu : 0 ≤ u ∧ u < 12) (hs : st = 1 ∨ st = 5 ∨ st = 7 ∨ st = 11) : (namesOf u st 12).Nodup := by
  have e : u = 0 ∨ u = 1 ∨ u = 2 ∨ u = 3 ∨ u = 4 ∨ u = 5 ∨ u = 6 ∨ u = 7 ∨ u = 8 ∨ u = 9 ∨ u = 10 ∨ u = 11 := by omega
  rcases hs with rfl | rfl | rfl | rfl <;> rcases e with rfl | rfl | rfl | rfl | rfl | rfl | rfl | rfl | rfl | rfl | rfl | rfl <;> decide +kernel
theorem names_fit (u st : Int) (hu : 0 ≤ u ∧ u < 12) (hs : st = 1 ∨ st = 5 ∨ st = 7 ∨ st = 11) (m : Nat) : NmA (namesOf u st m) m where
  ln := by simp [namesOf]
  nm := fun s h => by
    obtain ⟨k, _, rfl⟩ := List.mem_map.mp h
    have h12 : ((u + st * k) % 12).toNat < poolA.length := by
      show _ < 12
      omega
    unfold nameAt
    rw [List.getD_eq_getElem?_getD, List.getElem?_eq_getElem h12]
    exact List.getElem_mem h12
  nd := fun hm => by
    have e : namesOf u st m = (namesOf u st 12).take m := by
      unfold namesOf
      rw [← List.map_take, List.take_range, Nat.min_eq_left hm]
    rw [e]
    exact List.Nodup.sublist (List.take_sublist _ _) (names_nodup u st hu hs)
def d_law_names : DF := fun ds G Q _ => ∃ (t : Addr) (m : Int) (n : Nat), ds = [.ref t, .int m] ∧ FeedA G t n ∧ n ≤ 900000000000 ∧ 0 ≤ m ∧ m ≤ 100 ∧ ∀ (ns : List Str) (p : Addr) G', NmA ns m.toNat → G' p = some (.lst (ns.map .str)) → FeedA G' t (n + 2) → Old t G G' → Q (.ref p) G'
theorem len_law_names : ∀ ds G Q Y, d_law_names ds G Q Y → ds.length = 2 := by
  rintro ds G Q Y ⟨t, m, n, rfl, _⟩; rfl
theorem ok_law_names : ∀ ds G Q Y, d_law_names ds G Q Y → w_law_names (bodyEnds Q Y) (start0 6 ds) G := by
  rintro ds G Q Y ⟨t, m, n, rfl, tp, hn, m0, m1, q⟩
  rw [st_law_names]
  unfold w_law_names
  walk_at "dl"
  intro p G1 hp s1 e1
  have n1 : p ≠ t := tp.ne1 hp
  walk_at "dl"
  refine ⟨t, 12, n, rfl, tp.sub s1, by omega, by decide, by decide, fun u G2 u0 u1 tp2 o2 => ?_⟩
  walk_at "dl"
  intro p3 G3 hp3 s3 e3
  walk_at "dl"
  refine ⟨t, 4, _, rfl, tp2.sub s3, by omega, by decide, by decide, fun v G4 v0 v1 tp4 o4 => ?_⟩
  have e4 := o4 _ _ n1 (s3 _ _ (o2 _ _ n1 e1))
  walk_at "dl"
  refine pickI [1, 5, 7, 11] (fun n => n = 1 ∨ n = 5 ∨ n = 7 ∨ n = 11) (by decide) (o4 _ _ (tp2.ne1 hp3) e3) rfl v0 v1 fun st hst => ?_
  walk_at "dl"
  refine s_rng1 (by omega) ?_
  rw [intsFrom_eq]
  refine lcT_map _ (fun k => DV.str (nameAt u st k)) (fun _ g => Sub G4 g) Sub.refl (fun _ _ _ => trivial) (by rw [List.length_range, sizeLine_eq]; omega) (fun i k g K K2 e me r k' => ?_) (fun g r p2 G5 hp2 s5 e5 => ?_)
  · obtain ⟨rfl, hi⟩ := range_get e
    walk_at "dl"
    refine s_mul (MulOk.of (a := 20) (b := 20) (by omega) (by omega) (by decide) (by decide) (by decide)) ?_
    walk_at "dl"
    have h12 : ((u + st * (k : Int)) % 12).toNat < poolA.length := by
      show _ < 12
      omega
    rw [Int.zero_add]
    have eg : poolA[((u + st * (k : Int)) % 12).toNat]? = some (nameAt u st k) := by
      unfold nameAt
      rw [List.getD_eq_getElem?_getD, List.getElem?_eq_getElem h12]; rfl
    have hat : L2.atI (poolA.map DV.str) ((u + st * (k : Int)) % 12) = some (.str (nameAt u st k)) := at_int eg (by omega)
    exact s_ixL (r _ _ e4) hat (k' _ r)
  walk_at "dl"
  refine q (namesOf u st m.toNat) p2 _ (names_fit u st ⟨u0, u1⟩ hst _) (by rw [e5, namesOf, List.map_map]; rfl) ((tp4.sub r).sub s5) ((s1.old.trans (o2.trans (s3.old.trans o4))).sub (r.trans s5))
abbrev s_law_rule : Stmt := top 22
theorem sc_law_rule : FnScope ["_law_feed_here", "_law_many", "_law_takes", "_law_sort", "_law_gives", "_law_j", "_law_way"] ["_law_feed_here", "_law_many"] (defScope s_law_rule) := ⟨rfl, rfl, rfl, by decide +kernel, rfl, by decide +kernel, by decide +kernel⟩
/- law_rule : 0 _law_feed_here, 1 _law_many, 2 _law_takes, 3 _law_sort, 4 _law_gives, 5 _law_j, 6 _law_way -/
theorem st_law_rule (x0 x1 : DV) : start0 7 [x0, x1] = [some x0, some x1, none, none, none, none, none] := rfl
def w_law_rule : DS := (wSeq (wSet 2 (wLc [3] (wiRange1 (wCons (wVar 1) wNil)) (wgName 3) wYes (wC (.int 0))))
  (wSeq (wSet 4 (wLc [3] (wiRange1 (wCons (wVar 1) wNil)) (wgName 3) wYes (wC (.int 0))))
  (wSeq (wFor (wiRange1 (wCons (wOp dAdd (wC (.int 1)) (wCall d_law_draw (wCons (wVar 0) (wCons (wC (.int 3)) wNil)))) wNil)) (wgName 5)
  (wSeq (wSet 3 (wCall d_law_draw (wCons (wVar 0) (wCons (wVar 1) wNil))))
  (wAsg (wOp dAdd (wOp dAdd (wOp dIx (wVar 2) (wVar 3)) (wC (.int 1))) (wCall d_law_draw (wCons (wVar 0) (wCons (wC (.int 2)) wNil)))) (wgSub (wVar 2) (wVar 3) dSet))))
  (wSeq (wFor (wiRange1 (wCons (wCall d_law_draw (wCons (wVar 0) (wCons (wC (.int 4)) wNil))) wNil)) (wgName 5)
  (wSeq (wSet 3 (wCall d_law_draw (wCons (wVar 0) (wCons (wVar 1) wNil))))
  (wAsg (wOp dAdd (wOp dAdd (wOp dIx (wVar 4) (wVar 3)) (wC (.int 1))) (wCall d_law_draw (wCons (wVar 0) (wCons (wC (.int 3)) wNil)))) (wgSub (wVar 4) (wVar 3) dSet))))
  (wSeq (wSet 6 (wCall d_law_draw (wCons (wVar 0) (wCons (wC (.int 8)) wNil))))
  (wSeq (wSet 3 (wCall d_law_draw (wCons (wVar 0) (wCons (wVar 1) wNil))))
  (wSeq (wIfS (wTst (wOp dLt (wVar 6) (wC (.int 2))))
  (wAsg (wOp dIx (wVar 2) (wVar 3)) (wgSub (wVar 4) (wVar 3) dSet))
  wNext)
  (wSeq (wIfS (wTst (wOp (dEq false) (wVar 6) (wC (.int 2))))
  (wAsg (wC (.int 9)) (wgSub (wVar 2) (wVar 3) dSet))
  wNext)
  (wSeq (wIfS (wTst (wOp (dEq false) (wVar 2) (wVar 4)))
  (wAsg (wOp dIx (wLst (wCons (wOp dAdd (wOp dIx (wVar 4) (wVar 3)) (wC (.int 1))) (wCons (wC (.int 0)) wNil))) (wCB dInt (wCons (wOp (dEq false) (wOp dIx (wVar 2) (wVar 3)) (wC (.int 9))) wNil))) (wgSub (wVar 4) (wVar 3) dSet))
  wNext)
  (wRet (wTup (wCons (wCB dTuple (wCons (wVar 2) wNil)) (wCons (wCB dTuple (wCons (wVar 4) wNil)) wNil)))))))))))))

def rdv (r : List Int × List Int) : DV := .tup [.tup (r.1.map .int), .tup (r.2.map .int)]
def Dig (l : List Int) : Prop := ∀ x ∈ l, 0 ≤ x ∧ x ≤ 9
structure RlA (r : List Int × List Int) (n : Nat) : Prop where
  l1 : r.1.length = n
  l2 : r.2.length = n
  d1 : Dig r.1
  d2 : Dig r.2
  ne : r.1 ≠ r.2
  pos : ∃ x ∈ r.1, 0 < x
def d_law_rule : DF := fun ds G Q _ => ∃ (t : Addr) (m : Int) (n : Nat), ds = [.ref t, .int m] ∧ FeedA G t n ∧ n ≤ 900000000000 ∧ 1 ≤ m ∧ m ≤ 100 ∧ ∀ (r : List Int × List Int) G', RlA r m.toNat → FeedA G' t (n + 20) → Old t G G' → Q (rdv r) G'
theorem len_law_rule : ∀ ds G Q Y, d_law_rule ds G Q Y → ds.length = 2 := by
  rintro ds G Q Y ⟨t, m, n, rfl, _⟩; rfl
theorem ok_law_rule : ∀ ds G Q Y, d_law_rule ds G Q Y → w_law_rule (bodyEnds Q Y) (start0 7 ds) G := by
  rintro ds G Q Y ⟨t, m, n, rfl, tp, hn, m0, m1, q⟩
  rw [st_law_rule]
  unfold w_law_rule
  walk_at "dl"
  refine s_rng1 (by omega) ?_
  rw [intsFrom_eq]
  refine lcT_map _ (fun _ => DV.int 0) (fun _ g => Sub G g) Sub.refl (fun _ _ _ => trivial) (by rw [List.length_range, sizeLine_eq]; omega) (fun i k g K K2 e me r k' => ?_) (fun g r pt G1 hpt s1 e1 => ?_)
  · walk_at "dl"
    exact k' _ r
  have t1 : Sub G G1 := r.trans s1
  have hptG : G pt = none := none_sub hpt r
  have nt : pt ≠ t := tp.ne1 hptG
  walk_at "dl"
  refine s_rng1 (by omega) ?_
  rw [intsFrom_eq]
  refine lcT_map _ (fun _ => DV.int 0) (fun _ g => Sub G1 g) Sub.refl (fun _ _ _ => trivial) (by rw [List.length_range, sizeLine_eq]; omega) (fun i k g K K2 e me r k' => ?_) (fun g r pg G2 hpg s2 e2 => ?_)
  · walk_at "dl"
    exact k' _ r
  have t2 : Sub G1 G2 := r.trans s2
  have hpgG1 : G1 pg = none := none_sub hpg r
  have hpgG : G pg = none := none_sub hpgG1 t1
  have ng : pg ≠ t := tp.ne1 hpgG
  have npg : pt ≠ pg := ne_gone e1 hpgG1
  have zer : ((List.range m.toNat).map fun _ => DV.int 0) = (List.replicate m.toNat (0 : Int)).map DV.int := by rw [List.map_const', List.length_range, List.map_replicate]
  rw [zer] at e1 e2
  have e1' := t2 _ _ e1
  have tp2 := (tp.sub t1).sub t2
  have o2 : Old t G G2 := (t1.trans t2).old
  walk_at "dl"
  refine s_seq (s_for ?_)
  walk_at "dl"
  refine ⟨t, 3, n, rfl, tp2, by omega, by decide, by decide, fun u G3 u0 u1 tp3 o3 => ?_⟩
  walk_at "dl"
  refine s_rng1 (by omega) ?_
  rw [intsFrom_eq]
  refine forT _ (fun i e g => FeedA g t (n + 1 + 2 * i) ∧ Old t G g ∧ g pg = some (.lst ((List.replicate m.toNat (0 : Int)).map .int)) ∧ ∃ (xs : List Int) (a b : Option DV), g pt = some (.lst (xs.map .int)) ∧ xs.length = m.toNat ∧ (∀ x ∈ xs, 0 ≤ x ∧ x ≤ 2 * i) ∧ (0 < i → ∃ x ∈ xs, 0 < x) ∧ e = [some (.ref t), some (.int m), some (.ref pt), a, some (.ref pg), b, none])
    ⟨tp3.mono (by omega), o2.trans o3, o3 _ _ ng e2, List.replicate m.toNat 0, _, _, o3 _ _ nt e1', List.length_replicate, (fun x hx => by have := List.eq_of_mem_replicate hx; omega), (fun h => absurd h (by omega)), rfl⟩ (fun _ _ _ _ => trivial) ?_ ?_
  · rintro i a e g K ex mem ⟨tp3, o3, eg3, xs, a1, b1, ex3, l3, d3, p3, rfl⟩ k
    clear p3
    obtain ⟨rfl, hi⟩ := range_get ex
    walk_at "dl"
    refine ⟨t, m, _, rfl, tp3, by omega, by omega, by omega, fun v G4 v0 v1 tp4 o4 => ?_⟩
    have ex4 := o4 _ _ nt ex3
    have hv : v.toNat < xs.length := by omega
    have bx := d3 _ (List.getElem_mem hv)
    walk_at "dl"
    refine s_ixL ex4 (at_int (List.getElem?_eq_getElem hv) (by omega)) ?_
    walk_at "dl"
    refine ⟨t, 2, _, rfl, tp4, by omega, by decide, by decide, fun z G5 z0 z1 tp5 o5 => ?_⟩
    walk_at "dl"
    generalize hy' : xs[v.toNat] + 1 + z = y'
    have by1 : 0 < y' ∧ y' ≤ 2 * ((a + 1 : Nat) : Int) := by omega
    refine x_setI (o5 _ _ nt ex4) v0 (by omega) fun G6 o6 e6 => ?_
    walk_at "dl"
    refine k _ _ ⟨(tp5.old o6 nt nt).mono (by omega), (o3.trans (o4.trans o5)).own hptG o6, o6 _ _ npg.symm (o5 _ _ ng (o4 _ _ ng eg3)), xs.set v.toNat y', _, _, e6, by rw [List.length_set]; exact l3, mem_set_of (fun x hx => by have := d3 x hx; omega) (by omega), fun _ => ⟨_, set_mem hv, by omega⟩, rfl⟩
  · rintro e g ⟨tp3, o3, eg3, xs, a1, b1, ex3, l3, d3, p3, rfl⟩
    rw [List.length_range] at tp3 d3 p3
    have p3' := p3 (by omega)
    have d6 : ∀ x ∈ xs, 0 ≤ x ∧ x ≤ 6 := fun x hx => by have := d3 x hx; omega
    walk_at "dl"
    refine s_seq (s_for ?_)
    walk_at "dl"
    refine ⟨t, 4, _, rfl, tp3, by omega, by decide, by decide, fun u' G3 u0' u1' tp4 o4 => ?_⟩
    walk_at "dl"
    refine s_rng1 (by omega) ?_
    rw [intsFrom_eq]
    refine forT _ (fun i e g => FeedA g t (n + 8 + 2 * i) ∧ Old t G g ∧ g pt = some (.lst (xs.map .int)) ∧ ∃ (ys : List Int) (a b : Option DV), g pg = some (.lst (ys.map .int)) ∧ ys.length = m.toNat ∧ (∀ x ∈ ys, 0 ≤ x ∧ x ≤ 3 * i) ∧ e = [some (.ref t), some (.int m), some (.ref pt), a, some (.ref pg), b, none])
      ⟨tp4.mono (by omega), o3.trans o4, o4 _ _ nt ex3, List.replicate m.toNat 0, _, _, o4 _ _ ng eg3, List.length_replicate, (fun x hx => by have := List.eq_of_mem_replicate hx; omega), rfl⟩ (fun _ _ _ _ => trivial) ?_ ?_
    · rintro i a e g K ex mem ⟨tp3, o3, ex3, ys, a1, b1, ey3, l3, d3, rfl⟩ k
      obtain ⟨rfl, hi⟩ := range_get ex
      walk_at "dl"
      refine ⟨t, m, _, rfl, tp3, by omega, by omega, by omega, fun v G4 v0 v1 tp4 o4 => ?_⟩
      have ey4 := o4 _ _ ng ey3
      have hv : v.toNat < ys.length := by omega
      have bx := d3 _ (List.getElem_mem hv)
      walk_at "dl"
      refine s_ixL ey4 (at_int (List.getElem?_eq_getElem hv) (by omega)) ?_
      walk_at "dl"
      refine ⟨t, 3, _, rfl, tp4, by omega, by decide, by decide, fun z G5 z0 z1 tp5 o5 => ?_⟩
      walk_at "dl"
      refine x_setI (o5 _ _ ng ey4) v0 (by omega) fun G6 o6 e6 => ?_
      walk_at "dl"
      refine k _ _ ⟨(tp5.old o6 ng ng).mono (by omega), (o3.trans (o4.trans o5)).own hpgG o6, o6 _ _ npg (o5 _ _ nt (o4 _ _ nt ex3)), ys.set v.toNat (ys[v.toNat] + 1 + z), _, _, e6, by rw [List.length_set]; exact l3, mem_set_of (fun x hx => by have := d3 x hx; omega) (by omega), rfl⟩
    · rintro e g ⟨tp3, o3, ex3, ys, a1, b1, ey3, ly, dy, rfl⟩
      rw [List.length_range] at tp3 dy
      have dy9 : Dig ys := fun x hx => by have := dy x hx; omega
      walk_at "dl"
      refine ⟨t, 8, _, rfl, tp3, by omega, by decide, by decide, fun wy G4 w0 w1 tp4 o4 => ?_⟩
      have ex4 := o4 _ _ nt ex3
      have ey4 := o4 _ _ ng ey3
      walk_at "dl"
      refine ⟨t, m, _, rfl, tp4, by omega, by omega, by omega, fun v G5 v0 v1 tp5 o5 => ?_⟩
      have ex5 := o5 _ _ nt ex4
      have ey5 := o5 _ _ ng ey4
      have hvx : v.toNat < xs.length := by omega
      walk_at "dl"
      refine s_join (fun e g => FeedA g t (n + 18) ∧ Old t G g ∧ g pt = some (.lst (xs.map .int)) ∧ ∃ (ys : List Int) (b : Option DV), g pg = some (.lst (ys.map .int)) ∧ ys.length = m.toNat ∧ Dig ys ∧ e = [some (.ref t), some (.int m), some (.ref pt), some (.int v), some (.ref pg), b, some (.int wy)]) (fun K hK => ?_) ?_
      · walk_at "if"
        refine s_ite (fun h => ?_) (fun h => ?_)
        · walk_at "dl"
          refine s_ixL ex5 (at_int (List.getElem?_eq_getElem hvx) (by omega)) ?_
          walk_at "dl"
          refine x_setI ey5 v0 (by omega) fun G6 o6 e6 => ?_
          walk_at "dl"
          have := d6 _ (List.getElem_mem hvx)
          exact hK _ _ ⟨(tp5.old o6 ng ng).mono (by omega), (o3.trans (o4.trans o5)).own hpgG o6, o6 _ _ npg ex5, _, _, e6, by rw [List.length_set]; exact ly, mem_set_of dy9 (by omega), rfl⟩
        · walk_at "dl"
          exact hK _ _ ⟨tp5.mono (by omega), o3.trans (o4.trans o5), ex5, ys, _, ey5, ly, dy9, rfl⟩
      · rintro e g ⟨tp6, o6, ex6, ys, b6, ey6, ly, dy, rfl⟩
        refine s_join (fun e g => FeedA g t (n + 18) ∧ Old t G g ∧ ∃ (xs : List Int) (b : Option DV), g pt = some (.lst (xs.map .int)) ∧ g pg = some (.lst (ys.map .int)) ∧ xs.length = m.toNat ∧ Dig xs ∧ (∃ x ∈ xs, 0 < x) ∧ (xs[v.toNat]? = some 9 ∨ ∀ x ∈ xs, x ≤ 6) ∧ e = [some (.ref t), some (.int m), some (.ref pt), some (.int v), some (.ref pg), b, some (.int wy)]) (fun K hK => ?_) ?_
        · walk_at "if"
          refine s_ite (fun h => ?_) (fun h => ?_)
          · walk_at "dl"
            refine x_setI ex6 v0 (by omega) fun G6 o7 e6 => ?_
            walk_at "dl"
            exact hK _ _ ⟨tp6.old o7 nt nt, o6.own hptG o7, _, _, e6, o7 _ _ npg.symm ey6, by rw [List.length_set]; exact l3, mem_set_of (fun x hx => by have := d6 x hx; omega) (by omega), ⟨_, set_mem hvx, by decide⟩, .inl (List.getElem?_set_self hvx), rfl⟩
          · walk_at "dl"
            exact hK _ _ ⟨tp6, o6, xs, _, ex6, ey6, l3, fun x hx => by have := d6 x hx; omega, p3', .inr fun x hx => (d6 x hx).2, rfl⟩
        · rintro e g ⟨tp7, o7, xs, b7, ex7, ey7, lx, dx, px, hx9, rfl⟩
          have hvx : v.toNat < xs.length := by omega
          have hvy : v.toNat < ys.length := by omega
          refine s_join (fun e g => FeedA g t (n + 18) ∧ Old t G g ∧ ∃ (ys : List Int) (b : Option DV), g pt = some (.lst (xs.map .int)) ∧ g pg = some (.lst (ys.map .int)) ∧ ys.length = m.toNat ∧ Dig ys ∧ xs ≠ ys ∧ e = [some (.ref t), some (.int m), some (.ref pt), some (.int v), some (.ref pg), b, some (.int wy)]) (fun K hK => ?_) ?_
          · walk_at "if"
            refine ⟨_, _, lst_reads ex7, lst_reads ey7, shaped_ints _, shaped_ints _, ?_⟩
            rw [eqv_ints, Bool.false_xor]
            walk_at "dl"
            refine s_ite (fun h => ?_) (fun h => ?_)
            · subst h
              walk_at "dl"
              refine s_ixL ey7 (at_int (List.getElem?_eq_getElem hvy) (by omega)) ?_
              walk_at "dl"
              intro p8 G8 hp8 s8 e8
              walk_at "dl"
              refine s_ixL (s8 _ _ ex7) (at_int (List.getElem?_eq_getElem hvx) (by omega)) ?_
              walk_at "dl"
              have bx := dx _ (List.getElem_mem hvx)
              by_cases h9 : xs[v.toNat] = 9
              · rw [decide_eq_true h9]
                refine s_ixL e8 rfl ?_
                walk_at "dl"
                refine x_setI (s8 _ _ ey7) v0 (by omega) fun G9 o9 e9 => ?_
                walk_at "dl"
                exact hK _ _ ⟨(tp7.sub s8).old o9 ng ng, (o7.sub s8).own hpgG o9, _, _, o9 _ _ npg (s8 _ _ ex7), e9, by rw [List.length_set]; exact lx, mem_set_of dx (by omega), set_ne hvx (by omega), rfl⟩
              · rw [decide_eq_false h9]
                refine s_ixL e8 rfl ?_
                walk_at "dl"
                refine x_setI (s8 _ _ ey7) v0 (by omega) fun G9 o9 e9 => ?_
                have h6 : xs[v.toNat] ≤ 6 := by
                  rcases hx9 with h | h
                  · rw [List.getElem?_eq_getElem hvx] at h
                    exact absurd (Option.some.inj h) h9
                  · exact h _ (List.getElem_mem hvx)
                walk_at "dl"
                exact hK _ _ ⟨(tp7.sub s8).old o9 ng ng, (o7.sub s8).own hpgG o9, _, _, o9 _ _ npg (s8 _ _ ex7), e9, by rw [List.length_set]; exact lx, mem_set_of dx (by omega), set_ne hvx (by omega), rfl⟩
            · walk_at "dl"
              exact hK _ _ ⟨tp7, o7, ys, _, ex7, ey7, ly, dy, h, rfl⟩
          · rintro e g ⟨tp8, o8, ys, b8, ex8, ey8, ly, dy, hne, rfl⟩
            walk_at "dl"
            exact q (xs, ys) _ ⟨lx, ly, dx, dy, hne, px⟩ (tp8.mono (by omega)) o8
abbrev s_law_pot : Stmt := top 23
theorem sc_law_pot : FnScope ["_law_feed_here", "_law_many", "_law_sorts", "_law_rules", "_law_k", "_law_left", "_law_inputs", "_law_begin", "_law_sort"] ["_law_feed_here"] (defScope s_law_pot) := ⟨rfl, rfl, rfl, by decide +kernel, rfl, by decide +kernel, by decide +kernel⟩
/- law_pot : 0 _law_feed_here, 1 _law_many, 2 _law_sorts, 3 _law_rules, 4 _law_k, 5 _law_left, 6 _law_inputs, 7 _law_begin, 8 _law_sort -/
theorem st_law_pot (x0 : DV) : start0 9 [x0] = [some x0, none, none, none, none, none, none, none, none] := rfl
def w_law_pot : DS := (wSeq (wSet 1 (wOp dIx (wLst (wCons (wC (.int 1)) (wCons (wC (.int 2)) (wCons (wC (.int 3)) (wCons (wC (.int 3)) (wCons (wC (.int 4)) (wCons (wC (.int 5)) (wCons (wC (.int 6)) (wCons (wC (.int 8)) wNil))))))))) (wCall d_law_draw (wCons (wVar 0) (wCons (wC (.int 8)) wNil)))))
  (wSeq (wSet 2 (wCB dTuple (wCons (wCall d_law_names (wCons (wVar 0) (wCons (wVar 1) wNil))) wNil)))
  (wSeq (wSet 3 (wCB dTuple (wCons (wLc [4] (wiRange1 (wCons (wOp dIx (wLst (wCons (wC (.int 0)) (wCons (wC (.int 1)) (wCons (wC (.int 2)) (wCons (wC (.int 2)) (wCons (wC (.int 3)) (wCons (wC (.int 4)) (wCons (wC (.int 5)) (wCons (wC (.int 8)) wNil))))))))) (wCall d_law_draw (wCons (wVar 0) (wCons (wC (.int 8)) wNil)))) wNil)) (wgName 4) wYes (wCall d_law_rule (wCons (wVar 0) (wCons (wVar 1) wNil)))) wNil)))
  (wSeq (wSet 5 (wListRg (wVar 1)))
  (wSeq (wSet 6 (wLst wNil))
  (wSeq (wFor (wiRange1 (wCons (wCB dMin (wCons (wVar 1) (wCons (wOp dIx (wLst (wCons (wC (.int 0)) (wCons (wC (.int 1)) (wCons (wC (.int 2)) (wCons (wC (.int 2)) (wCons (wC (.int 3)) wNil)))))) (wCall d_law_draw (wCons (wVar 0) (wCons (wC (.int 5)) wNil)))) wNil))) wNil)) (wgName 4)
  (wExpr (wBM "list" dAppend (wVar 6) (wCons (wBM "list" dPop (wVar 5) (wCons (wCall d_law_draw (wCons (wVar 0) (wCons (wCB dLen (wCons (wVar 5) wNil)) wNil))) wNil)) wNil))))
  (wSeq (wSet 7 (wCB dTuple (wCons (wLc [8] (wiSeq (wVar 2)) (wgName 8) wYes (wOp dIx (wLst (wCons (wC (.int 0)) (wCons (wC (.int 0)) (wCons (wC (.int 1)) (wCons (wC (.int 2)) (wCons (wC (.int 99)) (wCons (wCall d_law_draw (wCons (wVar 0) (wCons (wC (.int 100)) wNil))) wNil))))))) (wCall d_law_draw (wCons (wVar 0) (wCons (wC (.int 6)) wNil))))) wNil)))
  (wRet (wTup (wCons (wVar 2) (wCons (wVar 3) (wCons (wCB dTuple (wCons (wVar 6) wNil)) (wCons (wVar 7) (wCons (wCall d_law_draw (wCons (wVar 0) (wCons (wVar 1) wNil))) wNil))))))))))))))

theorem cons_erase {α : Type} : ∀ (l : List α) (j : Nat) (h : j < l.length), (l[j] :: l.eraseIdx j).Perm l
  | a :: r, 0, h => .refl _
  | a :: r, j + 1, h => by
    have h' : j < r.length := by simpa using h
    exact (List.Perm.swap a r[j] (r.eraseIdx j)).trans (.cons a (cons_erase r j h'))
structure Pt where
  names : List Str
  rules : List (List Int × List Int)
  ins : List Int
  beg : List Int
  ans : Int
abbrev Pt.dv (p : Pt) : DV := .tup [.tup (p.names.map .str), .tup (p.rules.map rdv), .tup (p.ins.map .int), .tup (p.beg.map .int), .int p.ans]
structure PtFit (p : Pt) : Prop where
  n0 : 1 ≤ p.names.length
  n1 : p.names.length ≤ 8
  nm : ∀ s ∈ p.names, s ∈ poolA
  nd : p.names.Nodup
  rn : p.rules.length ≤ 8
  rf : ∀ r ∈ p.rules, RlA r p.names.length
  il : p.ins.length ≤ 3
  ib : ∀ i ∈ p.ins, 0 ≤ i ∧ i < p.names.length
  idd : p.ins.Nodup
  bl : p.beg.length = p.names.length
  bb : ∀ x ∈ p.beg, 0 ≤ x ∧ x ≤ 99
  a0 : 0 ≤ p.ans
  a1 : p.ans < p.names.length
def d_law_pot : DF := fun ds G Q _ => ∃ (t : Addr) (n : Nat), ds = [.ref t] ∧ FeedA G t n ∧ n ≤ 800000000000 ∧ ∀ (p : Pt) G', PtFit p → FeedA G' t (n + 1000) → Old t G G' → Q p.dv G'
theorem len_law_pot : ∀ ds G Q Y, d_law_pot ds G Q Y → ds.length = 1 := by
  rintro ds G Q Y ⟨t, n, rfl, _⟩; rfl
theorem ok_law_pot : ∀ ds G Q Y, d_law_pot ds G Q Y → w_law_pot (bodyEnds Q Y) (start0 9 ds) G := by
  rintro ds G Q Y ⟨t, n, rfl, tp, hn, q⟩
  rw [st_law_pot]
  unfold w_law_pot
  walk_at "dl"
  intro pa Ga hpa sa ea
  walk_at "dl"
  refine ⟨t, 8, n, rfl, tp.sub sa, by omega, by decide, by decide, fun u G1 u0 u1 tp1 o1 => ?_⟩
  have oa : Old t G G1 := sa.old.trans o1
  walk_at "dl"
  refine pickI [1, 2, 3, 3, 4, 5, 6, 8] (fun n => 1 ≤ n ∧ n ≤ 8) (by decide) (o1 _ _ (tp.ne1 hpa) ea) rfl u0 u1 fun m hm => ?_
  walk_at "dl"
  refine ⟨t, m, _, rfl, tp1, by omega, by omega, by omega, fun names pn G2 nf en tp2 o2 => ?_⟩
  walk_at "dl"
  intro pb Gb hpb sb eb
  walk_at "dl"
  refine ⟨t, 8, _, rfl, tp2.sub sb, by omega, by decide, by decide, fun v G3 v0 v1 tp3 o3 => ?_⟩
  walk_at "dl"
  refine pickI [0, 1, 2, 2, 3, 4, 5, 8] (fun n => 0 ≤ n ∧ n ≤ 8) (by decide) (o3 _ _ (tp2.ne1 hpb) eb) rfl v0 v1 fun nr hnr => ?_
  have oc : Old t G G3 := oa.trans (o2.trans (sb.old.trans o3))
  walk_at "dl"
  refine s_rng1 (by omega) ?_
  rw [intsFrom_eq]
  refine lcT_all _ rdv (fun _ r => RlA r m.toNat) (fun i g => FeedA g t (n + 4 + 20 * i) ∧ Old t G3 g) ⟨tp3.mono (by omega), Old.refl⟩ (fun _ _ _ => trivial) (by rw [List.length_range, sizeLine_eq]; omega) (fun i x g K K2 e me r k => ?_) (fun g4 rs r4 hl hP p5 G5 hp5 s5 e5 => ?_)
  · have hi := (range_get e).2
    walk_at "dl"
    exact ⟨t, m, _, rfl, r.1, by omega, by omega, by omega, fun rr g' fit tp' o' => k rr _ fit ⟨tp'.mono (by omega), r.2.trans o'⟩⟩
  have rfit := all_rangeA hl hP
  have tp5 := r4.1.sub s5
  have o5 := r4.2.sub s5
  rw [List.length_range] at hl tp5
  have tt5 : FeedA G5 t (n + 4 + 20 * nr.toNat) := tp5
  have oG5 : Old t G G5 := oc.trans o5
  walk_at "dl"
  refine x_lr ⟨by omega, by omega⟩ fun pl G6 hpl s6 e6 => ?_
  have exs : intsFrom 0 m.toNat = ((List.range m.toNat).map fun (i : Nat) => (0 + (i : Int))).map DV.int := by rw [intsFrom_eq, List.map_map]; rfl
  rw [exs] at e6
  have lt := tp5.ne1 hpl
  have tp6 := tp5.sub s6
  walk_at "dl"
  intro pi G7 hpi s7 e7
  have it := tp6.ne1 hpi
  have nli : pl ≠ pi := ne_gone e6 hpi
  have tp7 := tp6.sub s7
  have e67 := s7 _ _ e6
  walk_at "dl"
  refine s_seq (s_for ?_)
  walk_at "dl"
  intro pc Gc hpc sc ec
  walk_at "dl"
  refine ⟨t, 5, _, rfl, tp7.sub sc, by omega, by decide, by decide, fun u G8 u0 u1 tp8 o8 => ?_⟩
  walk_at "dl"
  refine pickI [0, 1, 2, 2, 3] (fun n => 0 ≤ n ∧ n ≤ 3) (by decide) (o8 _ _ (tp7.ne1 hpc) ec) rfl u0 u1 fun ni hni => ?_
  walk_at "dl"
  generalize hk : (if ni < m then ni else m) = kk
  have hk1 : 0 ≤ kk ∧ kk ≤ 3 ∧ kk ≤ m := by rw [← hk]; split <;> omega
  refine s_rng1 (by omega) ?_
  rw [intsFrom_eq]
  refine forT _ (fun i e g => FeedA g t (n + 5 + 20 * nr.toNat + i) ∧ Old t G5 g ∧ ∃ (xs ys : List Int) (a : Option DV), g pl = some (.lst (xs.map .int)) ∧ g pi = some (.lst (ys.map .int)) ∧ xs.length + i = m.toNat ∧ ys.length = i ∧ (∀ x ∈ xs, 0 ≤ x ∧ x < m) ∧ (∀ x ∈ ys, 0 ≤ x ∧ x < m) ∧ (xs ++ ys).Nodup ∧
      e = [some (.ref t), some (.int m), some (.tup (names.map .str)), some (.tup (rs.map rdv)), a, some (.ref pl), some (.ref pi), none, none])
    ⟨tp8.mono (by omega), (s6.trans (s7.trans sc)).old.trans o8, _, [], _, o8 _ _ lt (sc _ _ e67), o8 _ _ it (sc _ _ e7), by rw [List.length_map, List.length_range]; rfl, rfl, ?_, by simp, ?_, rfl⟩ (fun _ _ _ _ => trivial) ?_ ?_
  · intro x hx
    obtain ⟨j, hj, rfl⟩ := List.mem_map.mp hx
    have := List.mem_range.mp hj
    omega
  · rw [List.append_nil]
    exact List.Pairwise.map (R := fun a b : Nat => a ≠ b) _ (fun a b h => by omega) List.nodup_range
  · rintro i a e g K ex mem ⟨tp9, o9, xs, ys, b, ex9, ey9, lx, ly, bx, bY, dup, rfl⟩ k
    obtain ⟨rfl, hi⟩ := range_get ex
    walk_at "dl"
    refine ⟨t, (xs.map DV.int).length, _, rfl, tp9, by omega, by rw [List.length_map]; omega, by rw [List.length_map]; omega, fun v G10 v0 v1 tp10 o10 => ?_⟩
    rw [List.length_map] at v1
    have hv : v.toNat < xs.length := by omega
    walk_at "dl"
    refine x_popAt (d := .int xs[v.toNat]) (o10 _ _ lt ex9) ⟨by omega, by omega⟩ (by rw [List.length_map]; exact seqIndex_lt v0 v1) (by rw [List.getElem?_map, List.getElem?_eq_getElem hv]; rfl) fun G11 o11 e11 => ?_
    rw [erase_ints] at e11
    have ey11 := o11 _ _ nli.symm (o10 _ _ it ey9)
    walk_at "dl"
    · rw [List.length_map, sizeLine_eq]; omega
    intro G12 o12 e12
    walk_at "dl"
    have hG5l : G5 pl = none := hpl
    have hG5i : G5 pi = none := none_sub hpi s6
    have perm : (xs.eraseIdx v.toNat ++ (ys ++ [xs[v.toNat]])).Perm (xs ++ ys) := by
      have h1 : (xs[v.toNat] :: xs.eraseIdx v.toNat).Perm xs := cons_erase xs v.toNat hv
      calc (xs.eraseIdx v.toNat ++ (ys ++ [xs[v.toNat]])).Perm ((xs.eraseIdx v.toNat ++ ys) ++ [xs[v.toNat]]) := by rw [List.append_assoc]
        _ |>.Perm ([xs[v.toNat]] ++ (xs.eraseIdx v.toNat ++ ys)) := List.perm_append_comm
        _ |>.Perm (xs ++ ys) := by
          rw [← List.append_assoc]
          exact List.Perm.append_right _ h1
    refine k _ _ ⟨((tp10.old o11 lt lt).old o12 it it).mono (by omega), (((o9.trans o10).own hG5l o11).own hG5i o12), xs.eraseIdx v.toNat, ys ++ [xs[v.toNat]], _, o12 _ _ nli e11, ?_, ?_, by simp [ly], fun x hx => bx x (List.mem_of_mem_eraseIdx hx), fun x hx => ?_, perm.nodup_iff.mpr dup, rfl⟩
    · rw [e12, List.map_append]; rfl
    · rw [List.length_eraseIdx, if_pos hv]; omega
    · rcases List.mem_append.mp hx with h | h
      · exact bY x h
      · have : x = xs[v.toNat] := by simpa using h
        subst this
        exact bx _ (List.getElem_mem hv)
  · rintro e g ⟨tp9, o9, xs, ys, b, ex9, ey9, lx, ly, bx, bY, dup, rfl⟩
    rw [List.length_range] at tp9 ly lx
    walk_at "dl"
    refine lcT_all DV.str DV.int (fun _ x => 0 ≤ x ∧ x ≤ 99) (fun i g' => FeedA g' t (n + 10 + 20 * nr.toNat + 2 * i) ∧ Old t g g') ⟨tp9.mono (by omega), Old.refl⟩ (fun _ _ _ => trivial) (by rw [nf.ln, sizeLine_eq]; omega) (fun i x g K K2 e me r k => ?_) (fun g13 bs r13 hbl hbP p13 G14 hp14 s14 e14 => ?_)
    · have hi : i < names.length := (List.getElem?_eq_some_iff.mp e).1
      have := nf.ln
      walk_at "dl"
      refine ⟨t, 100, _, rfl, r.1, by omega, by decide, by decide, fun z g14 z0 z1 tp14 o14 => ?_⟩
      walk_at "dl"
      intro p15 G15 hp15 s15 e15
      walk_at "dl"
      refine ⟨t, 6, _, rfl, tp14.sub s15, by omega, by decide, by decide, fun v G16 v0 v1 tp16 o16 => ?_⟩
      walk_at "dl"
      exact pickI [0, 0, 1, 2, 99, z] (fun n => 0 ≤ n ∧ n ≤ 99) (by simp; omega) (o16 _ _ (tp14.ne1 hp15) e15) rfl v0 v1 fun x hx => k x _ hx ⟨tp16.mono (by omega), r.2.trans (o14.trans (s15.old.trans o16))⟩
    have bfit : ∀ x ∈ bs, 0 ≤ x ∧ x ≤ 99 := by
      intro y hy
      obtain ⟨j, hj⟩ := List.mem_iff_getElem?.mp hy
      have hj2 : j < names.length := by
        have := (List.getElem?_eq_some_iff.mp hj).1
        omega
      exact hbP j _ y (List.getElem?_eq_getElem hj2) hj
    have tp14 := r13.1.sub s14
    have o14 := r13.2.sub s14
    have nl := nf.ln
    rw [nl] at hbl tp14
    have ey14 := o14 _ _ it ey9
    walk_at "dl"
    refine ⟨t, m, _, rfl, tp14, by omega, by omega, by omega, fun an G17 a0 a1 tp17 o17 => ?_⟩
    walk_at "dl"
    exact q ⟨names, rs, ys, bs, an⟩ _ ⟨by show 1 ≤ names.length; omega, by show names.length ≤ _; omega, nf.nm, nf.nd (by omega), by show rs.length ≤ _; omega, by show ∀ r ∈ rs, RlA r names.length; rw [nl]; exact rfit, by show ys.length ≤ 3; omega, fun i hi => ⟨(bY i hi).1, by show i < (names.length : Int); have := (bY i hi).2; omega⟩, (List.nodup_append.mp dup).2.1, by show bs.length = names.length; omega, bfit, a0, by show an < (names.length : Int); omega⟩ (tp17.mono (by omega)) (oG5.trans (o9.trans (o14.trans o17)))

/-! ### things -/
theorem len_tl (a : Str) : a.length = a.cps.toList.length := by simp [Str.length]
/-- a thing: numbers and texts not too great, tuples not too long; a list or a dict by its address -/
inductive Tq (t u : Addr) (G : Gh) (L : Nat) : DV → Prop
  | non : Tq t u G L .non
  | bl (b : Bool) : Tq t u G L (.bl b)
  | int (i : Int) (h : i.natAbs ≤ 10 ^ 40) : Tq t u G L (.int i)
  | str (z : Str) (h : z.length ≤ 100) : Tq t u G L (.str z)
  | tup {l : List DV} (h : ∀ d ∈ l, Tq t u G L d) (hl : l.length ≤ L) : Tq t u G L (.tup l)
  | lst {a : Addr} {l : List DV} (h : G a = some (.lst l)) (n : a ≠ t) (m : a ≠ u) : Tq t u G L (.ref a)
  | dic {a : Addr} {l : List (Key × DV)} (h : G a = some (.dic l)) (n : a ≠ t) (m : a ≠ u) : Tq t u G L (.ref a)
theorem Tq.tm {t u : Addr} {G : Gh} {L : Nat} {d : DV} (hL : L ≤ 1000) (h : Tq t u G L d) : Tm t G d := by
  induction h with
  | non => exact .non
  | bl b => exact .bl b
  | int i h => exact .int i (Nat.lt_of_le_of_lt h (by decide +kernel))
  | str z h => exact .str z
  | tup _ hl ih => exact .tup ih (by omega)
  | lst h n m => exact .lst h n
  | dic h n m => exact .dic h n
theorem Tq.old {t u : Addr} {G G' : Gh} {L : Nat} (k : Old t G G') {d : DV} (h : Tq t u G L d) : Tq t u G' L d := by
  induction h with
  | non => exact .non
  | bl b => exact .bl b
  | int i h => exact .int i h
  | str z h => exact .str z h
  | tup _ hl ih => exact .tup ih hl
  | lst h n m => exact .lst (k _ _ n h) n m
  | dic h n m => exact .dic (k _ _ n h) n m
theorem Tq.sub {t u : Addr} {G G' : Gh} {L : Nat} (k : Sub G G') {d : DV} (h : Tq t u G L d) : Tq t u G' L d := h.old k.old
theorem Tq.mono {t u : Addr} {G : Gh} {L L' : Nat} (k : L ≤ L') {d : DV} (h : Tq t u G L d) : Tq t u G L' d := by
  induction h with
  | non => exact .non
  | bl b => exact .bl b
  | int i h => exact .int i h
  | str z h => exact .str z h
  | tup _ hl ih => exact .tup ih (by omega)
  | lst h n m => exact .lst h n m
  | dic h n m => exact .dic h n m
theorem Tq.oldU {t u : Addr} {G G' : Gh} {L : Nat} (k : Old u G G') {d : DV} (h : Tq t u G L d) : Tq t u G' L d := by
  induction h with
  | non => exact .non
  | bl b => exact .bl b
  | int i h => exact .int i h
  | str z h => exact .str z h
  | tup _ hl ih => exact .tup ih hl
  | lst h n m => exact .lst (k _ _ m h) n m
  | dic h n m => exact .dic (k _ _ m h) n m
theorem Tq.tz {t u : Addr} {G : Gh} {L : Nat} (hL : L ≤ 1000) {d : DV} (h : Tq t u G L d) : Tq t t G 1000 d := by
  induction h with
  | non => exact .non
  | bl b => exact .bl b
  | int i h => exact .int i h
  | str z h => exact .str z h
  | tup _ hl ih => exact .tup ih (by omega)
  | lst h n m => exact .lst h n n
  | dic h n m => exact .dic h n n
abbrev Tz (t : Addr) (G : Gh) (d : DV) : Prop := Tq t t G 1000 d
def letsT : Str := "abcdefghijklmnopqrstuvwxyz"
def keyQ : List Str := ["sorts", "begin", "in", "out", "rule", "to"]
def letT (w : Str) : Bool := w.cps.toList.all fun c => decide (c ∈ letsT.cps.toList)
def nameT (w : Str) : Bool := decide (1 ≤ w.length) && decide (w.length ≤ 8) && !decide (w ∈ keyQ) && letT w
def nameD : DV → Bool
  | .str w => nameT w
  | _ => false
def isI : DV → Bool
  | .int _ => true
  | _ => false
def from0 : DV → Bool
  | .int i => decide (0 ≤ i)
  | _ => false
def countsB (d : DV) (n : Int) : Bool := match d with
  | .tup l => decide ((l.length : Int) = n) && l.all from0
  | _ => false
def rowB (d : DV) (n hi : Int) : Bool := match d with
  | .tup l => decide ((l.length : Int) = n) && l.all fun x => wholeB x 0 hi
  | _ => false
def intV : DV → Int
  | .int i => i
  | _ => 0
def strV : DV → Str
  | .str w => w
  | _ => ""
def intsL : DV → List Int
  | .tup l => l.map intV
  | _ => []
def ruleB (d : DV) (n : Int) : Bool := match d with
  | .tup [a, b] => rowB a n 9 && rowB b n 9 && (decide (0 < (intsL a).sum) && !decide (intsL a = intsL b))
  | _ => false
def sortsB (d : DV) : Bool := match d with
  | .tup l => decide (1 ≤ l.length) && decide (l.length ≤ 8) && (l.all nameD && decide ((l.map strV).Nodup))
  | _ => false
def inputsB (d : DV) (n : Int) : Bool := match d with
  | .tup l => decide (l.length ≤ 3) && (l.all (fun x => wholeB x 0 (n - 1)) && decide ((l.map intV).Nodup))
  | _ => false
def rulesB (d : DV) (n : Int) : Bool := match d with
  | .tup l => decide (l.length ≤ 8) && l.all fun x => ruleB x n
  | _ => false
def lenD' (d : DV) : Int := match d with
  | .tup l => (l.length : Int)
  | _ => 0
def potB (d : DV) : Bool := match d with
  | .tup [s, r, i, b, a] => sortsB s && (rulesB r (lenD' s) && (inputsB i (lenD' s) && (rowB b (lenD' s) 99 && wholeB a 0 (lenD' s - 1))))
  | _ => false
section
variable {t u : Addr} {G : Gh} {L : Nat} {d : DV}
theorem Tq.isS (h : Tq t u G L d) : (∃ w, d = .str w ∧ w.length ≤ 100) ∨ (d.isa "str" = false ∧ nameD d = false) := by
  cases h with
  | str z h => exact .inl ⟨z, rfl, h⟩
  | _ => exact .inr ⟨rfl, rfl⟩
theorem Tq.isT (h : Tq t u G L d) : (∃ l, d = .tup l ∧ (∀ x ∈ l, Tq t u G L x) ∧ l.length ≤ L) ∨ (d.isa "tuple" = false ∧ (∀ n, countsB d n = false) ∧ (∀ n hi, rowB d n hi = false) ∧ (∀ n, ruleB d n = false) ∧ sortsB d = false ∧ (∀ n, inputsB d n = false) ∧ (∀ n, rulesB d n = false) ∧ potB d = false) := by
  cases h with
  | tup h hl => exact .inl ⟨_, rfl, h, hl⟩
  | _ => exact .inr ⟨rfl, fun _ => rfl, fun _ _ => rfl, fun _ => rfl, rfl, fun _ => rfl, fun _ => rfl, rfl⟩
theorem Tq.isN (h : Tq t u G L d) : (∃ i, d = .int i ∧ i.natAbs ≤ 10 ^ 40) ∨ (∃ b, d = .bl b) ∨ (d.isa "int" = false ∧ isI d = false ∧ from0 d = false ∧ ∀ lo hi, wholeB d lo hi = false) := by
  cases h with
  | int i h => exact .inl ⟨i, rfl, h⟩
  | bl b => exact .inr (.inl ⟨b, rfl⟩)
  | _ => exact .inr (.inr ⟨rfl, rfl, rfl, fun _ _ => rfl⟩)
end
theorem ints_of {l : List DV} {hi : Int} (h : (l.all fun x => wholeB x 0 hi) = true) : l = (l.map intV).map .int ∧ ∀ x ∈ l.map intV, 0 ≤ x ∧ x ≤ hi := by
  rw [List.all_eq_true] at h
  refine ⟨?_, fun x hx => ?_⟩
  · rw [List.map_map]
    refine (List.map_id l).symm.trans (List.map_congr_left fun x hx => ?_)
    have := h x hx
    cases x <;> first | rfl | (simp [wholeB] at this)
  · obtain ⟨y, hy, rfl⟩ := List.mem_map.mp hx
    have := h y hy
    cases y <;> first | (simp [wholeB] at this; done) | skip
    simp only [wholeB, Bool.and_eq_true, decide_eq_true_eq] at this
    exact this
theorem ints_from {l : List DV} (h : l.all from0 = true) : l = (l.map intV).map .int ∧ ∀ x ∈ l.map intV, 0 ≤ x := by
  rw [List.all_eq_true] at h
  refine ⟨?_, fun x hx => ?_⟩
  · rw [List.map_map]
    refine (List.map_id l).symm.trans (List.map_congr_left fun x hx => ?_)
    have := h x hx
    cases x <;> first | rfl | (simp [from0] at this)
  · obtain ⟨y, hy, rfl⟩ := List.mem_map.mp hx
    have := h y hy
    cases y <;> first | (simp [from0] at this; done) | skip
    exact of_decide_eq_true this
theorem strs_of {l : List DV} (h : l.all nameD = true) : l = (l.map strV).map .str := by
  rw [List.all_eq_true] at h
  rw [List.map_map]
  refine (List.map_id l).symm.trans (List.map_congr_left fun x hx => ?_)
  have := h x hx
  cases x <;> first | rfl | (simp [nameD] at this)
/-- a row: not below 0, and its greatest not above -/
theorem row_max {xs : List Int} {n hi m : Int} (hm : m ∈ xs) (top : ∀ y ∈ xs, y ≤ m) (h0 : ∀ x ∈ xs, 0 ≤ x) (hl : (xs.length : Int) = n) : rowB (.tup (xs.map .int)) n hi = decide (m ≤ hi) := by
  show (decide (((xs.map DV.int).length : Int) = n) && _) = _
  rw [List.length_map, decide_eq_true hl, Bool.true_and, List.all_map, Bool.eq_iff_iff, List.all_eq_true, decide_eq_true_eq]
  constructor
  · intro h
    have := h m hm
    simp only [Function.comp, wholeB, Bool.and_eq_true, decide_eq_true_eq] at this
    exact this.2
  · intro h x hx
    have := top x hx
    have := h0 x hx
    simp only [Function.comp, wholeB, Bool.and_eq_true, decide_eq_true_eq]
    omega
theorem row_no {d : DV} {n hi : Int} (h : countsB d n = false) : rowB d n hi = false := by
  cases d <;> first | rfl | skip
  rename_i l
  simp only [countsB] at h
  simp only [rowB]
  cases hl : decide ((l.length : Int) = n)
  · rfl
  · rw [hl, Bool.true_and] at h
    rw [Bool.true_and]
    rw [Bool.eq_false_iff] at h ⊢
    intro h2
    apply h
    rw [List.all_eq_true] at h2 ⊢
    intro x hx
    have := h2 x hx
    cases x <;> first | (simp [wholeB] at this; done) | skip
    simp only [wholeB, Bool.and_eq_true, decide_eq_true_eq] at this
    exact decide_eq_true this.1
theorem any_keyQ (w : Str) : ([DV.str ("sorts" : Str), DV.str ("begin" : Str), DV.str ("in" : Str), DV.str ("out" : Str), DV.str ("rule" : Str), DV.str ("to" : Str)].any fun e => e.same (.str w)) = decide (w ∈ keyQ) := by
  show ((("sorts" : Str) == w) || ((("begin" : Str) == w) || ((("in" : Str) == w) || ((("out" : Str) == w) || ((("rule" : Str) == w) || ((("to" : Str) == w) || false)))))) = _
  rw [Bool.eq_iff_iff]
  simp only [keyQ, List.mem_cons, List.not_mem_nil, or_false, decide_eq_true_eq, Bool.or_eq_true, beq_iff_eq, Bool.or_false]
  constructor <;> (intro h; simp only [eq_comm] at h ⊢; exact h)
/-- an answer by and: the second is asked only where the first is true -/
theorem s_ifB {x y : Bool} {A : Prop} {G : Gh} {Q : DV → Gh → Prop} (q : Q (.bl (x && y)) G) (h : x = true → Q (.bl y) G → A) : if x = true then A else Q (.bl false) G := by
  cases x
  · exact q
  · exact h rfl q
abbrev s_is_name : Stmt := top 9
theorem sc_is_name : FnScope ["thing", "sign"] ["thing"] (defScope s_is_name) := ⟨rfl, rfl, rfl, by decide +kernel, rfl, by decide +kernel, by decide +kernel⟩
/- is_name : 0 thing, 1 sign -/
theorem st_is_name (x0 : DV) : start0 2 [x0] = [some x0, none] := rfl
def w_is_name : DS := (wSeq (wIfS (wOrT (wNotT (wTst (wCB dIsi (wCons (wVar 0) (wCons (wC (.ty "str")) wNil))))) (wOrT (wNotT (wTst (wChain dLe dLe (wC (.int 1)) (wCB dLen (wCons (wVar 0) wNil)) (wC (.int 8))))) (wTst (wOp (dIn false) (wVar 0) (wC (.kt [.str "sorts", .str "begin", .str "in", .str "out", .str "rule", .str "to"]))))))
  (wRet (wC (.bl false)))
  wNext)
  (wRet (wCB dAll (wCons (wLc [1] (wiSeq (wVar 0)) (wgName 1) wYes (wOp (dIn false) (wVar 1) (wC (.str "abcdefghijklmnopqrstuvwxyz")))) wNil))))

def d_is_name : DF := fun ds G Q _ => ∃ (t : Addr) (d : DV), ds = [d] ∧ Tz t G d ∧ ∀ G', Sub G G' → Q (.bl (nameD d)) G'
theorem len_is_name : ∀ ds G Q Y, d_is_name ds G Q Y → ds.length = 1 := by
  rintro ds G Q Y ⟨t, d, rfl, _⟩; rfl
theorem ok_is_name : ∀ ds G Q Y, d_is_name ds G Q Y → w_is_name (bodyEnds Q Y) (start0 2 ds) G := by
  rintro ds G Q Y ⟨t, d, rfl, T, q⟩
  rw [st_is_name]
  unfold w_is_name
  rcases T.isS with ⟨w, rfl, hw⟩ | ⟨h, hd⟩
  · have q : ∀ G', Sub G G' → Q (.bl (nameT w)) G' := q
    have hlf : w.length = w.cps.toList.length := len_tl w
    walk_at "dl"
    walk_at "if"
    refine s_lenS (by rw [sizeLine_eq]; omega) ?_
    walk_at "dl"
    unfold nameT at q
    by_cases h1 : 1 ≤ w.length
    · rw [decide_eq_true h1] at q
      rw [decide_eq_true (by omega : (1 : Int) ≤ (w.length : Nat))]
      walk_at "dl"
      by_cases h2 : w.length ≤ 8
      · rw [decide_eq_true h2] at q
        rw [decide_eq_true (by omega : ((w.length : Nat) : Int) ≤ 8)]
        walk_at "dl"
        rw [any_keyQ]
        by_cases h3 : w ∈ keyQ
        · rw [decide_eq_true h3] at q ⊢
          walk_at "dl"
          exact q _ Sub.refl
        · rw [decide_eq_false h3] at q ⊢
          walk_at "dl"
          refine lcT_map (fun c : Nat => .str ⟨#[c]⟩) (fun c => .bl (decide (c ∈ letsT.cps.toList))) (fun _ g' => Sub G g') Sub.refl (fun _ _ _ => trivial) (by rw [← hlf, sizeLine_eq]; omega) (fun i c g1 K K2 e me r' k => ?_) (fun g1 r1 p1 g2 hp1 s1 e1 => ?_)
          · walk_at "dl"
            refine ⟨c, rfl, ?_⟩
            rw [Bool.false_xor]
            walk_at "dl"
            exact k _ r'
          walk_at "dl"
          refine ⟨_, e1, w.cps.toList.map fun c => decide (c ∈ letsT.cps.toList), by rw [List.map_map]; rfl, ?_⟩
          rw [List.all_map]
          have := q _ (r1.trans s1)
          unfold letT at this
          exact this
      · rw [decide_eq_false h2] at q
        rw [decide_eq_false (by omega : ¬ ((w.length : Nat) : Int) ≤ 8)]
        walk_at "dl"
        exact q _ Sub.refl
    · rw [decide_eq_false h1] at q
      rw [decide_eq_false (by omega : ¬ (1 : Int) ≤ (w.length : Nat))]
      walk_at "dl"
      exact q _ Sub.refl
  · rw [hd] at q
    walk_at "dl"
    walk_at "if"
    refine s_isiTm (T.tm (by decide)) (by decide) ?_
    rw [h]
    walk_at "dl"
    exact q _ Sub.refl
abbrev s_is_whole : Stmt := top 10
theorem sc_is_whole : FnScope ["thing"] ["thing"] (defScope s_is_whole) := ⟨rfl, rfl, rfl, by decide +kernel, rfl, by decide +kernel, by decide +kernel⟩
/- is_whole : 0 thing -/
theorem st_is_whole (x0 : DV) : start0 1 [x0] = [some x0] := rfl
def w_is_whole : DS := (wRet (wAnd (wCB dIsi (wCons (wVar 0) (wCons (wC (.ty "int")) wNil))) (wNot (wCB dIsi (wCons (wVar 0) (wCons (wC (.ty "bool")) wNil))))))

def d_is_whole : DF := fun ds G Q _ => ∃ (t : Addr) (d : DV), ds = [d] ∧ Tz t G d ∧ Q (.bl (isI d)) G
theorem len_is_whole : ∀ ds G Q Y, d_is_whole ds G Q Y → ds.length = 1 := by
  rintro ds G Q Y ⟨t, d, rfl, _⟩; rfl
theorem ok_is_whole : ∀ ds G Q Y, d_is_whole ds G Q Y → w_is_whole (bodyEnds Q Y) (start0 1 ds) G := by
  rintro ds G Q Y ⟨t, d, rfl, T, q⟩
  rw [st_is_whole]
  unfold w_is_whole
  walk_at "dl"
  cases T with
  | lst hg hn hm => walk_at "dl"; exact q
  | dic hg hn hm => walk_at "dl"; exact q
  | _ => walk_at "dl"; exact q
abbrev s_is_counts : Stmt := top 11
theorem sc_is_counts : FnScope ["many", "thing", "one"] ["many", "thing"] (defScope s_is_counts) := ⟨rfl, rfl, rfl, by decide +kernel, rfl, by decide +kernel, by decide +kernel⟩
/- is_counts : 0 many, 1 thing, 2 one -/
theorem st_is_counts (x0 x1 : DV) : start0 3 [x0, x1] = [some x0, some x1, none] := rfl
def w_is_counts : DS := (wRet (wAnd (wCB dIsi (wCons (wVar 1) (wCons (wC (.ty "tuple")) wNil))) (wAnd (wOp (dEq false) (wCB dLen (wCons (wVar 1) wNil)) (wVar 0)) (wCB dAll (wCons (wLc [2] (wiSeq (wVar 1)) (wgName 2) wYes (wAnd (wCall d_is_whole (wCons (wVar 2) wNil)) (wOp dGe (wVar 2) (wC (.int 0))))) wNil)))))

theorem all_of {α : Type} {xs : List α} {g : Gh} {p : Addr} {f : α → Bool} {Q : DV → Gh → Prop} (e : g p = some (.lst (xs.map fun x => .bl (f x)))) (q : Q (.bl (xs.all f)) g) : dAll [.ref p] g Q := by
  refine ⟨_, e, xs.map f, by rw [List.map_map]; rfl, ?_⟩
  rw [List.all_map]
  exact q
def d_is_counts : DF := fun ds G Q _ => ∃ (t : Addr) (d : DV) (n : Int), ds = [.int n, d] ∧ Tz t G d ∧ ∀ G', Sub G G' → Q (.bl (countsB d n)) G'
theorem len_is_counts : ∀ ds G Q Y, d_is_counts ds G Q Y → ds.length = 2 := by
  rintro ds G Q Y ⟨t, d, n, rfl, _⟩; rfl
theorem ok_is_counts : ∀ ds G Q Y, d_is_counts ds G Q Y → w_is_counts (bodyEnds Q Y) (start0 3 ds) G := by
  rintro ds G Q Y ⟨t, d, n, rfl, T, q⟩
  rw [st_is_counts]
  unfold w_is_counts
  rcases T.isT with ⟨l, rfl, hi, hl⟩ | ⟨h, hd, _⟩
  · have q : ∀ G', Sub G G' → Q (.bl (decide ((l.length : Int) = n) && l.all from0)) G' := q
    walk_at "dl"
    refine s_ifB (q _ Sub.refl) fun he _ => ?_
    rw [he] at q
    walk_at "dl"
    obtain ⟨us, rfl⟩ : ∃ us : List DV, l = us.map id := ⟨l, (List.map_id l).symm⟩
    rw [List.length_map] at hl
    refine lcT_map id (fun x => .bl (from0 x)) (fun _ g => Sub G g) Sub.refl (fun _ _ _ => trivial) (Nat.le_trans hl (by rw [sizeLine_eq]; decide)) (fun i x g K K2 e me r k => ?_) (fun g1 r1 p1 g2 hp1 s1 e1 => ?_)
    · have hx : Tz t g x := (hi x (by rw [List.map_id]; exact me)).sub r
      walk_at "dl"
      refine ⟨t, x, rfl, hx, ?_⟩
      rcases hx.isN with ⟨i, rfl, _⟩ | ⟨b, rfl⟩ | ⟨_, h1, h2, _⟩
      · walk_at "dl"
        exact k _ r
      · walk_at "dl"
        exact k _ r
      · rw [h1]
        rw [h2] at k
        walk_at "dl"
        exact k _ r
    walk_at "dl"
    refine all_of e1 ?_
    have := q _ (r1.trans s1)
    rw [List.map_id] at this
    exact this
  · rw [hd] at q
    walk_at "dl"
    refine s_isiTm (T.tm (by decide)) (by decide) ?_
    rw [h]
    walk_at "dl"
    exact q _ Sub.refl
abbrev s_is_stand : Stmt := top 12
theorem sc_is_stand : FnScope ["many", "thing"] ["many", "thing"] (defScope s_is_stand) := ⟨rfl, rfl, rfl, by decide +kernel, rfl, by decide +kernel, by decide +kernel⟩
/- is_stand : 0 many, 1 thing -/
theorem st_is_stand (x0 x1 : DV) : start0 2 [x0, x1] = [some x0, some x1] := rfl
def w_is_stand : DS := (wRet (wCall d_is_counts (wCons (wVar 0) (wCons (wVar 1) wNil))))

def d_is_stand : DF := d_is_counts
theorem len_is_stand : ∀ ds G Q Y, d_is_stand ds G Q Y → ds.length = 2 := len_is_counts
theorem ok_is_stand : ∀ ds G Q Y, d_is_stand ds G Q Y → w_is_stand (bodyEnds Q Y) (start0 2 ds) G := by
  rintro ds G Q Y ⟨t, d, n, rfl, T, q⟩
  rw [st_is_stand]
  unfold w_is_stand
  walk_at "dl"
  exact ⟨t, d, n, rfl, T, q⟩
abbrev s_is_amounts : Stmt := top 13
theorem sc_is_amounts : FnScope ["many", "thing"] ["many", "thing"] (defScope s_is_amounts) := ⟨rfl, rfl, rfl, by decide +kernel, rfl, by decide +kernel, by decide +kernel⟩
/- is_amounts : 0 many, 1 thing -/
theorem st_is_amounts (x0 x1 : DV) : start0 2 [x0, x1] = [some x0, some x1] := rfl
def w_is_amounts : DS := (wRet (wCall d_is_counts (wCons (wVar 0) (wCons (wVar 1) wNil))))

def d_is_amounts : DF := d_is_counts
theorem len_is_amounts : ∀ ds G Q Y, d_is_amounts ds G Q Y → ds.length = 2 := len_is_counts
theorem ok_is_amounts : ∀ ds G Q Y, d_is_amounts ds G Q Y → w_is_amounts (bodyEnds Q Y) (start0 2 ds) G := by
  rintro ds G Q Y ⟨t, d, n, rfl, T, q⟩
  rw [st_is_amounts]
  unfold w_is_amounts
  walk_at "dl"
  exact ⟨t, d, n, rfl, T, q⟩

theorem ints_pd {l : List Int} : (DV.tup (l.map .int)).pure = true := by rw [pure_tup]; exact pure_ints l
abbrev s_is_rule : Stmt := top 14
theorem sc_is_rule : FnScope ["many", "thing", "side"] ["many", "thing"] (defScope s_is_rule) := ⟨rfl, rfl, rfl, by decide +kernel, rfl, by decide +kernel, by decide +kernel⟩
/- is_rule : 0 many, 1 thing, 2 side -/
theorem st_is_rule (x0 x1 : DV) : start0 3 [x0, x1] = [some x0, some x1, none] := rfl
def w_is_rule : DS := (wSeq (wIfS (wOrT (wNotT (wTst (wCB dIsi (wCons (wVar 1) (wCons (wC (.ty "tuple")) wNil))))) (wTst (wOp (dEq true) (wCB dLen (wCons (wVar 1) wNil)) (wC (.int 2)))))
  (wRet (wC (.bl false)))
  wNext)
  (wSeq (wIfS (wNotT (wTst (wCB dAll (wCons (wLc [2] (wiSeq (wVar 1)) (wgName 2) wYes (wAnd (wCall d_is_counts (wCons (wVar 0) (wCons (wVar 2) wNil))) (wOp dLe (wCB dMax (wCons (wVar 2) wNil)) (wC (.int 9))))) wNil))))
  (wRet (wC (.bl false)))
  wNext)
  (wRet (wAnd (wOp dGt (wCB dSum (wCons (wOp dIx (wVar 1) (wC (.int 0))) wNil)) (wC (.int 0))) (wOp (dEq true) (wOp dIx (wVar 1) (wC (.int 0))) (wOp dIx (wVar 1) (wC (.int 1))))))))

def d_is_rule : DF := fun ds G Q _ => ∃ (t : Addr) (d : DV) (n : Int), ds = [.int n, d] ∧ Tz t G d ∧ 1 ≤ n ∧ ∀ G', Sub G G' → Q (.bl (ruleB d n)) G'
theorem len_is_rule : ∀ ds G Q Y, d_is_rule ds G Q Y → ds.length = 2 := by
  rintro ds G Q Y ⟨t, d, n, rfl, _⟩; rfl
theorem rule_two {a b : DV} {n : Int} : ruleB (.tup [a, b]) n = (rowB a n 9 && rowB b n 9 && (decide (0 < (intsL a).sum) && !decide (intsL a = intsL b))) := rfl
theorem rule_no {l : List DV} {n : Int} (h : l.length ≠ 2) : ruleB (.tup l) n = false := by
  match l, h with
  | [], _ => rfl
  | [_], _ => rfl
  | [_, _], h => exact absurd rfl h
  | _ :: _ :: _ :: _, _ => rfl
theorem counts_row {x : DV} {n : Int} (h : countsB x n = true) : ∃ xs : List Int, x = .tup (xs.map .int) ∧ (xs.length : Int) = n ∧ ∀ y ∈ xs, 0 ≤ y := by
  cases x <;> first | cases h | skip
  rename_i l
  simp only [countsB, Bool.and_eq_true, decide_eq_true_eq] at h
  obtain ⟨e, h0⟩ := ints_from h.2
  exact ⟨l.map intV, by rw [← e], by rw [List.length_map]; exact h.1, h0⟩
theorem row_ints {x : DV} {n hi : Int} (h : rowB x n hi = true) : ∃ xs : List Int, x = .tup (xs.map .int) ∧ intsL x = xs ∧ (xs.length : Int) = n ∧ ∀ y ∈ xs, 0 ≤ y ∧ y ≤ hi := by
  cases x <;> first | cases h | skip
  rename_i l
  simp only [rowB, Bool.and_eq_true, decide_eq_true_eq] at h
  obtain ⟨e, h0⟩ := ints_of h.2
  exact ⟨l.map intV, by rw [← e], rfl, by rw [List.length_map]; exact h.1, h0⟩
theorem ok_is_rule : ∀ ds G Q Y, d_is_rule ds G Q Y → w_is_rule (bodyEnds Q Y) (start0 3 ds) G := by
  rintro ds G Q Y ⟨t, d, n, rfl, T, hn, q⟩
  rw [st_is_rule]
  unfold w_is_rule
  rcases T.isT with ⟨l, rfl, hi, hl⟩ | ⟨h, _, _, hd, _⟩
  · by_cases h2 : l.length = 2
    · obtain ⟨a, b, rfl⟩ : ∃ a b, l = [a, b] := by
        match l, h2 with
        | [a, b], _ => exact ⟨a, b, rfl⟩
      rw [rule_two] at q
      walk_at "dl"
      walk_at "if"
      refine s_noN rfl ?_
      walk_at "dl"
      walk_at "if"
      refine lcT_map (xs := [a, b]) id (fun x => .bl (rowB x n 9)) (fun _ g => Sub G g) Sub.refl (fun _ _ _ => trivial) (by rw [sizeLine_eq]; simp) (fun i x g K K2 e me r k => ?_) (fun g1 r1 p1 g2 hp1 s1 e1 => ?_)
      · have hx : Tz t g x := (hi x me).sub r
        walk_at "dl"
        refine ⟨t, x, n, rfl, hx, fun g2 s2 => ?_⟩
        cases hc : countsB x n
        · rw [row_no hc] at k
          walk_at "dl"
          exact k _ (r.trans s2)
        · obtain ⟨xs, rfl, hxl, h0⟩ := counts_row hc
          walk_at "dl"
          refine ⟨xs, rfl, by omega, fun m hm top => ?_⟩
          rw [row_max hm top h0 hxl] at k
          walk_at "dl"
          exact k _ (r.trans s2)
      walk_at "dl"
      refine all_of e1 ?_
      have s12 := r1.trans s1
      show (if (!(rowB a n 9 && (rowB b n 9 && true))) = true then _ else _)
      rw [Bool.and_true]
      cases hr : rowB a n 9 && rowB b n 9
      · rw [hr] at q
        walk_at "dl"
        exact q _ s12
      · rw [hr] at q
        have hr2 := hr
        rw [Bool.and_eq_true] at hr2
        obtain ⟨xs, rfl, hx, _, _⟩ := row_ints hr2.1
        obtain ⟨ys, rfl, hy, _, _⟩ := row_ints hr2.2
        rw [hx, hy] at q
        walk_at "dl"
        refine ⟨xs, rfl, ?_⟩
        walk_at "dl"
        refine s_ifB (q _ s12) fun _ q => ?_
        walk_at "dl"
        refine s_neTI ?_
        exact q
    · rw [rule_no h2] at q
      walk_at "dl"
      walk_at "if"
      refine s_yesN (by omega) ?_
      walk_at "dl"
      exact q _ Sub.refl
  · rw [hd] at q
    walk_at "dl"
    walk_at "if"
    refine s_isiTm (T.tm (by decide)) (by decide) ?_
    rw [h]
    walk_at "dl"
    exact q _ Sub.refl
abbrev s_are_sorts : Stmt := top 15
theorem sc_are_sorts : FnScope ["thing", "one"] ["thing"] (defScope s_are_sorts) := ⟨rfl, rfl, rfl, by decide +kernel, rfl, by decide +kernel, by decide +kernel⟩
/- are_sorts : 0 thing, 1 one -/
theorem st_are_sorts (x0 : DV) : start0 2 [x0] = [some x0, none] := rfl
def w_are_sorts : DS := (wSeq (wIfS (wOrT (wNotT (wTst (wCB dIsi (wCons (wVar 0) (wCons (wC (.ty "tuple")) wNil))))) (wNotT (wTst (wChain dLe dLe (wC (.int 1)) (wCB dLen (wCons (wVar 0) wNil)) (wC (.int 8))))))
  (wRet (wC (.bl false)))
  wNext)
  (wRet (wAnd (wCB dAll (wCons (wLc [1] (wiSeq (wVar 0)) (wgName 1) wYes (wCall d_is_name (wCons (wVar 1) wNil))) wNil)) (wOp (dEq false) (wLenSetTG (wVar 0)) (wCB dLen (wCons (wVar 0) wNil))))))

def d_are_sorts : DF := fun ds G Q _ => ∃ (t : Addr) (d : DV), ds = [d] ∧ Tz t G d ∧ ∀ G', Sub G G' → Q (.bl (sortsB d)) G'
theorem len_are_sorts : ∀ ds G Q Y, d_are_sorts ds G Q Y → ds.length = 1 := by
  rintro ds G Q Y ⟨t, d, rfl, _⟩; rfl
theorem ok_are_sorts : ∀ ds G Q Y, d_are_sorts ds G Q Y → w_are_sorts (bodyEnds Q Y) (start0 2 ds) G := by
  rintro ds G Q Y ⟨t, d, rfl, T, q⟩
  rw [st_are_sorts]
  unfold w_are_sorts
  rcases T.isT with ⟨l, rfl, hi, hl⟩ | ⟨h, _, _, _, hd, _⟩
  · have q : ∀ G', Sub G G' → Q (.bl (decide (1 ≤ l.length) && decide (l.length ≤ 8) && (l.all nameD && decide ((l.map strV).Nodup)))) G' := q
    walk_at "dl"
    walk_at "if"
    by_cases h1 : 1 ≤ l.length
    · rw [decide_eq_true h1] at q
      rw [decide_eq_true (by omega : (1 : Int) ≤ (l.length : Nat))]
      walk_at "dl"
      by_cases h2 : l.length ≤ 8
      · rw [decide_eq_true h2] at q
        rw [decide_eq_true (by omega : ((l.length : Nat) : Int) ≤ 8)]
        walk_at "dl"
        obtain ⟨us, rfl⟩ : ∃ us : List DV, l = us.map id := ⟨l, (List.map_id l).symm⟩
        rw [List.length_map] at hl
        refine lcT_map id (fun x => .bl (nameD x)) (fun _ g => Sub G g) Sub.refl (fun _ _ _ => trivial) (Nat.le_trans hl (by rw [sizeLine_eq]; decide)) (fun i x g K K2 e me r k => ?_) (fun g1 r1 p1 g2 hp1 s1 e1 => ?_)
        · have hx : Tz t g x := (hi x (by rw [List.map_id]; exact me)).sub r
          walk_at "dl"
          refine ⟨t, x, rfl, hx, fun g2 s2 => ?_⟩
          walk_at "dl"
          exact k _ (r.trans s2)
        rw [List.map_id] at q ⊢
        have q := q _ (r1.trans s1)
        walk_at "dl"
        refine all_of e1 ?_
        simp only [Bool.true_and] at q
        walk_at "dl"
        refine s_ifB q fun hn q2 => ?_
        clear q
        have es := strs_of hn
        generalize us.map strV = ws at es q2
        subst es
        walk_at "dl"
        refine s_lenSetTG ?_
        walk_at "dl"
        rw [List.length_map] at hl
        refine s_lsTsG (by omega) fun c c1 c2 => ?_
        walk_at "dl"
        rw [List.length_map, show decide ((c : Int) = (ws.length : Nat)) = decide ws.Nodup by rw [decide_eq_decide]; constructor; (intro h; exact c2.mp (by omega)); (intro h; have := c2.mpr h; omega)]
        exact q2
      · rw [decide_eq_false h2] at q
        rw [decide_eq_false (by omega : ¬ ((l.length : Nat) : Int) ≤ 8)]
        walk_at "dl"
        exact q _ Sub.refl
    · rw [decide_eq_false h1] at q
      rw [decide_eq_false (by omega : ¬ (1 : Int) ≤ (l.length : Nat))]
      walk_at "dl"
      exact q _ Sub.refl
  · rw [hd] at q
    walk_at "dl"
    walk_at "if"
    refine s_isiTm (T.tm (by decide)) (by decide) ?_
    rw [h]
    walk_at "dl"
    exact q _ Sub.refl
abbrev s_are_inputs : Stmt := top 16
theorem sc_are_inputs : FnScope ["many", "thing", "one"] ["many", "thing"] (defScope s_are_inputs) := ⟨rfl, rfl, rfl, by decide +kernel, rfl, by decide +kernel, by decide +kernel⟩
/- are_inputs : 0 many, 1 thing, 2 one -/
theorem st_are_inputs (x0 x1 : DV) : start0 3 [x0, x1] = [some x0, some x1, none] := rfl
def w_are_inputs : DS := (wSeq (wIfS (wOrT (wNotT (wTst (wCB dIsi (wCons (wVar 1) (wCons (wC (.ty "tuple")) wNil))))) (wTst (wOp dGt (wCB dLen (wCons (wVar 1) wNil)) (wC (.int 3)))))
  (wRet (wC (.bl false)))
  wNext)
  (wRet (wAnd (wCB dAll (wCons (wLc [2] (wiSeq (wVar 1)) (wgName 2) wYes (wAnd (wCall d_is_whole (wCons (wVar 2) wNil)) (wChain dLe dLt (wC (.int 0)) (wVar 2) (wVar 0)))) wNil)) (wOp (dEq false) (wLenSetTG (wVar 1)) (wCB dLen (wCons (wVar 1) wNil))))))

def d_are_inputs : DF := fun ds G Q _ => ∃ (t : Addr) (d : DV) (n : Int), ds = [.int n, d] ∧ Tz t G d ∧ ∀ G', Sub G G' → Q (.bl (inputsB d n)) G'
theorem len_are_inputs : ∀ ds G Q Y, d_are_inputs ds G Q Y → ds.length = 2 := by
  rintro ds G Q Y ⟨t, d, n, rfl, _⟩; rfl
theorem ok_are_inputs : ∀ ds G Q Y, d_are_inputs ds G Q Y → w_are_inputs (bodyEnds Q Y) (start0 3 ds) G := by
  rintro ds G Q Y ⟨t, d, n, rfl, T, q⟩
  rw [st_are_inputs]
  unfold w_are_inputs
  rcases T.isT with ⟨l, rfl, hi, hl⟩ | ⟨h, _, _, _, _, hd, _⟩
  · have q : ∀ G', Sub G G' → Q (.bl (decide (l.length ≤ 3) && (l.all (fun x => wholeB x 0 (n - 1)) && decide ((l.map intV).Nodup)))) G' := q
    walk_at "dl"
    walk_at "if"
    by_cases h2 : l.length ≤ 3
    · rw [decide_eq_true h2] at q
      refine s_noD (by omega) ?_
      walk_at "dl"
      obtain ⟨us, rfl⟩ : ∃ us : List DV, l = us.map id := ⟨l, (List.map_id l).symm⟩
      rw [List.length_map] at hl
      refine lcT_map id (fun x => .bl (wholeB x 0 (n - 1))) (fun _ g => Sub G g) Sub.refl (fun _ _ _ => trivial) (Nat.le_trans hl (by rw [sizeLine_eq]; decide)) (fun i x g K K2 e me r k => ?_) (fun g1 r1 p1 g2 hp1 s1 e1 => ?_)
      · have hx : Tz t g x := (hi x (by rw [List.map_id]; exact me)).sub r
        walk_at "dl"
        refine ⟨t, x, rfl, hx, ?_⟩
        rcases hx.isN with ⟨i, rfl, _⟩ | ⟨b, rfl⟩ | ⟨_, h1, _, h3⟩
        · have k := k _ r
          simp only [wholeB] at k
          rw [show isI (.int i) = true from rfl]
          dsimp only [id]
          walk_at "dl"
          refine s_ifB (y := decide (i < n)) (by rw [show decide (i < n) = decide (i ≤ n - 1) by rw [decide_eq_decide]; omega]; exact k) fun _ k => ?_
          walk_at "dl"
          exact k
        · walk_at "dl"
          exact k _ r
        · rw [h1]
          rw [h3] at k
          walk_at "dl"
          exact k _ r
      rw [List.map_id] at q ⊢
      have q := q _ (r1.trans s1)
      walk_at "dl"
      refine all_of e1 ?_
      simp only [Bool.true_and] at q
      walk_at "dl"
      refine s_ifB q fun hn q2 => ?_
      clear q
      have es := (ints_of hn).1
      generalize us.map intV = ws at es q2
      subst es
      walk_at "dl"
      refine s_lenSetTG ?_
      walk_at "dl"
      rw [List.length_map] at hl
      refine s_lsTiG (by omega) fun c c1 c2 => ?_
      walk_at "dl"
      rw [List.length_map, show decide ((c : Int) = (ws.length : Nat)) = decide ws.Nodup by rw [decide_eq_decide]; constructor; (intro h; exact c2.mp (by omega)); (intro h; have := c2.mpr h; omega)]
      exact q2
    · rw [decide_eq_false h2] at q
      refine s_yesD (by omega) ?_
      walk_at "dl"
      exact q _ Sub.refl
  · rw [hd] at q
    walk_at "dl"
    walk_at "if"
    refine s_isiTm (T.tm (by decide)) (by decide) ?_
    rw [h]
    walk_at "dl"
    exact q _ Sub.refl
abbrev s_is_pot : Stmt := top 17
theorem sc_is_pot : FnScope ["thing", "sorts", "rules", "inputs", "begin", "answer", "many", "rule"] ["thing"] (defScope s_is_pot) := ⟨rfl, rfl, rfl, by decide +kernel, rfl, by decide +kernel, by decide +kernel⟩
/- is_pot : 0 thing, 1 sorts, 2 rules, 3 inputs, 4 begin, 5 answer, 6 many, 7 rule -/
theorem st_is_pot (x0 : DV) : start0 8 [x0] = [some x0, none, none, none, none, none, none, none] := rfl
def w_is_pot : DS := (wSeq (wIfS (wOrT (wNotT (wTst (wCB dIsi (wCons (wVar 0) (wCons (wC (.ty "tuple")) wNil))))) (wOrT (wTst (wOp (dEq true) (wCB dLen (wCons (wVar 0) wNil)) (wC (.int 5)))) (wNotT (wTst (wCall d_are_sorts (wCons (wOp dIx (wVar 0) (wC (.int 0))) wNil))))))
  (wRet (wC (.bl false)))
  wNext)
  (wSeq (wAsg (wVar 0) (wgTup (wgCons (wgName 1) (wgCons (wgName 2) (wgCons (wgName 3) (wgCons (wgName 4) (wgCons (wgName 5) wgNil)))))))
  (wSeq (wSet 6 (wCB dLen (wCons (wVar 1) wNil)))
  (wSeq (wIfS (wOrT (wNotT (wTst (wCB dIsi (wCons (wVar 2) (wCons (wC (.ty "tuple")) wNil))))) (wOrT (wTst (wOp dGt (wCB dLen (wCons (wVar 2) wNil)) (wC (.int 8)))) (wNotT (wTst (wCB dAll (wCons (wLc [7] (wiSeq (wVar 2)) (wgName 7) wYes (wCall d_is_rule (wCons (wVar 6) (wCons (wVar 7) wNil)))) wNil))))))
  (wRet (wC (.bl false)))
  wNext)
  (wSeq (wIfS (wOrT (wNotT (wTst (wCall d_are_inputs (wCons (wVar 6) (wCons (wVar 3) wNil))))) (wOrT (wNotT (wTst (wCall d_is_counts (wCons (wVar 6) (wCons (wVar 4) wNil))))) (wTst (wOp dGt (wCB dMax (wCons (wVar 4) wNil)) (wC (.int 99))))))
  (wRet (wC (.bl false)))
  wNext)
  (wRet (wAnd (wCall d_is_whole (wCons (wVar 5) wNil)) (wChain dLe dLt (wC (.int 0)) (wVar 5) (wVar 6)))))))))

def d_is_pot : DF := fun ds G Q _ => ∃ (t : Addr) (d : DV), ds = [d] ∧ Tz t G d ∧ ∀ G', Sub G G' → Q (.bl (potB d)) G'
theorem len_is_pot : ∀ ds G Q Y, d_is_pot ds G Q Y → ds.length = 1 := by
  rintro ds G Q Y ⟨t, d, rfl, _⟩; rfl
theorem pot_no {l : List DV} (h : l.length ≠ 5) : potB (.tup l) = false := by
  match l, h with
  | [], _ => rfl
  | [_], _ => rfl
  | [_, _], _ => rfl
  | [_, _, _], _ => rfl
  | [_, _, _, _], _ => rfl
  | [_, _, _, _, _], h => exact absurd rfl h
  | _ :: _ :: _ :: _ :: _ :: _ :: _, _ => rfl
theorem sorts_row {x : DV} (h : sortsB x = true) : ∃ l : List DV, x = .tup l ∧ 1 ≤ l.length ∧ l.length ≤ 8 ∧ (l.all nameD) = true ∧ (l.map strV).Nodup := by
  cases x <;> first | cases h | skip
  rename_i l
  simp only [sortsB, Bool.and_eq_true, decide_eq_true_eq] at h
  exact ⟨l, rfl, h.1.1, h.1.2, h.2.1, h.2.2⟩
theorem ok_is_pot : ∀ ds G Q Y, d_is_pot ds G Q Y → w_is_pot (bodyEnds Q Y) (start0 8 ds) G := by
  rintro ds G Q Y ⟨t, d, rfl, T, q⟩
  rw [st_is_pot]
  unfold w_is_pot
  rcases T.isT with ⟨l, rfl, hi, hl⟩ | ⟨h, _, _, _, _, _, _, hd⟩
  · by_cases h2 : l.length = 5
    · obtain ⟨s, r, i, b, a, rfl⟩ : ∃ s r i b a, l = [s, r, i, b, a] := by
        match l, h2 with
        | [s, r, i, b, a], _ => exact ⟨s, r, i, b, a, rfl⟩
      have Ts : Tz t G s := hi s (by simp)
      have Tr : Tz t G r := hi r (by simp)
      have Ti : Tz t G i := hi i (by simp)
      have Tb : Tz t G b := hi b (by simp)
      have Ta : Tz t G a := hi a (by simp)
      have q : ∀ G', Sub G G' → Q (.bl (sortsB s && (rulesB r (lenD' s) && (inputsB i (lenD' s) && (rowB b (lenD' s) 99 && wholeB a 0 (lenD' s - 1)))))) G' := q
      walk_at "dl"
      walk_at "if"
      refine s_noN rfl ?_
      walk_at "dl"
      refine ⟨t, s, rfl, Ts, fun g1 s1 => ?_⟩
      cases hs : sortsB s
      · rw [hs] at q
        walk_at "dl"
        exact q _ s1
      · rw [hs] at q
        simp only [Bool.true_and] at q
        obtain ⟨ls, rfl, n1, n8, _, _⟩ := sorts_row hs
        have q : ∀ G', Sub G G' → Q (.bl (rulesB r (ls.length : Nat) && (inputsB i (ls.length : Nat) && (rowB b (ls.length : Nat) 99 && wholeB a 0 ((ls.length : Nat) - 1))))) G' := q
        walk_at "dl"
        rcases Tr.isT with ⟨lr, rfl, hir, hlr⟩ | ⟨h, _, _, _, _, _, hdr, _⟩
        · have q : ∀ G', Sub G G' → Q (.bl ((decide (lr.length ≤ 8) && lr.all fun x => ruleB x (ls.length : Nat)) && (inputsB i (ls.length : Nat) && (rowB b (ls.length : Nat) 99 && wholeB a 0 ((ls.length : Nat) - 1))))) G' := q
          walk_at "if"
          by_cases h8 : lr.length ≤ 8
          · rw [decide_eq_true h8] at q
            simp only [Bool.true_and] at q
            refine s_noD (by omega) ?_
            walk_at "dl"
            obtain ⟨us, rfl⟩ : ∃ us : List DV, lr = us.map id := ⟨lr, (List.map_id lr).symm⟩
            rw [List.length_map] at hlr
            refine lcT_map id (fun x => .bl (ruleB x (ls.length : Nat))) (fun _ g => Sub G g) s1 (fun _ _ _ => trivial) (Nat.le_trans hlr (by rw [sizeLine_eq]; decide)) (fun j x g K K2 e me r k => ?_) (fun g2 r1 p1 g3 hp1 s3 e1 => ?_)
            · have hx : Tz t g x := (hir x (by rw [List.map_id]; exact me)).sub r
              walk_at "dl"
              refine ⟨t, x, _, rfl, hx, by omega, fun g2 s2 => ?_⟩
              walk_at "dl"
              exact k _ (r.trans s2)
            rw [List.map_id] at q ⊢
            have s03 := r1.trans s3
            walk_at "dl"
            refine all_of e1 ?_
            cases hr : us.all fun x => ruleB x (ls.length : Nat)
            · rw [hr] at q
              walk_at "dl"
              exact q _ s03
            · rw [hr] at q
              simp only [Bool.true_and] at q
              walk_at "dl"
              walk_at "if"
              refine ⟨t, i, _, rfl, Ti.sub s03, fun g4 s4 => ?_⟩
              cases hin : inputsB i (ls.length : Nat)
              · rw [hin] at q
                walk_at "dl"
                exact q _ (s03.trans s4)
              · rw [hin] at q
                simp only [Bool.true_and] at q
                walk_at "dl"
                refine ⟨t, b, _, rfl, Tb.sub (s03.trans s4), fun g5 s5 => ?_⟩
                have s05 := s03.trans (s4.trans s5)
                cases hb : countsB b (ls.length : Nat)
                · rw [row_no hb] at q
                  walk_at "dl"
                  exact q _ s05
                · obtain ⟨xs, rfl, hxl, h0⟩ := counts_row hb
                  walk_at "dl"
                  refine ⟨xs, rfl, by omega, fun m hm top => ?_⟩
                  rw [row_max hm top h0 hxl] at q
                  walk_at "dl"
                  by_cases h99 : m ≤ 99
                  · rw [decide_eq_true h99] at q
                    simp only [Bool.true_and] at q
                    refine s_noD (by omega) ?_
                    walk_at "dl"
                    refine ⟨t, a, rfl, Ta.sub s05, ?_⟩
                    rcases Ta.isN with ⟨k, rfl, _⟩ | ⟨bb, rfl⟩ | ⟨_, h1, _, h3⟩
                    · have q := q _ s05
                      simp only [wholeB] at q
                      rw [show isI (.int k) = true from rfl]
                      walk_at "dl"
                      refine s_ifB (y := decide (k < (ls.length : Nat))) (by rw [show decide (k < (ls.length : Nat)) = decide (k ≤ (ls.length : Nat) - 1) by rw [decide_eq_decide]; omega]; exact q) fun _ q => ?_
                      walk_at "dl"
                      exact q
                    · walk_at "dl"
                      exact q _ s05
                    · rw [h1]
                      rw [h3] at q
                      walk_at "dl"
                      exact q _ s05
                  · rw [decide_eq_false h99] at q
                    refine s_yesD (by omega) ?_
                    walk_at "dl"
                    exact q _ s05
          · rw [decide_eq_false h8] at q
            refine s_yesD (by omega) ?_
            walk_at "dl"
            exact q _ s1
        · rw [hdr] at q
          walk_at "if"
          refine s_isiTm ((Tr.sub s1).tm (by decide)) (by decide) ?_
          rw [h]
          walk_at "dl"
          exact q _ s1
    · rw [pot_no h2] at q
      walk_at "dl"
      walk_at "if"
      refine s_yesN (by omega) ?_
      walk_at "dl"
      exact q _ Sub.refl
  · rw [hd] at q
    walk_at "dl"
    walk_at "if"
    refine s_isiTm (T.tm (by decide)) (by decide) ?_
    rw [h]
    walk_at "dl"
    exact q _ Sub.refl

abbrev s_law_odd : Stmt := top 24
theorem sc_law_odd : FnScope ["_law_feed_here", "_law_thing", "_law_some"] ["_law_feed_here", "_law_thing"] (defScope s_law_odd) := ⟨rfl, rfl, rfl, by decide +kernel, rfl, by decide +kernel, by decide +kernel⟩
/- law_odd : 0 _law_feed_here, 1 _law_thing, 2 _law_some -/
theorem st_law_odd (x0 x1 : DV) : start0 3 [x0, x1] = [some x0, some x1, none] := rfl
def w_law_odd : DS := (wSeq (wSet 2 (wLst (wCons (wC .non) (wCons (wC (.bl true)) (wCons (wC (.bl false)) (wCons (wC (.int 0)) (wCons (wC (.int 1)) (wCons (wNeg (wC (.int 1))) (wCons (wC (.int 9)) (wCons (wC (.int 10)) (wCons (wC (.int 99)) (wCons (wC (.int 100)) (wCons (wC (.int 8)) (wCons (wC (.int 3)) (wCons (wC (.str "")) (wCons (wC (.str "a")) (wCons (wC (.str "to")) (wCons (wC (.str "sorts")) (wCons (wC (.str "A")) (wCons (wC (.str "a1")) (wCons (wC (.str "abcdefghi")) (wCons (wTup wNil) (wCons (wLst wNil) wNil)))))))))))))))))))))))
  (wSeq (wSet 2 (wOp dAdd (wVar 2) (wLst (wCons wDnew (wCons (wTup (wCons (wC (.int 0)) wNil)) (wCons (wTup (wCons (wC (.int 1)) wNil)) (wCons (wTup (wCons (wC (.int 0)) (wCons (wC (.int 0)) wNil))) (wCons (wTup (wCons (wC (.str "a")) wNil)) (wCons (wLst (wCons (wC (.str "a")) wNil)) (wCons (wTup (wCons (wC (.str "a")) (wCons (wC (.str "a")) wNil))) (wCons (wTup (wCons (wTup (wCons (wC (.int 1)) wNil)) (wCons (wTup (wCons (wC (.int 0)) wNil)) wNil))) (wCons (wTup (wCons (wTup (wCons (wC (.int 0)) wNil)) (wCons (wTup (wCons (wC (.int 1)) wNil)) wNil))) (wCons (wOp dPow (wC (.int 10)) (wC (.int 39))) (wCons (wC (.str "zz")) wNil))))))))))))))
  (wSeq (wIfS (wTst (wCB dIsi (wCons (wVar 1) (wCons (wC (.ty "tuple")) wNil))))
  (wSet 2 (wOp dAdd (wVar 2) (wLst (wCons (wCB dList (wCons (wVar 1) wNil)) (wCons (wOp dAdd (wVar 1) (wTup (wCons (wC (.int 0)) wNil))) (wCons (wSl dSl (wVar 1) wNoPart (wPart (wNeg (wC (.int 1))))) (wCons (wOp dAdd (wVar 1) (wSl dSl (wVar 1) wNoPart (wPart (wC (.int 1))))) (wCons (wSl dSl (wVar 1) (wPart (wC (.int 1))) wNoPart) (wCons (wRev (wVar 1)) (wCons (wOp dMulA (wVar 1) (wC (.int 2))) wNil))))))))))
  wNext)
  (wRet (wOp dIx (wVar 2) (wCall d_law_draw (wCons (wVar 0) (wCons (wCB dLen (wCons (wVar 2) wNil)) wNil))))))))

theorem cut_sub {l : List DV} {lo hi : Option Int} : (∀ x ∈ cutL l lo hi, x ∈ l) ∧ (cutL l lo hi).length ≤ l.length := by
  unfold cutL
  refine ⟨fun x hx => List.mem_of_mem_drop (List.mem_of_mem_take hx), ?_⟩
  rw [List.length_take, List.length_drop]
  omega
theorem Tq.i {t u : Addr} {G : Gh} {L : Nat} {x : Int} (h : x.natAbs ≤ 1000000000) : Tq t u G L (.int x) := .int x (Nat.le_trans h (by decide +kernel))
theorem Tq.cut {t u : Addr} {G : Gh} {L : Nat} {l : List DV} {lo hi : Option Int} (h : ∀ x ∈ l, Tq t u G L x) (hl : l.length ≤ L) : Tq t u G L (.tup (cutL l lo hi)) := .tup (fun x hx => h x (cut_sub.1 x hx)) (Nat.le_trans cut_sub.2 hl)
theorem Tq.one {t u : Addr} {G : Gh} {L : Nat} {x : DV} (h : Tq t u G (2 * L + 2) x) : Tq t u G (2 * L + 2) (.tup [x]) := .tup (fun y hy => by rw [List.mem_singleton.mp hy]; exact h) (by simp)
theorem Tq.two {t u : Addr} {G : Gh} {L : Nat} {x y : DV} (h : Tq t u G (2 * L + 2) x) (k : Tq t u G (2 * L + 2) y) : Tq t u G (2 * L + 2) (.tup [x, y]) := .tup (fun z hz => by
  rcases List.mem_cons.mp hz with rfl | hz
  · exact h
  · rw [List.mem_singleton.mp hz]; exact k) (by simp)
theorem Tq.nil {t u : Addr} {G : Gh} {L : Nat} : Tq t u G L (.tup []) := .tup (fun y hy => nomatch hy) (Nat.zero_le _)
def d_law_odd : DF := fun ds G Q _ => ∃ (t u : Addr) (n L : Nat) (d : DV), ds = [.ref t, d] ∧ FeedA G t n ∧ (∃ c, G u = some c) ∧ n ≤ 900000000000 ∧ Tq t u G L d ∧ 2 ≤ L ∧ L ≤ 400 ∧ ∀ d' G', Tq t u G' (2 * L + 2) d' → FeedA G' t (n + 1) → Old t G G' → Q d' G'
theorem len_law_odd : ∀ ds G Q Y, d_law_odd ds G Q Y → ds.length = 2 := by
  rintro ds G Q Y ⟨t, u, n, L, d, rfl, _⟩; rfl
theorem ok_law_odd : ∀ ds G Q Y, d_law_odd ds G Q Y → w_law_odd (bodyEnds Q Y) (start0 3 ds) G := by
  rintro ds G Q Y ⟨t, u, n, L, d, rfl, tp, ⟨cu, hu⟩, hn, T, l2, l400, q⟩
  rw [st_law_odd]
  unfold w_law_odd
  walk_at "dl"
  intro p1 g1 hp1 s1 e1
  walk_at "dl"
  intro p2 g2 hp2 s2 e2
  have n1 := tp.ne1 hp1
  have m1 : p1 ≠ u := (ne_gone hu hp1).symm
  have tp2 := (tp.sub s1).sub s2
  have n2 := (tp.sub s1).ne1 hp2
  have e1 := s2 _ _ e1
  walk_at "dl"
  intro p3 g3 hp3 s3 e3
  walk_at "dl"
  intro p4 g4 hp4 s4 e4
  walk_at "dl"
  intro p5 g5 hp5 s5 e5
  have n3 := tp2.ne1 hp3
  have hu2 := s2 _ _ (s1 _ _ hu)
  have m3 : p3 ≠ u := (ne_gone hu2 hp3).symm
  have m4 : p4 ≠ u := (ne_gone (s3 _ _ hu2) hp4).symm
  have tp3 := tp2.sub s3
  have n4 := tp3.ne1 hp4
  have tp4 := tp3.sub s4
  have n5 := tp4.ne1 hp5
  have tp5 := tp4.sub s5
  have s35 := s3.trans (s4.trans s5)
  have e1 := s35 _ _ e1
  have e2 := s35 _ _ e2
  have e3 := s5 _ _ (s4 _ _ e3)
  have e4 := s5 _ _ e4
  refine x_addL e2 e5 (by rw [sizeLine_eq]; simp) fun p6 g6 hp6 s6 e6 => ?_
  have n6 := tp5.ne1 hp6
  have tp6 := tp5.sub s6
  have e1 := s6 _ _ e1
  have e3 := s6 _ _ e3
  have e4 := s6 _ _ e4
  have S6 := s1.trans (s2.trans (s35.trans s6))
  obtain ⟨M, hM, lM, aM⟩ : ∃ M : List DV, g6 p6 = some (.lst M) ∧ (M.length ≤ 100 ∧ 1 ≤ M.length) ∧ ∀ x ∈ M, Tq t u g6 (2 * L + 2) x := by
    refine ⟨_, e6, by constructor <;> simp, fun x hx => ?_⟩
    simp only [List.cons_append, List.nil_append, List.mem_cons, List.not_mem_nil, or_false] at hx
    repeat' (rcases hx with rfl | hx)
    all_goals (try subst hx)
    all_goals first
      | exact .non
      | exact .bl _
      | exact .i (by decide)
      | exact .str _ (by decide +kernel)
      | exact .nil
      | exact .lst e1 n1 m1
      | exact .lst e4 n4 m4
      | exact .dic e3 n3 m3
      | exact .one (.i (by decide))
      | exact .one (.str _ (by decide +kernel))
      | exact .two (.i (by decide)) (.i (by decide))
      | exact .two (.str _ (by decide +kernel)) (.str _ (by decide +kernel))
      | exact .two (.one (.i (by decide))) (.one (.i (by decide)))
      | exact .int _ (by decide +kernel)
  clear e6 e5 e2
  walk_at "dl"
  refine s_join (fun e g => ∃ (pm : Addr) (M : List DV), FeedA g t n ∧ Old t G g ∧ (∀ x ∈ M, Tq t u g (2 * L + 2) x) ∧ (M.length ≤ 110 ∧ 1 ≤ M.length) ∧ pm ≠ t ∧ g pm = some (.lst M) ∧ e = [some (.ref t), some d, some (.ref pm)]) (fun K hK => ?_) ?_
  · rcases T.isT with ⟨l, rfl, hi, hl⟩ | ⟨h, _⟩
    · walk_at "dl"
      walk_at "if"
      intro p7 g7 hp7 s7 e7
      walk_at "dl"
      refine s_addT (by rw [sizeLine_eq]; simp; omega) ?_
      walk_at "dl"
      refine s_addT (by rw [sizeLine_eq]; have := (cut_sub (l := l) (lo := none) (hi := some 1)).2; omega) ?_
      walk_at "dl"
      refine s_mulT ⟨by decide, by decide, by omega⟩ ?_
      walk_at "dl"
      intro p8 g8 hp8 s8 e8
      have hM := s8 _ _ (s7 _ _ hM)
      refine x_addL hM e8 (by rw [sizeLine_eq]; simp; omega) fun p9 g9 hp9 s9 e9 => ?_
      have s79 := s7.trans (s8.trans s9)
      have n7 := tp6.ne1 hp7
      have m7 : p7 ≠ u := (ne_gone (S6 _ _ hu) hp7).symm
      have n9 := ((tp6.sub s7).sub s8).ne1 hp9
      have e7 := s9 _ _ (s8 _ _ e7)
      have hi9 : ∀ x ∈ l, Tq t u g9 (2 * L + 2) x := fun x hx => ((hi x hx).sub (S6.trans s79)).mono (by omega)
      have er : (List.replicate (Int.toNat 2) l).flatten = l ++ l := by simp [show Int.toNat 2 = 2 from rfl, List.replicate]
      rw [er] at e9
      have happ : ∀ {a b : List DV}, (∀ x ∈ a, Tq t u g9 (2 * L + 2) x) → (∀ x ∈ b, Tq t u g9 (2 * L + 2) x) → ∀ x ∈ a ++ b, Tq t u g9 (2 * L + 2) x := fun ha hb x hx => by
        rcases List.mem_append.mp hx with hx | hx
        · exact ha x hx
        · exact hb x hx
      walk_at "dl"
      refine hK _ _ ⟨p9, _, tp6.sub s79, (S6.trans s79).old, happ (fun x hx => (aM x hx).sub s79) (fun x hx => ?_), ?_, n9, e9, rfl⟩
      · have cl := fun lo hi => (cut_sub (l := l) (lo := lo) (hi := hi)).2
        have ci := fun lo hi => (cut_sub (l := l) (lo := lo) (hi := hi)).1
        simp only [List.mem_cons, List.not_mem_nil, or_false] at hx
        rcases hx with rfl | rfl | rfl | rfl | rfl | rfl | rfl
        · exact .lst e7 n7 m7
        · exact .tup (happ hi9 fun x hx => by rw [List.mem_singleton.mp hx]; exact .i (by decide)) (by rw [List.length_append, List.length_singleton]; omega)
        · exact .tup (fun x hx => hi9 x (ci _ _ x hx)) (by have := cl none (some (-1)); omega)
        · exact .tup (happ hi9 fun x hx => hi9 x (ci _ _ x hx)) (by rw [List.length_append]; have := cl none (some 1); omega)
        · exact .tup (fun x hx => hi9 x (ci _ _ x hx)) (by have := cl (some 1) none; omega)
        · exact .tup (fun x hx => hi9 x (List.mem_reverse.mp hx)) (by rw [List.length_reverse]; omega)
        · exact .tup (happ hi9 hi9) (by rw [List.length_append]; omega)
      · rw [List.length_append]
        constructor
        · simp only [List.length_cons, List.length_nil]; omega
        · omega
    · walk_at "dl"
      walk_at "if"
      refine s_isiTm ((T.sub S6).tm (by omega)) (by decide) ?_
      rw [h]
      walk_at "dl"
      exact hK _ _ ⟨p6, M, tp6, S6.old, aM, ⟨by omega, lM.2⟩, n6, hM, rfl⟩
  · rintro e g ⟨pm, M, tpg, og, aM, lM, npm, eM, rfl⟩
    walk_at "dl"
    refine ⟨t, (M.length : Int), n, rfl, tpg, by omega, by omega, by omega, fun v g2 v0 v1 tp2 o2 => ?_⟩
    obtain ⟨x, hx, hx2⟩ := atI_lt (l := M) v0 v1
    walk_at "dl"
    refine s_ixL (o2 _ _ npm eM) hx ?_
    exact q x g2 ((aM x (List.mem_of_getElem? hx2)).old o2) tp2 (og.trans o2)
abbrev s_law_bent : Stmt := top 25
theorem sc_law_bent : FnScope ["_law_feed_here", "_law_thing", "_law_deep", "_law_k"] ["_law_feed_here", "_law_thing", "_law_deep"] (defScope s_law_bent) := ⟨rfl, rfl, rfl, by decide +kernel, rfl, by decide +kernel, by decide +kernel⟩
/- law_bent : 0 _law_feed_here, 1 _law_thing, 2 _law_deep, 3 _law_k -/
theorem st_law_bent (x0 x1 x2 : DV) : start0 4 [x0, x1, x2] = [some x0, some x1, some x2, none] := rfl
def w_law_bent (self : DF) : DS := (wSeq (wIfS (wAndT (wTst (wCB dIsi (wCons (wVar 1) (wCons (wC (.ty "tuple")) wNil)))) (wAndT (wTst (wOp dGt (wCB dLen (wCons (wVar 1) wNil)) (wC (.int 0)))) (wAndT (wTst (wOp dLt (wVar 2) (wC (.int 6)))) (wTst (wOp dGt (wCall d_law_draw (wCons (wVar 0) (wCons (wC (.int 4)) wNil))) (wC (.int 0)))))))
  (wSeq (wSet 3 (wCall d_law_draw (wCons (wVar 0) (wCons (wCB dLen (wCons (wVar 1) wNil)) wNil))))
  (wRet (wOp dAdd (wOp dAdd (wSl dSl (wVar 1) wNoPart (wPart (wVar 3))) (wTup (wCons (wCall self (wCons (wVar 0) (wCons (wOp dIx (wVar 1) (wVar 3)) (wCons (wOp dAdd (wVar 2) (wC (.int 1))) wNil)))) wNil))) (wSl dSl (wVar 1) (wPart (wOp dAdd (wVar 3) (wC (.int 1)))) wNoPart))))
  wNext)
  (wRet (wCall d_law_odd (wCons (wVar 0) (wCons (wVar 1) wNil)))))

def r_law_bent (k : Nat) : DF := fun ds G Q _ => ∃ (t u : Addr) (n L : Nat) (d : DV) (j : Nat), ds = [.ref t, d, .int (j : Nat)] ∧ FeedA G t n ∧ (∃ c, G u = some c) ∧ u ≠ t ∧ n + 10 * k ≤ 800000000000 ∧ Tq t u G L d ∧ 2 ≤ L ∧ L ≤ 400 ∧ j ≤ 6 ∧ 6 < j + k ∧ ∀ d' G', Tq t u G' (2 * L + 2) d' → FeedA G' t (n + 10 * k) → Old t G G' → Q d' G'
theorem len_law_bent : ∀ n ds G Q Y, r_law_bent (n + 1) ds G Q Y → ds.length = 3 := by
  rintro k ds G Q Y ⟨t, u, n, L, d, j, rfl, _⟩; rfl
abbrev d_law_bent : DF := r_law_bent 8
theorem no_law_bent : ∀ ds G Q Y, r_law_bent 0 ds G Q Y → False := by
  rintro ds G Q Y ⟨t, u, n, L, d, j, _, _, _, _, _, _, _, _, h1, h2, _⟩; omega
theorem ok_law_bent : ∀ n ds G Q Y, r_law_bent (n + 1) ds G Q Y → w_law_bent (r_law_bent n) (bodyEnds Q Y) (start0 4 ds) G := by
  rintro k ds G Q Y ⟨t, u, n, L, d, j, rfl, tp, ⟨cu, hu⟩, nu, hn, T, l2, l400, j6, jk, q⟩
  rw [st_law_bent]
  unfold w_law_bent
  have fin : ∀ G1 (n1 : Nat), FeedA G1 t n1 → n1 + 1 ≤ n + 10 * (k + 1) → Old t G G1 → d_law_odd [.ref t, d] G1 (bodyEnds Q Y).rt Y := fun G1 n1 h1 h2 h3 =>
    ⟨t, u, n1, L, d, rfl, h1, ⟨cu, h3 _ _ nu hu⟩, by omega, T.old h3, l2, l400, fun d G2 hd h4 h5 => q d G2 hd (h4.mono (by omega)) (h3.trans h5)⟩
  rcases T.isT with ⟨l, rfl, hi, hl⟩ | ⟨h, _⟩
  · walk_at "dl"
    walk_at "if"
    refine s_ite (fun h0 => ?_) (fun h0 => ?_)
    · walk_at "dl"
      refine s_ite (fun h6 => ?_) (fun h6 => ?_)
      · walk_at "dl"
        refine ⟨t, 4, n, rfl, tp, by omega, by decide, by decide, fun v g1 v0 v1 tp1 o1 => ?_⟩
        walk_at "dl"
        refine s_ite (fun hv => ?_) (fun hv => ?_)
        · walk_at "dl"
          refine ⟨t, (l.length : Int), _, rfl, tp1, by omega, by omega, by omega, fun w g2 w0 w1 tp2 o2 => ?_⟩
          obtain ⟨w, rfl⟩ := Int.eq_ofNat_of_zero_le w0
          have hw : w < l.length := by omega
          walk_at "dl"
          refine s_ixT (L2.atI_nat (j := w) (List.getElem?_eq_getElem hw)) ?_
          walk_at "dl"
          have o12 := o1.trans o2
          refine ⟨t, u, _, L, l[w], j + 1, by rw [Int.natCast_add]; rfl, tp2, ⟨cu, o12 _ _ nu hu⟩, nu, by omega, (hi _ (List.getElem_mem hw)).old o12, l2, l400, by omega, by omega, fun d' g3 T3 tp3 o3 => ?_⟩
          walk_at "dl"
          have c1 : cutL l none (some (w : Int)) = l.take w := by rw [cut_to (by omega)]; rfl
          have c3 : cutL l (some ((w : Int) + 1)) none = l.drop (w + 1) := by rw [cut_from (by omega)]; rfl
          rw [c1]
          refine s_addT (by rw [List.length_take, List.length_singleton, sizeLine_eq]; omega) ?_
          walk_at "dl"
          rw [c3]
          refine s_addT (by rw [List.length_append, List.length_take, List.length_drop, List.length_singleton, sizeLine_eq]; omega) ?_
          have o13 := o12.trans o3
          refine q _ g3 (.tup (fun x hx => ?_) (by rw [List.length_append, List.length_append, List.length_take, List.length_drop, List.length_singleton]; omega)) (tp3.mono (by omega)) o13
          rcases List.mem_append.mp hx with hx | hx
          · rcases List.mem_append.mp hx with hx | hx
            · exact ((hi x (List.mem_of_mem_take hx)).old o13).mono (by omega)
            · rw [List.mem_singleton.mp hx]; exact T3
          · exact ((hi x (List.mem_of_mem_drop hx)).old o13).mono (by omega)
        · walk_at "dl"
          exact fin _ _ tp1 (by omega) o1
      · walk_at "dl"
        exact fin _ _ tp (by omega) Old.refl
    · walk_at "dl"
      exact fin _ _ tp (by omega) Old.refl
  · walk_at "dl"
    walk_at "if"
    refine s_isiTm (T.tm (by omega)) (by decide) ?_
    rw [h]
    walk_at "dl"
    exact fin _ _ tp (by omega) Old.refl

abbrev s_law_whole : Stmt := top 26
theorem sc_law_whole : FnScope ["_law_thing", "_law_least", "_law_most"] ["_law_thing", "_law_least", "_law_most"] (defScope s_law_whole) := ⟨rfl, rfl, rfl, by decide +kernel, rfl, by decide +kernel, by decide +kernel⟩
/- law_whole : 0 _law_thing, 1 _law_least, 2 _law_most -/
theorem st_law_whole (x0 x1 x2 : DV) : start0 3 [x0, x1, x2] = [some x0, some x1, some x2] := rfl
def w_law_whole : DS := (wRet (wAnd (wCB dIsi (wCons (wVar 0) (wCons (wC (.ty "int")) wNil))) (wAnd (wNot (wCB dIsi (wCons (wVar 0) (wCons (wC (.ty "bool")) wNil)))) (wChain dLe dLe (wVar 1) (wVar 0) (wVar 2)))))

def d_law_whole : DF := fun ds G Q _ => ∃ (t : Addr) (d : DV) (lo hi : Int), ds = [d, .int lo, .int hi] ∧ Tz t G d ∧ Q (.bl (wholeB d lo hi)) G
theorem len_law_whole : ∀ ds G Q Y, d_law_whole ds G Q Y → ds.length = 3 := by
  rintro ds G Q Y ⟨t, d, lo, hi, rfl, _⟩; rfl
theorem ok_law_whole : ∀ ds G Q Y, d_law_whole ds G Q Y → w_law_whole (bodyEnds Q Y) (start0 3 ds) G := by
  rintro ds G Q Y ⟨t, d, lo, hi, rfl, T, q⟩
  rw [st_law_whole]
  unfold w_law_whole
  rcases T.isN with ⟨i, rfl, _⟩ | ⟨b, rfl⟩ | ⟨h, _, _, h3⟩
  · simp only [wholeB] at q
    walk_at "dl"
    refine s_ifB q fun _ q => ?_
    walk_at "dl"
    exact q
  · walk_at "dl"
    exact q
  · rw [h3] at q
    walk_at "dl"
    refine s_isiTm (T.tm (by decide)) (by decide) ?_
    rw [h]
    walk_at "dl"
    exact q
abbrev s_law_is_name : Stmt := top 27
theorem sc_law_is_name : FnScope ["_law_thing", "_law_sign"] ["_law_thing"] (defScope s_law_is_name) := ⟨rfl, rfl, rfl, by decide +kernel, rfl, by decide +kernel, by decide +kernel⟩
/- law_is_name : 0 _law_thing, 1 _law_sign -/
theorem st_law_is_name (x0 : DV) : start0 2 [x0] = [some x0, none] := rfl
def w_law_is_name : DS := (wSeq (wIfS (wOrT (wNotT (wTst (wCB dIsi (wCons (wVar 0) (wCons (wC (.ty "str")) wNil))))) (wTst (wOp (dIn false) (wVar 0) (wLst (wCons (wC (.str "sorts")) (wCons (wC (.str "begin")) (wCons (wC (.str "in")) (wCons (wC (.str "out")) (wCons (wC (.str "rule")) (wCons (wC (.str "to")) wNil))))))))))
  (wRet (wC (.bl false)))
  wNext)
  (wRet (wAnd (wChain dLt dLt (wC (.int 0)) (wCB dLen (wCons (wVar 0) wNil)) (wC (.int 9))) (wOp (dEqNil false) (wLc [1] (wiSeq (wVar 0)) (wgName 1) (wTst (wOp (dIn true) (wVar 1) (wC (.str "abcdefghijklmnopqrstuvwxyz")))) (wVar 1)) (wLst wNil)))))

def d_law_is_name : DF := fun ds G Q _ => ∃ (t : Addr) (d : DV), ds = [d] ∧ Tz t G d ∧ ∀ G', Sub G G' → Q (.bl (nameD d)) G'
theorem len_law_is_name : ∀ ds G Q Y, d_law_is_name ds G Q Y → ds.length = 1 := by
  rintro ds G Q Y ⟨t, d, rfl, _⟩; rfl
theorem filt_no {α : Type} {f : α → Bool} : ∀ l : List α, (l.filter fun x => !f x).isEmpty = l.all f
  | [] => rfl
  | x :: l => by
    rw [List.filter_cons, List.all_cons, ← filt_no l]
    cases f x <;> rfl
theorem ok_law_is_name : ∀ ds G Q Y, d_law_is_name ds G Q Y → w_law_is_name (bodyEnds Q Y) (start0 2 ds) G := by
  rintro ds G Q Y ⟨t, d, rfl, T, q⟩
  rw [st_law_is_name]
  unfold w_law_is_name
  rcases T.isS with ⟨w, rfl, hw⟩ | ⟨h, hd⟩
  · have q : ∀ G', Sub G G' → Q (.bl (nameT w)) G' := q
    have hlf : w.length = w.cps.toList.length := len_tl w
    unfold nameT at q
    walk_at "dl"
    walk_at "if"
    intro p1 g1 hp1 s1 e1
    walk_at "dl"
    refine s_inL e1 rfl rfl ?_
    rw [any_keyQ]
    walk_at "dl"
    by_cases h3 : w ∈ keyQ
    · rw [decide_eq_true h3] at q ⊢
      simp only [Bool.not_true, Bool.and_false, Bool.false_and] at q
      walk_at "dl"
      exact q _ s1
    · rw [decide_eq_false h3] at q ⊢
      simp only [Bool.not_false, Bool.and_true] at q
      walk_at "dl"
      refine s_lenS (by rw [sizeLine_eq]; omega) ?_
      walk_at "dl"
      by_cases h1 : 1 ≤ w.length
      · rw [decide_eq_true h1] at q
        rw [decide_eq_true (by omega : (0 : Int) < (w.length : Nat))]
        walk_at "dl"
        by_cases h2 : w.length ≤ 8
        · rw [decide_eq_true h2] at q
          simp only [Bool.true_and] at q
          rw [decide_eq_true (by omega : ((w.length : Nat) : Int) < 9)]
          walk_at "dl"
          refine lcT_filter (fun c : Nat => .str ⟨#[c]⟩) (fun c : Nat => .str ⟨#[c]⟩) (fun c => !decide (c ∈ letsT.cps.toList)) (fun _ g' => Sub G g') s1 (fun _ _ _ => trivial) (by rw [← hlf, sizeLine_eq]; omega) (fun i c g1 K K2 e me r' k1 k2 => ?_) (fun g2 r2 p2 g3 hp2 s3 e3 => ?_)
          · walk_at "dl"
            refine ⟨c, rfl, ?_⟩
            rw [Bool.true_xor]
            walk_at "dl"
            cases hc : decide (c ∈ letsT.cps.toList)
            · rw [show decide (c ∈ ("abcdefghijklmnopqrstuvwxyz" : Str).cps.toList) = false from hc, if_pos (show (!false) = true from rfl)]
              walk_at "dl"
              exact k1 (by rw [hc]; rfl) _ r'
            · rw [show decide (c ∈ ("abcdefghijklmnopqrstuvwxyz" : Str).cps.toList) = true from hc, if_neg (by decide)]
              exact k2 (by rw [hc]; rfl) _ r'
          walk_at "dl"
          intro p4 g4 hp4 s4 e4
          have e3 := s4 _ _ e3
          walk_at "dl"
          rw [List.isEmpty_map, filt_no]
          exact q _ (r2.trans (s3.trans s4))
        · rw [decide_eq_false h2] at q
          rw [decide_eq_false (by omega : ¬ ((w.length : Nat) : Int) < 9)]
          walk_at "dl"
          exact q _ s1
      · rw [decide_eq_false h1] at q
        rw [decide_eq_false (by omega : ¬ (0 : Int) < (w.length : Nat))]
        walk_at "dl"
        exact q _ s1
  · rw [hd] at q
    walk_at "dl"
    walk_at "if"
    refine s_isiTm (T.tm (by decide)) (by decide) ?_
    rw [h]
    walk_at "dl"
    exact q _ Sub.refl
abbrev s_law_is_row : Stmt := top 28
theorem sc_law_is_row : FnScope ["_law_thing", "_law_many", "_law_most", "_law_one"] ["_law_thing", "_law_many", "_law_most"] (defScope s_law_is_row) := ⟨rfl, rfl, rfl, by decide +kernel, rfl, by decide +kernel, by decide +kernel⟩
/- law_is_row : 0 _law_thing, 1 _law_many, 2 _law_most, 3 _law_one -/
theorem st_law_is_row (x0 x1 x2 : DV) : start0 4 [x0, x1, x2] = [some x0, some x1, some x2, none] := rfl
def w_law_is_row : DS := (wSeq (wIfS (wOrT (wNotT (wTst (wCB dIsi (wCons (wVar 0) (wCons (wC (.ty "tuple")) wNil))))) (wTst (wOp (dEq true) (wCB dLen (wCons (wVar 0) wNil)) (wVar 1))))
  (wRet (wC (.bl false)))
  wNext)
  (wRet (wOp (dEqNil false) (wLc [3] (wiSeq (wVar 0)) (wgName 3) (wNotT (wTst (wCall d_law_whole (wCons (wVar 3) (wCons (wC (.int 0)) (wCons (wVar 2) wNil)))))) (wVar 3)) (wLst wNil))))

def d_law_is_row : DF := fun ds G Q _ => ∃ (t : Addr) (d : DV) (n hi : Int), ds = [d, .int n, .int hi] ∧ Tz t G d ∧ ∀ G', Sub G G' → Q (.bl (rowB d n hi)) G'
theorem len_law_is_row : ∀ ds G Q Y, d_law_is_row ds G Q Y → ds.length = 3 := by
  rintro ds G Q Y ⟨t, d, n, hi, rfl, _⟩; rfl
theorem ok_law_is_row : ∀ ds G Q Y, d_law_is_row ds G Q Y → w_law_is_row (bodyEnds Q Y) (start0 4 ds) G := by
  rintro ds G Q Y ⟨t, d, n, hi, rfl, T, q⟩
  rw [st_law_is_row]
  unfold w_law_is_row
  rcases T.isT with ⟨l, rfl, hil, hl⟩ | ⟨h, _, hd, _⟩
  · have q : ∀ G', Sub G G' → Q (.bl (decide ((l.length : Int) = n) && l.all fun x => wholeB x 0 hi)) G' := q
    walk_at "dl"
    walk_at "if"
    by_cases he : (l.length : Int) = n
    · rw [decide_eq_true he] at q
      simp only [Bool.true_and] at q
      refine s_noN he ?_
      walk_at "dl"
      obtain ⟨us, rfl⟩ : ∃ us : List DV, l = us.map id := ⟨l, (List.map_id l).symm⟩
      rw [List.length_map] at hl
      refine lcT_filter id id (fun x => !wholeB x 0 hi) (fun _ g => Sub G g) Sub.refl (fun _ _ _ => trivial) (Nat.le_trans hl (by rw [sizeLine_eq]; decide)) (fun i x g K K2 e me r k1 k2 => ?_) (fun g1 r1 p1 g2 hp1 s1 e1 => ?_)
      · have hx : Tz t g x := (hil x (by rw [List.map_id]; exact me)).sub r
        walk_at "dl"
        refine ⟨t, x, 0, hi, rfl, hx, ?_⟩
        walk_at "dl"
        cases hc : wholeB x 0 hi
        · rw [if_pos (show (!false) = true from rfl)]
          walk_at "dl"
          exact k1 (by rw [hc]; rfl) _ r
        · rw [if_neg (by decide)]
          exact k2 (by rw [hc]; rfl) _ r
      rw [List.map_id] at q
      have q := fun g4 s4 => q g4 ((r1.trans s1).trans s4)
      rw [List.map_id] at e1
      walk_at "dl"
      intro p4 g4 hp4 s4 e4
      have e1 := s4 _ _ e1
      walk_at "dl"
      rw [filt_no]
      exact q _ s4
    · rw [decide_eq_false he] at q
      refine s_yesN he ?_
      walk_at "dl"
      exact q _ Sub.refl
  · rw [hd] at q
    walk_at "dl"
    walk_at "if"
    refine s_isiTm (T.tm (by decide)) (by decide) ?_
    rw [h]
    walk_at "dl"
    exact q _ Sub.refl
abbrev s_law_unlike : Stmt := top 29
theorem sc_law_unlike : FnScope ["_law_things", "_law_k"] ["_law_things"] (defScope s_law_unlike) := ⟨rfl, rfl, rfl, by decide +kernel, rfl, by decide +kernel, by decide +kernel⟩
/- law_unlike : 0 _law_things, 1 _law_k -/
theorem st_law_unlike (x0 : DV) : start0 2 [x0] = [some x0, none] := rfl
def w_law_unlike : DS := (wRet (wOp (dEqNil false) (wLc [1] (wiRange1 (wCons (wCB dLen (wCons (wVar 0) wNil)) wNil)) (wgName 1) (wTst (wOp (dIn false) (wOp dIx (wVar 0) (wVar 1)) (wSl dSl (wVar 0) wNoPart (wPart (wVar 1))))) (wVar 1)) (wLst wNil)))

def d_law_unlike : DF := fun ds G Q _ => (∃ l : List Int, ds = [.tup (l.map .int)] ∧ l.length ≤ 1000 ∧ ∀ G', Sub G G' → Q (.bl (decide l.Nodup)) G') ∨ ∃ l : List Str, ds = [.tup (l.map .str)] ∧ l.length ≤ 1000 ∧ ∀ G', Sub G G' → Q (.bl (decide l.Nodup)) G'
theorem len_law_unlike : ∀ ds G Q Y, d_law_unlike ds G Q Y → ds.length = 1 := by
  rintro ds G Q Y (⟨l, rfl, _⟩ | ⟨l, rfl, _⟩) <;> rfl
theorem unlike_iff {α : Type} [DecidableEq α] (l : List α) (d : α) : ((List.range l.length).filter fun k => decide (l.getD k d ∈ l.take k)).isEmpty = decide l.Nodup := by
  have at_ : ∀ j (h : j < l.length), l.getD j d = l[j] := fun j h => by rw [List.getD_eq_getElem?_getD, List.getElem?_eq_getElem h]; rfl
  rw [Bool.eq_iff_iff, List.isEmpty_iff, List.filter_eq_nil_iff, decide_eq_true_eq, List.nodup_iff_pairwise_ne, List.pairwise_iff_getElem]
  constructor
  · intro h i j hi hj hij e
    refine h j (List.mem_range.mpr hj) (decide_eq_true ?_)
    rw [at_ j hj, ← e]
    exact List.mem_iff_getElem.mpr ⟨i, by rw [List.length_take]; omega, by rw [List.getElem_take]⟩
  · intro h k hk hm
    have hk := List.mem_range.mp hk
    have hm := of_decide_eq_true hm
    rw [at_ k hk] at hm
    obtain ⟨i, hi, e⟩ := List.mem_iff_getElem.mp hm
    rw [List.length_take] at hi
    rw [List.getElem_take] at e
    exact h i k (by omega) hk (by omega) e
theorem ok_law_unlike : ∀ ds G Q Y, d_law_unlike ds G Q Y → w_law_unlike (bodyEnds Q Y) (start0 2 ds) G := by
  rintro ds G Q Y (⟨l, rfl, hl, q⟩ | ⟨l, rfl, hl, q⟩)
  · rw [st_law_unlike]
    unfold w_law_unlike
    walk_at "dl"
    rw [List.length_map]
    refine s_rng1 (by omega) ?_
    rw [intsFrom_eq, Int.toNat_natCast]
    refine lcT_filter _ (fun k : Nat => DV.int (0 + (k : Int))) (fun k => decide (l.getD k 0 ∈ l.take k)) (fun _ g => Sub G g) Sub.refl (fun _ _ _ => trivial) (by rw [List.length_range, sizeLine_eq]; omega) (fun k x g K K2 e me r k1 k2 => ?_) (fun g1 r1 p1 g2 hp1 s1 e1 => ?_)
    · obtain ⟨rfl, hx⟩ := range_get e
      have ec : cutL (l.map DV.int) none (some (0 + (x : Int))) = (l.take x).map .int := by rw [Int.zero_add, cut_to (by omega), Int.toNat_natCast, List.map_take]
      have ea : ((l.take x).map DV.int).any (fun e => e.same (.int l[x])) = decide (l.getD x 0 ∈ l.take x) := by
        rw [show l.getD x 0 = l[x] by rw [List.getD_eq_getElem?_getD, List.getElem?_eq_getElem hx]; rfl, Bool.eq_iff_iff, List.any_eq_true, decide_eq_true_iff]
        constructor
        · rintro ⟨d, hd, h⟩
          obtain ⟨y, hy, rfl⟩ := List.mem_map.mp hd
          have h2 : y = l[x] := by first | exact of_decide_eq_true h | simpa [DV.same] using h
          rw [← h2]; exact hy
        · intro h
          exact ⟨_, List.mem_map_of_mem h, by first | exact decide_eq_true rfl | simp [DV.same]⟩
      walk_at "dl"
      refine s_ixT (at_int (List.getElem?_eq_getElem hx) (by omega)) ?_
      walk_at "dl"
      rw [ec]
      refine s_inT rfl (by rw [List.all_map]; exact List.all_eq_true.mpr fun _ _ => rfl) ?_
      rw [ea]
      walk_at "dl"
      cases hc : decide (l.getD x 0 ∈ l.take x)
      · rw [if_neg (by decide)]
        exact k2 hc _ r
      · rw [if_pos rfl]
        walk_at "dl"
        exact k1 hc _ r
    walk_at "dl"
    intro p4 g4 hp4 s4 e4
    have e1 := s4 _ _ e1
    walk_at "dl"
    rw [List.isEmpty_map, unlike_iff]
    exact q _ (r1.trans (s1.trans s4))
  · rw [st_law_unlike]
    unfold w_law_unlike
    walk_at "dl"
    rw [List.length_map]
    refine s_rng1 (by omega) ?_
    rw [intsFrom_eq, Int.toNat_natCast]
    refine lcT_filter _ (fun k : Nat => DV.int (0 + (k : Int))) (fun k => decide (l.getD k "" ∈ l.take k)) (fun _ g => Sub G g) Sub.refl (fun _ _ _ => trivial) (by rw [List.length_range, sizeLine_eq]; omega) (fun k x g K K2 e me r k1 k2 => ?_) (fun g1 r1 p1 g2 hp1 s1 e1 => ?_)
    · obtain ⟨rfl, hx⟩ := range_get e
      have ec : cutL (l.map DV.str) none (some (0 + (x : Int))) = (l.take x).map .str := by rw [Int.zero_add, cut_to (by omega), Int.toNat_natCast, List.map_take]
      have ea : ((l.take x).map DV.str).any (fun e => e.same (.str l[x])) = decide (l.getD x "" ∈ l.take x) := by
        rw [show l.getD x "" = l[x] by rw [List.getD_eq_getElem?_getD, List.getElem?_eq_getElem hx]; rfl, Bool.eq_iff_iff, List.any_eq_true, decide_eq_true_iff]
        constructor
        · rintro ⟨d, hd, h⟩
          obtain ⟨y, hy, rfl⟩ := List.mem_map.mp hd
          have h2 : y = l[x] := by first | exact of_decide_eq_true h | simpa [DV.same] using h
          rw [← h2]; exact hy
        · intro h
          exact ⟨_, List.mem_map_of_mem h, by first | exact decide_eq_true rfl | simp [DV.same]⟩
      walk_at "dl"
      refine s_ixT (at_int (List.getElem?_eq_getElem hx) (by omega)) ?_
      walk_at "dl"
      rw [ec]
      refine s_inT rfl (by rw [List.all_map]; exact List.all_eq_true.mpr fun _ _ => rfl) ?_
      rw [ea]
      walk_at "dl"
      cases hc : decide (l.getD x "" ∈ l.take x)
      · rw [if_neg (by decide)]
        exact k2 hc _ r
      · rw [if_pos rfl]
        walk_at "dl"
        exact k1 hc _ r
    walk_at "dl"
    intro p4 g4 hp4 s4 e4
    have e1 := s4 _ _ e1
    walk_at "dl"
    rw [List.isEmpty_map, unlike_iff]
    exact q _ (r1.trans (s1.trans s4))

abbrev s_law_is_rule : Stmt := top 30
theorem sc_law_is_rule : FnScope ["_law_thing", "_law_many"] ["_law_thing", "_law_many"] (defScope s_law_is_rule) := ⟨rfl, rfl, rfl, by decide +kernel, rfl, by decide +kernel, by decide +kernel⟩
/- law_is_rule : 0 _law_thing, 1 _law_many -/
theorem st_law_is_rule (x0 x1 : DV) : start0 2 [x0, x1] = [some x0, some x1] := rfl
def w_law_is_rule : DS := (wSeq (wIfS (wOrT (wNotT (wTst (wCB dIsi (wCons (wVar 0) (wCons (wC (.ty "tuple")) wNil))))) (wTst (wOp (dEq true) (wCB dLen (wCons (wVar 0) wNil)) (wC (.int 2)))))
  (wRet (wC (.bl false)))
  wNext)
  (wSeq (wIfS (wOrT (wNotT (wTst (wCall d_law_is_row (wCons (wOp dIx (wVar 0) (wC (.int 0))) (wCons (wVar 1) (wCons (wC (.int 9)) wNil)))))) (wNotT (wTst (wCall d_law_is_row (wCons (wOp dIx (wVar 0) (wC (.int 1))) (wCons (wVar 1) (wCons (wC (.int 9)) wNil)))))))
  (wRet (wC (.bl false)))
  wNext)
  (wRet (wAnd (wOp (dEq true) (wOp dIx (wVar 0) (wC (.int 0))) (wOp dIx (wVar 0) (wC (.int 1)))) (wOp (dEq true) (wOp dIx (wVar 0) (wC (.int 0))) (wOp dMulA (wTup (wCons (wC (.int 0)) wNil)) (wVar 1)))))))

theorem le_sum : ∀ {l : List Int}, (∀ x ∈ l, 0 ≤ x) → 0 ≤ l.sum ∧ ∀ x ∈ l, x ≤ l.sum
  | [], _ => ⟨Int.le_refl _, fun _ h => nomatch h⟩
  | y :: l, h => by
    have h1 := h y List.mem_cons_self
    obtain ⟨h2, h3⟩ := le_sum (l := l) fun x hx => h x (List.mem_cons_of_mem _ hx)
    rw [List.sum_cons]
    refine ⟨by omega, fun x hx => ?_⟩
    rcases List.mem_cons.mp hx with rfl | hx
    · omega
    · have := h3 x hx; omega
theorem sum_zero : ∀ m : Nat, (List.replicate m (0 : Int)).sum = 0
  | 0 => rfl
  | m + 1 => by rw [List.replicate_succ, List.sum_cons, sum_zero m]; rfl
theorem sum_pos {xs : List Int} {m : Nat} (h0 : ∀ y ∈ xs, 0 ≤ y) (hl : xs.length = m) : decide (0 < xs.sum) = !decide (xs = List.replicate m 0) := by
  by_cases e : xs = List.replicate m 0
  · rw [decide_eq_true e, e, sum_zero]; rfl
  · rw [decide_eq_false e]
    refine decide_eq_true (Decidable.byContradiction fun h => e ?_)
    obtain ⟨s0, s1⟩ := le_sum h0
    rw [List.eq_replicate_iff]
    refine ⟨hl, fun y hy => ?_⟩
    have := h0 y hy
    have := s1 y hy
    omega
def d_law_is_rule : DF := fun ds G Q _ => ∃ (t : Addr) (d : DV) (n : Nat), ds = [d, .int (n : Nat)] ∧ Tz t G d ∧ n ≤ 1000 ∧ ∀ G', Sub G G' → Q (.bl (ruleB d (n : Nat))) G'
theorem len_law_is_rule : ∀ ds G Q Y, d_law_is_rule ds G Q Y → ds.length = 2 := by
  rintro ds G Q Y ⟨t, d, n, rfl, _⟩; rfl
theorem ok_law_is_rule : ∀ ds G Q Y, d_law_is_rule ds G Q Y → w_law_is_rule (bodyEnds Q Y) (start0 2 ds) G := by
  rintro ds G Q Y ⟨t, d, n, rfl, T, hn, q⟩
  rw [st_law_is_rule]
  unfold w_law_is_rule
  rcases T.isT with ⟨l, rfl, hi, hl⟩ | ⟨h, _, _, hd, _⟩
  · by_cases h2 : l.length = 2
    · obtain ⟨a, b, rfl⟩ : ∃ a b, l = [a, b] := by
        match l, h2 with
        | [a, b], _ => exact ⟨a, b, rfl⟩
      rw [rule_two] at q
      have Ta : Tz t G a := hi a (by simp)
      have Tb : Tz t G b := hi b (by simp)
      walk_at "dl"
      walk_at "if"
      refine s_noN rfl ?_
      walk_at "dl"
      walk_at "if"
      refine ⟨t, a, _, 9, rfl, Ta, fun g1 s1 => ?_⟩
      cases ha : rowB a (n : Nat) 9
      · rw [ha] at q
        walk_at "dl"
        exact q _ s1
      · rw [ha] at q
        simp only [Bool.true_and] at q
        walk_at "dl"
        refine ⟨t, b, _, 9, rfl, Tb.sub s1, fun g2 s2 => ?_⟩
        have s12 := s1.trans s2
        cases hb : rowB b (n : Nat) 9
        · rw [hb] at q
          walk_at "dl"
          exact q _ s12
        · rw [hb] at q
          simp only [Bool.true_and] at q
          obtain ⟨xs, rfl, hx, xl, x0⟩ := row_ints ha
          obtain ⟨ys, rfl, hy, _, _⟩ := row_ints hb
          rw [hx, hy, sum_pos (m := n) (fun y hy => (x0 y hy).1) (by omega), Bool.and_comm] at q
          walk_at "dl"
          refine s_neTI ?_
          walk_at "dl"
          refine s_ifB (q _ s12) fun _ q => ?_
          walk_at "dl"
          refine s_mulT ⟨by omega, by omega, by simp⟩ ?_
          walk_at "dl"
          rw [flat_int, Int.toNat_natCast]
          refine s_neTI ?_
          exact q
    · rw [rule_no h2] at q
      walk_at "dl"
      walk_at "if"
      refine s_yesN (by omega) ?_
      walk_at "dl"
      exact q _ Sub.refl
  · rw [hd] at q
    walk_at "dl"
    walk_at "if"
    refine s_isiTm (T.tm (by decide)) (by decide) ?_
    rw [h]
    walk_at "dl"
    exact q _ Sub.refl
abbrev s_law_is_pot : Stmt := top 31
theorem sc_law_is_pot : FnScope ["_law_thing", "_law_sorts", "_law_rules", "_law_inputs", "_law_begin", "_law_answer", "_law_many", "_law_one", "_law_rule_here"] ["_law_thing"] (defScope s_law_is_pot) := ⟨rfl, rfl, rfl, by decide +kernel, rfl, by decide +kernel, by decide +kernel⟩
/- law_is_pot : 0 _law_thing, 1 _law_sorts, 2 _law_rules, 3 _law_inputs, 4 _law_begin, 5 _law_answer, 6 _law_many, 7 _law_one, 8 _law_rule_here -/
theorem st_law_is_pot (x0 : DV) : start0 9 [x0] = [some x0, none, none, none, none, none, none, none, none] := rfl
def w_law_is_pot : DS := (wSeq (wIfS (wOrT (wNotT (wTst (wCB dIsi (wCons (wVar 0) (wCons (wC (.ty "tuple")) wNil))))) (wOrT (wTst (wOp (dEq true) (wCB dLen (wCons (wVar 0) wNil)) (wC (.int 5)))) (wNotT (wTst (wCB dIsi (wCons (wOp dIx (wVar 0) (wC (.int 0))) (wCons (wC (.ty "tuple")) wNil)))))))
  (wRet (wC (.bl false)))
  wNext)
  (wSeq (wAsg (wVar 0) (wgTup (wgCons (wgName 1) (wgCons (wgName 2) (wgCons (wgName 3) (wgCons (wgName 4) (wgCons (wgName 5) wgNil)))))))
  (wSeq (wSet 6 (wCB dLen (wCons (wVar 1) wNil)))
  (wSeq (wIfS (wOrT (wNotT (wTst (wChain dLe dLe (wC (.int 1)) (wVar 6) (wC (.int 8))))) (wOrT (wTst (wOp (dIn false) (wC (.bl false)) (wLc [7] (wiSeq (wVar 1)) (wgName 7) wYes (wCall d_law_is_name (wCons (wVar 7) wNil))))) (wNotT (wTst (wCall d_law_unlike (wCons (wVar 1) wNil))))))
  (wRet (wC (.bl false)))
  wNext)
  (wSeq (wIfS (wOrT (wNotT (wTst (wCB dIsi (wCons (wVar 2) (wCons (wC (.ty "tuple")) wNil))))) (wOrT (wTst (wOp dGt (wCB dLen (wCons (wVar 2) wNil)) (wC (.int 8)))) (wTst (wOp (dIn false) (wC (.bl false)) (wLc [8] (wiSeq (wVar 2)) (wgName 8) wYes (wCall d_law_is_rule (wCons (wVar 8) (wCons (wVar 6) wNil))))))))
  (wRet (wC (.bl false)))
  wNext)
  (wSeq (wIfS (wOrT (wNotT (wTst (wCB dIsi (wCons (wVar 3) (wCons (wC (.ty "tuple")) wNil))))) (wTst (wOp dGt (wCB dLen (wCons (wVar 3) wNil)) (wC (.int 3)))))
  (wRet (wC (.bl false)))
  wNext)
  (wSeq (wIfS (wOrT (wTst (wOp (dIn false) (wC (.bl false)) (wLc [7] (wiSeq (wVar 3)) (wgName 7) wYes (wCall d_law_whole (wCons (wVar 7) (wCons (wC (.int 0)) (wCons (wOp dSub (wVar 6) (wC (.int 1))) wNil))))))) (wNotT (wTst (wCall d_law_unlike (wCons (wVar 3) wNil)))))
  (wRet (wC (.bl false)))
  wNext)
  (wRet (wAnd (wCall d_law_is_row (wCons (wVar 4) (wCons (wVar 6) (wCons (wC (.int 99)) wNil)))) (wCall d_law_whole (wCons (wVar 5) (wCons (wC (.int 0)) (wCons (wOp dSub (wVar 6) (wC (.int 1))) wNil)))))))))))))

theorem false_in {α : Type} {xs : List α} {g : Gh} {p : Addr} {f : α → Bool} {Q : DV → Gh → Prop} (e : g p = some (.lst (xs.map fun x => .bl (f x)))) (q : Q (.bl (!(xs.all f))) g) : dIn false (.bl false) (.ref p) g Q := by
  refine s_inL e rfl (by rw [List.all_map]; exact List.all_eq_true.mpr fun _ _ => rfl) ?_
  have key : ∀ l : List α, ((l.map fun x => DV.bl (f x)).any fun e => e.same (.bl false)) = !(l.all f) := by
    intro l
    induction l with
    | nil => rfl
    | cons x l ih =>
      rw [List.map_cons, List.any_cons, ih, List.all_cons]
      cases f x <;> simp [DV.same]
  rw [key]
  exact q
def d_law_is_pot : DF := fun ds G Q _ => ∃ (t : Addr) (d : DV), ds = [d] ∧ Tz t G d ∧ ∀ G', Sub G G' → Q (.bl (potB d)) G'
theorem len_law_is_pot : ∀ ds G Q Y, d_law_is_pot ds G Q Y → ds.length = 1 := by
  rintro ds G Q Y ⟨t, d, rfl, _⟩; rfl
theorem sorts_two {l : List DV} : sortsB (.tup l) = (decide (1 ≤ l.length) && decide (l.length ≤ 8) && (l.all nameD && decide ((l.map strV).Nodup))) := rfl
theorem inputs_two {l : List DV} {n : Int} : inputsB (.tup l) n = (decide (l.length ≤ 3) && (l.all (fun x => wholeB x 0 (n - 1)) && decide ((l.map intV).Nodup))) := rfl
theorem rules_two {l : List DV} {n : Int} : rulesB (.tup l) n = (decide (l.length ≤ 8) && l.all fun x => ruleB x n) := rfl
theorem ok_law_is_pot : ∀ ds G Q Y, d_law_is_pot ds G Q Y → w_law_is_pot (bodyEnds Q Y) (start0 9 ds) G := by
  rintro ds G Q Y ⟨t, d, rfl, T, q⟩
  rw [st_law_is_pot]
  unfold w_law_is_pot
  rcases T.isT with ⟨l, rfl, hi, hl⟩ | ⟨h, _, _, _, _, _, _, hd⟩
  · by_cases h2 : l.length = 5
    · obtain ⟨s, r, i, b, a, rfl⟩ : ∃ s r i b a, l = [s, r, i, b, a] := by
        match l, h2 with
        | [s, r, i, b, a], _ => exact ⟨s, r, i, b, a, rfl⟩
      have Ts : Tz t G s := hi s (by simp)
      have Tr : Tz t G r := hi r (by simp)
      have Ti : Tz t G i := hi i (by simp)
      have Tb : Tz t G b := hi b (by simp)
      have Ta : Tz t G a := hi a (by simp)
      have q : ∀ G', Sub G G' → Q (.bl (sortsB s && (rulesB r (lenD' s) && (inputsB i (lenD' s) && (rowB b (lenD' s) 99 && wholeB a 0 (lenD' s - 1)))))) G' := q
      walk_at "dl"
      walk_at "if"
      refine s_noN rfl ?_
      walk_at "dl"
      rcases Ts.isT with ⟨ls, rfl, his, hls⟩ | ⟨h, _, _, _, hds, _⟩
      · have q : ∀ G', Sub G G' → Q (.bl (sortsB (.tup ls) && (rulesB r (ls.length : Nat) && (inputsB i (ls.length : Nat) && (rowB b (ls.length : Nat) 99 && wholeB a 0 ((ls.length : Nat) - 1)))))) G' := q
        rw [sorts_two] at q
        walk_at "dl"
        walk_at "if"
        by_cases h1 : 1 ≤ ls.length
        · rw [decide_eq_true h1] at q
          rw [decide_eq_true (by omega : (1 : Int) ≤ (ls.length : Nat))]
          walk_at "dl"
          by_cases h8 : ls.length ≤ 8
          · rw [decide_eq_true h8] at q
            simp only [Bool.true_and] at q
            rw [decide_eq_true (by omega : ((ls.length : Nat) : Int) ≤ 8)]
            walk_at "dl"
            obtain ⟨us, rfl⟩ : ∃ us : List DV, ls = us.map id := ⟨ls, (List.map_id ls).symm⟩
            rw [List.length_map] at hls
            refine lcT_map id (fun x => .bl (nameD x)) (fun _ g => Sub G g) Sub.refl (fun _ _ _ => trivial) (Nat.le_trans hls (by rw [sizeLine_eq]; decide)) (fun j x g K K2 e me r' k => ?_) (fun g1 r1 p1 g2 hp1 s1 e1 => ?_)
            · have hx : Tz t g x := (his x (by rw [List.map_id]; exact me)).sub r'
              walk_at "dl"
              refine ⟨t, x, rfl, hx, fun g2 s2 => ?_⟩
              walk_at "dl"
              exact k _ (r'.trans s2)
            rw [List.map_id] at q h1 h8 ⊢
            have s12 := r1.trans s1
            walk_at "dl"
            refine false_in e1 ?_
            cases hn : us.all nameD
            · rw [hn] at q
              walk_at "dl"
              exact q _ s12
            rw [hn] at q
            simp only [Bool.true_and] at q
            walk_at "dl"
            have es := strs_of hn
            have un : ∀ {G : Gh} {Q : DV → Gh → Prop} {Y : DX}, (∀ G', Sub G G' → Q (.bl (decide ((us.map strV).Nodup))) G') → d_law_unlike [.tup us] G Q Y := fun q => .inr ⟨us.map strV, by rw [← es], by rw [List.length_map]; omega, q⟩
            refine un fun g3 s3 => ?_
            have s13 := s12.trans s3
            cases hu : decide ((us.map strV).Nodup)
            · rw [hu] at q
              walk_at "dl"
              exact q _ s13
            rw [hu] at q
            simp only [Bool.true_and] at q
            walk_at "dl"
            generalize us.length = n at q h1 h8
            rcases Tr.isT with ⟨lr, rfl, hir, hlr⟩ | ⟨h, _, _, _, _, _, hdr, _⟩
            rotate_left
            · rw [hdr] at q
              walk_at "if"
              refine s_isiTm ((Tr.sub s13).tm (by decide)) (by decide) ?_
              rw [h]
              walk_at "dl"
              exact q _ s13
            rw [rules_two] at q
            walk_at "if"
            by_cases hr8 : lr.length ≤ 8
            rotate_left
            · rw [decide_eq_false hr8] at q
              simp only [Bool.false_and] at q
              refine s_yesD (by omega) ?_
              walk_at "dl"
              exact q _ s13
            rw [decide_eq_true hr8] at q
            simp only [Bool.true_and] at q
            refine s_noD (by omega) ?_
            walk_at "dl"
            obtain ⟨vs, rfl⟩ : ∃ vs : List DV, lr = vs.map id := ⟨lr, (List.map_id lr).symm⟩
            rw [List.length_map] at hlr
            refine lcT_map id (fun x => .bl (ruleB x (n : Nat))) (fun _ g => Sub G g) s13 (fun _ _ _ => trivial) (Nat.le_trans hlr (by rw [sizeLine_eq]; decide)) (fun j x g K K2 e me r' k => ?_) (fun g4 r4 p4 g5 hp5 s5 e5 => ?_)
            · have hx : Tz t g x := (hir x (by rw [List.map_id]; exact me)).sub r'
              walk_at "dl"
              refine ⟨t, x, _, rfl, hx, by omega, fun g2 s2 => ?_⟩
              walk_at "dl"
              exact k _ (r'.trans s2)
            rw [List.map_id] at q ⊢
            have s15 := r4.trans s5
            walk_at "dl"
            refine false_in e5 ?_
            cases hr : vs.all fun x => ruleB x (n : Nat)
            · rw [hr] at q
              walk_at "dl"
              exact q _ s15
            rw [hr] at q
            simp only [Bool.true_and] at q
            walk_at "dl"
            rcases Ti.isT with ⟨li, rfl, hii, hli⟩ | ⟨h, _, _, _, _, hdi, _⟩
            rotate_left
            · rw [hdi] at q
              walk_at "if"
              refine s_isiTm ((Ti.sub s15).tm (by decide)) (by decide) ?_
              rw [h]
              walk_at "dl"
              exact q _ s15
            rw [inputs_two] at q
            walk_at "if"
            by_cases hi3 : li.length ≤ 3
            rotate_left
            · rw [decide_eq_false hi3] at q
              simp only [Bool.false_and] at q
              refine s_yesD (by omega) ?_
              walk_at "dl"
              exact q _ s15
            rw [decide_eq_true hi3] at q
            simp only [Bool.true_and] at q
            refine s_noD (by omega) ?_
            walk_at "dl"
            walk_at "if"
            obtain ⟨ws, rfl⟩ : ∃ ws : List DV, li = ws.map id := ⟨li, (List.map_id li).symm⟩
            rw [List.length_map] at hli
            refine lcT_map id (fun x => .bl (wholeB x 0 ((n : Nat) - 1))) (fun _ g => Sub G g) s15 (fun _ _ _ => trivial) (Nat.le_trans hli (by rw [sizeLine_eq]; decide)) (fun j x g K K2 e me r' k => ?_) (fun g6 r6 p6 g7 hp7 s7 e7 => ?_)
            · have hx : Tz t g x := (hii x (by rw [List.map_id]; exact me)).sub r'
              walk_at "dl"
              refine ⟨t, x, 0, _, rfl, hx, ?_⟩
              walk_at "dl"
              exact k _ r'
            rw [List.map_id] at q ⊢
            have s17 := r6.trans s7
            walk_at "dl"
            refine false_in e7 ?_
            cases hw : ws.all fun x => wholeB x 0 ((n : Nat) - 1)
            · rw [hw] at q
              walk_at "dl"
              exact q _ s17
            rw [hw] at q
            simp only [Bool.true_and] at q
            walk_at "dl"
            have es2 := (ints_of hw).1
            have un2 : ∀ {G : Gh} {Q : DV → Gh → Prop} {Y : DX}, (∀ G', Sub G G' → Q (.bl (decide ((ws.map intV).Nodup))) G') → d_law_unlike [.tup ws] G Q Y := fun q => .inl ⟨ws.map intV, by rw [← es2], by rw [List.length_map]; omega, q⟩
            refine un2 fun g8 s8 => ?_
            have s18 := s17.trans s8
            cases hu2 : decide ((ws.map intV).Nodup)
            · rw [hu2] at q
              walk_at "dl"
              exact q _ s18
            rw [hu2] at q
            simp only [Bool.true_and] at q
            walk_at "dl"
            refine ⟨t, b, _, 99, rfl, Tb.sub s18, fun g9 s9 => ?_⟩
            have s19 := s18.trans s9
            walk_at "dl"
            refine s_ifB (q _ s19) fun _ q => ?_
            walk_at "dl"
            exact ⟨t, a, 0, _, rfl, Ta.sub s19, q⟩
          · rw [decide_eq_false h8] at q
            simp only [Bool.true_and, Bool.false_and] at q
            rw [decide_eq_false (by omega : ¬ ((ls.length : Nat) : Int) ≤ 8)]
            walk_at "dl"
            exact q _ Sub.refl
        · rw [decide_eq_false h1] at q
          simp only [Bool.false_and] at q
          rw [decide_eq_false (by omega : ¬ (1 : Int) ≤ (ls.length : Nat))]
          walk_at "dl"
          exact q _ Sub.refl
      · rw [hds] at q
        refine s_isiTm (Ts.tm (by decide)) (by decide) ?_
        rw [h]
        walk_at "dl"
        exact q _ Sub.refl
    · rw [pot_no h2] at q
      walk_at "dl"
      walk_at "if"
      refine s_yesN (by omega) ?_
      walk_at "dl"
      exact q _ Sub.refl
  · rw [hd] at q
    walk_at "dl"
    walk_at "if"
    refine s_isiTm (T.tm (by decide)) (by decide) ?_
    rw [h]
    walk_at "dl"
    exact q _ Sub.refl

abbrev s_law_names_right : Stmt := top 32
theorem sc_law_names_right : FnScope ["_law_feed_here", "_law_some", "_law_thing"] ["_law_feed_here"] (defScope s_law_names_right) := ⟨rfl, rfl, rfl, by decide +kernel, rfl, by decide +kernel, by decide +kernel⟩
/- law_names_right : 0 _law_feed_here, 1 _law_some, 2 _law_thing -/
theorem st_law_names_right (x0 : DV) : start0 3 [x0] = [some x0, none, none] := rfl
def w_law_names_right : DS := (wSeq (wSet 1 (wLst (wCons (wC (.str "sorts")) (wCons (wC (.str "begin")) (wCons (wC (.str "in")) (wCons (wC (.str "out")) (wCons (wC (.str "rule")) (wCons (wC (.str "to")) (wCons (wC (.str "")) (wCons (wC (.str "A")) (wCons (wC (.str "aB")) (wCons (wC (.str "a b")) (wCons (wC (.str " a")) (wCons (wC (.str "a1")) (wCons (wC (.str "abcdefgh")) (wCons (wC (.str "abcdefghi")) wNil))))))))))))))))
  (wSeq (wSet 1 (wOp dAdd (wOp dAdd (wVar 1) (wLst (wCons (wC .non) (wCons (wC (.int 1)) (wCons (wC (.bl true)) (wCons (wTup wNil) (wCons (wLst wNil) (wCons (wTup (wCons (wC (.str "a")) wNil)) (wCons (wLst (wCons (wC (.str "a")) wNil)) (wCons (wC (.str "ino")) (wCons (wC (.str "i")) (wCons (wC (.str "sort")) (wCons (wC (.str "rules")) (wCons wDnew (wCons (wC (.str "a/")) wNil))))))))))))))) (wCall d_law_names (wCons (wVar 0) (wCons (wC (.int 12)) wNil)))))
  (wSeq (wFor (wiSeq (wVar 1)) (wgName 2)
  (wIfS (wTst (wOp (dEq true) (wCB dRepr (wCons (wCall d_is_name (wCons (wVar 2) wNil)) wNil)) (wCB dRepr (wCons (wCall d_law_is_name (wCons (wVar 2) wNil)) wNil))))
  (wRet (wC (.bl false)))
  wNext))
  (wRet (wC (.bl true))))))

theorem pool_short : ∀ x ∈ poolA, x.length ≤ 100 := by decide +kernel
theorem bl_repr {b : Bool} : Fair (DV.bl b).pd ∧ (DV.bl b).pure = true := by
  refine ⟨?_, by simp⟩
  have e : (DV.bl b).pd = .bool b := by simp
  rw [e]
  exact (Fr.bl (k := 0)).fair
def d_law_names_right : DF := fun ds G Q _ => ∃ (t : Addr) (n : Nat), ds = [.ref t] ∧ FeedA G t n ∧ n ≤ 800000000000 ∧ ∀ G', FeedA G' t (n + 10) → Old t G G' → Q (.bl true) G'
theorem len_law_names_right : ∀ ds G Q Y, d_law_names_right ds G Q Y → ds.length = 1 := by
  rintro ds G Q Y ⟨t, n, rfl, _⟩; rfl
theorem ok_law_names_right : ∀ ds G Q Y, d_law_names_right ds G Q Y → w_law_names_right (bodyEnds Q Y) (start0 3 ds) G := by
  rintro ds G Q Y ⟨t, n, rfl, tp, hn, q⟩
  rw [st_law_names_right]
  unfold w_law_names_right
  walk_at "dl"
  intro p1 g1 hp1 s1 e1
  walk_at "dl"
  intro p2 g2 hp2 s2 e2
  walk_at "dl"
  intro p3 g3 hp3 s3 e3
  walk_at "dl"
  intro p4 g4 hp4 s4 e4
  walk_at "dl"
  intro p5 g5 hp5 s5 e5
  have n2 := (tp.sub s1).ne1 hp2
  have n3 := ((tp.sub s1).sub s2).ne1 hp3
  have n4 := (((tp.sub s1).sub s2).sub s3).ne1 hp4
  have s25 := s2.trans (s3.trans (s4.trans s5))
  have tp5 := (tp.sub s1).sub s25
  have e1 := s25 _ _ e1
  have e2 := s5 _ _ (s4 _ _ (s3 _ _ e2))
  have e3 := s5 _ _ (s4 _ _ e3)
  have e4 := s5 _ _ e4
  walk_at "dl"
  intro p6 g6 hp6 s6 e6
  have n6 := tp5.ne1 hp6
  have tp6 := tp5.sub s6
  have e2 := s6 _ _ e2
  have e3 := s6 _ _ e3
  have e4 := s6 _ _ e4
  obtain ⟨M, hM, lM, aM⟩ : ∃ M : List DV, g6 p6 = some (.lst M) ∧ M.length ≤ 100 ∧ ∀ x ∈ M, Tz t g6 x := by
    refine ⟨_, e6, by simp, fun x hx => ?_⟩
    simp only [List.cons_append, List.nil_append, List.mem_cons, List.not_mem_nil, or_false] at hx
    repeat' (rcases hx with rfl | hx)
    all_goals (try subst hx)
    all_goals first
      | exact .non
      | exact .bl _
      | exact .i (by decide)
      | exact .str _ (by decide +kernel)
      | exact .nil
      | exact .lst e2 n2 n2
      | exact .lst e3 n3 n3
      | exact .lst e4 n4 n4
      | exact .dic e2 n2 n2
      | exact .dic e3 n3 n3
      | exact .dic e4 n4 n4
      | exact .tup (fun y hy => by rw [List.mem_singleton.mp hy]; exact .str _ (by decide +kernel)) (by simp)
  clear e6 e5
  walk_at "dl"
  refine ⟨t, 12, n, rfl, tp6, by omega, by decide, by decide, fun names pn g7 nf en tp7 o7 => ?_⟩
  have hM := o7 _ _ n6 hM
  walk_at "dl"
  refine x_addL hM en (by rw [List.length_map, nf.ln, sizeLine_eq]; have : Int.toNat 12 = 12 := rfl; omega) fun p8 g8 hp8 s8 e8 => ?_
  have o8 : Old t g6 g8 := o7.trans s8.old
  have aM2 : ∀ x ∈ M ++ names.map DV.str, Tz t g8 x := fun x hx => by
    rcases List.mem_append.mp hx with hx | hx
    · exact (aM x hx).old o8
    · obtain ⟨w, hw, rfl⟩ := List.mem_map.mp hx
      exact .str _ (pool_short w (nf.nm w hw))
  generalize M ++ names.map DV.str = L at aM2 e8
  walk_at "dl"
  refine s_seq (s_for ?_)
  walk_at "dl"
  obtain ⟨us, rfl⟩ : ∃ us : List DV, L = us.map id := ⟨L, (List.map_id L).symm⟩
  refine forT id (fun i e g => Sub g8 g ∧ ∃ b2, e = [some (.ref t), some (.ref p8), b2]) ⟨Sub.refl, _, rfl⟩ (fun _ _ _ h => h.1 _ _ e8) ?_ ?_
  · rintro i x e g K ex mem ⟨sg, b2, rfl⟩ kk
    have hx : Tz t g x := (aM2 x (by rw [List.map_id]; exact mem)).sub sg
    obtain ⟨bF, bP⟩ := bl_repr (b := nameD x)
    walk_at "dl"
    walk_at "if"
    refine ⟨t, x, rfl, hx, fun g2 s2 => ?_⟩
    walk_at "dl"
    refine s_repr (dr_pure _ bP) bF ?_
    generalize hS : (DV.bl (nameD x)).pd.shown = S
    walk_at "dl"
    refine ⟨t, x, rfl, hx.sub s2, fun g3 s3 => ?_⟩
    walk_at "dl"
    refine s_repr (dr_pure _ bP) bF ?_
    rw [hS]
    walk_at "dl"
    refine s_noB (by simp) ?_
    walk_at "dl"
    exact kk _ _ ⟨sg.trans (s2.trans s3), _, rfl⟩
  · rintro e g ⟨sg, b2, rfl⟩
    walk_at "dl"
    exact q _ ((tp7.sub (s8.trans sg)).mono (by omega)) (((s1.trans s25).trans s6).old.trans (o8.trans sg.old))
abbrev s_law_rows_right : Stmt := top 33
theorem sc_law_rows_right : FnScope ["_law_feed_here", "_law_many", "_law_row", "_law_k", "_law_things", "_law_one", "_law_thing", "_law_due"] ["_law_feed_here", "_law_many"] (defScope s_law_rows_right) := ⟨rfl, rfl, rfl, by decide +kernel, rfl, by decide +kernel, by decide +kernel⟩
/- law_rows_right : 0 _law_feed_here, 1 _law_many, 2 _law_row, 3 _law_k, 4 _law_things, 5 _law_one, 6 _law_thing, 7 _law_due -/
theorem st_law_rows_right (x0 x1 : DV) : start0 8 [x0, x1] = [some x0, some x1, none, none, none, none, none, none] := rfl
def w_law_rows_right : DS := (wSeq (wSet 2 (wCB dTuple (wCons (wLc [3] (wiRange1 (wCons (wVar 1) wNil)) (wgName 3) wYes (wOp dIx (wLst (wCons (wC (.int 0)) (wCons (wC (.int 1)) (wCons (wOp dPow (wC (.int 10)) (wC (.int 30))) (wCons (wCall d_law_draw (wCons (wVar 0) (wCons (wC (.int 100)) wNil))) wNil))))) (wCall d_law_draw (wCons (wVar 0) (wCons (wC (.int 4)) wNil))))) wNil)))
  (wSeq (wSet 4 (wLst (wCons (wVar 2) (wCons (wCB dList (wCons (wVar 2) wNil)) (wCons (wOp dAdd (wVar 2) (wTup (wCons (wC (.int 0)) wNil))) (wCons (wSl dSl (wVar 2) (wPart (wC (.int 1))) wNoPart) (wCons (wC .non) (wCons (wC (.int 0)) (wCons (wTup wNil) (wCons (wC (.bl true)) (wCons (wC (.str "0")) (wCons (wCB dTuple (wCons (wLc [5] (wiSeq (wVar 2)) (wgName 5) wYes (wC (.bl true))) wNil)) wNil))))))))))))
  (wSeq (wFor (wiRange1 (wCons (wC (.int 3)) wNil)) (wgName 3)
  (wExpr (wBM "list" dAppend (wVar 4) (wCons (wCall d_law_bent (wCons (wVar 0) (wCons (wVar 2) (wCons (wC (.int 0)) wNil)))) wNil))))
  (wSeq (wIfS (wTst (wOp dGt (wVar 1) (wC (.int 0))))
  (wExpr (wBM "list" dAppend (wVar 4) (wCons (wOp dAdd (wSl dSl (wVar 2) wNoPart (wPart (wNeg (wC (.int 1))))) (wTup (wCons (wNeg (wC (.int 1))) wNil))) wNil)))
  wNext)
  (wSeq (wFor (wiSeq (wVar 4)) (wgName 6)
  (wSeq (wSet 7 (wCB dRepr (wCons (wCall d_law_is_row (wCons (wVar 6) (wCons (wVar 1) (wCons (wOp dPow (wC (.int 10)) (wC (.int 50))) wNil)))) wNil)))
  (wIfS (wOrT (wTst (wOp (dEq true) (wCB dRepr (wCons (wCall d_is_amounts (wCons (wVar 1) (wCons (wVar 6) wNil))) wNil)) (wVar 7))) (wAndT (wTst (wOp dGt (wVar 1) (wC (.int 0)))) (wTst (wOp (dEq true) (wCB dRepr (wCons (wCall d_is_stand (wCons (wVar 1) (wCons (wVar 6) wNil))) wNil)) (wVar 7)))))
  (wRet (wC (.bl false)))
  wNext)))
  (wRet (wC (.bl true))))))))

/-- numbers not too great: a row's greatest is no matter -/
theorem counts_row50 {t u : Addr} {G : Gh} {L : Nat} {d : DV} (T : Tq t u G L d) (n : Int) : countsB d n = rowB d n (10 ^ Int.toNat 50) := by
  cases T <;> first | rfl | skip
  rename_i l hi hl
  show (decide ((l.length : Int) = n) && l.all from0) = (decide ((l.length : Int) = n) && l.all fun x => wholeB x 0 (10 ^ Int.toNat 50))
  congr 1
  rw [Bool.eq_iff_iff, List.all_eq_true, List.all_eq_true]
  have key : ∀ x ∈ l, from0 x = wholeB x 0 (10 ^ Int.toNat 50) := fun x hx => by
    rcases (hi x hx).isN with ⟨i, rfl, h⟩ | ⟨b, rfl⟩ | ⟨_, _, h2, h3⟩
    · show decide (0 ≤ i) = (decide (0 ≤ i) && decide (i ≤ 10 ^ Int.toNat 50))
      have e : decide (i ≤ 10 ^ Int.toNat 50) = true := decide_eq_true (by
        have : (10 : Int) ^ 40 ≤ 10 ^ Int.toNat 50 := by decide +kernel
        have h2 : ((i.natAbs : Nat) : Int) ≤ ((10 ^ 40 : Nat) : Int) := Int.ofNat_le.mpr h
        have h3 : ((10 ^ 40 : Nat) : Int) = (10 : Int) ^ 40 := by decide +kernel
        omega)
      rw [e, Bool.and_true]
    · rfl
    · rw [h2, h3]
  constructor <;> intro h x hx
  · rw [← key x hx]; exact h x hx
  · rw [key x hx]; exact h x hx
def d_law_rows_right : DF := fun ds G Q _ => ∃ (t : Addr) (n m : Nat), ds = [.ref t, .int (m : Nat)] ∧ FeedA G t n ∧ n ≤ 700000000000 ∧ m ≤ 3 ∧ ∀ G', FeedA G' t (n + 1000) → Old t G G' → Q (.bl true) G'
theorem len_law_rows_right : ∀ ds G Q Y, d_law_rows_right ds G Q Y → ds.length = 2 := by
  rintro ds G Q Y ⟨t, n, m, rfl, _⟩; rfl
theorem ok_law_rows_right : ∀ ds G Q Y, d_law_rows_right ds G Q Y → w_law_rows_right (bodyEnds Q Y) (start0 8 ds) G := by
  rintro ds G Q Y ⟨t, n, m, rfl, tp, hn, hm, q⟩
  rw [st_law_rows_right]
  unfold w_law_rows_right
  walk_at "dl"
  refine s_rng1 (by omega) ?_
  rw [intsFrom_eq, Int.toNat_natCast]
  refine lcT_all _ DV.int (fun _ x => 0 ≤ x ∧ x ≤ 10 ^ Int.toNat 30) (fun k g' => FeedA g' t (n + 10 * k) ∧ Old t G g') ⟨tp, Old.refl⟩ (fun _ _ _ => trivial) (by rw [List.length_range, sizeLine_eq]; omega) (fun k x g' K2 K3 e me r k1 => ?_) (fun g4 row r4 hl4 hP p5 G5 hp5 s5 e5 => ?_)
  · obtain ⟨rfl, hk⟩ := range_get e
    walk_at "dl"
    refine ⟨t, 100, _, rfl, r.1, by omega, by decide, by decide, fun z g2 z0 z1 tpa oa => ?_⟩
    walk_at "dl"
    intro pl g3 hpl s3 e3
    walk_at "dl"
    refine ⟨t, 4, _, rfl, tpa.sub s3, by omega, by decide, by decide, fun v g5 v0 v1 tpb ob => ?_⟩
    walk_at "dl"
    have b30 : (100 : Int) ≤ 10 ^ Int.toNat 30 := by decide +kernel
    exact pickI [0, 1, 10 ^ Int.toNat 30, z] (fun n => 0 ≤ n ∧ n ≤ 10 ^ Int.toNat 30) (by intro y hy; simp only [List.mem_cons, List.not_mem_nil, or_false] at hy; rcases hy with rfl | rfl | rfl | rfl <;> omega) (ob _ _ (tpa.ne1 hpl) e3) rfl v0 v1 fun y hy => k1 y _ hy ⟨tpb.mono (by omega), r.2.trans (oa.trans (s3.old.trans ob))⟩
  rw [List.length_range] at hl4 r4
  have o5 := r4.2.sub s5
  have tp5 := r4.1.sub s5
  have rowT : ∀ u G, Tq t u G 8 (.tup (row.map .int)) := fun u G => .tup (fun x hx => by
    obtain ⟨y, hy, rfl⟩ := List.mem_map.mp hx
    obtain ⟨j, hj⟩ := List.mem_iff_getElem?.mp hy
    have hj2 : j < m := by have h1 := (List.getElem?_eq_some_iff.mp hj).1; omega
    have := hP j j y (List.getElem?_range hj2) hj
    refine .int _ ?_
    have h3 : (10 : Int) ^ Int.toNat 30 ≤ ((10 ^ 40 : Nat) : Int) := by decide +kernel
    omega) (by rw [List.length_map]; omega)
  walk_at "dl"
  intro p6 g6 hp6 s6 e6
  walk_at "dl"
  refine s_addT (by rw [List.length_map, sizeLine_eq]; simp; omega) ?_
  walk_at "dl"
  refine lcT_map DV.int (fun _ => .bl true) (fun _ g => Sub g6 g) Sub.refl (fun _ _ _ => trivial) (by rw [sizeLine_eq]; omega) (fun i x g K K2 e me r k => ?_) (fun g7 r7 p7 g8 hp7 s8 e8 => ?_)
  · walk_at "dl"
    exact k _ r
  have s68 := r7.trans s8
  have n6 := tp5.ne1 hp6
  have tp8 := (tp5.sub s6).sub s68
  have e6 := s68 _ _ e6
  walk_at "dl"
  intro p9 g9 hp9 s9 e9
  have n9 : p9 ≠ t := tp8.ne1 hp9
  have m6 : p6 ≠ p9 := ne_gone e6 hp9
  have e6 := s9 _ _ e6
  have tp9 := tp8.sub s9
  have rl : row.length ≤ 3 := by omega
  have cl := fun lo hi => (cut_sub (l := row.map DV.int) (lo := lo) (hi := hi)).2
  have ci := fun lo hi => (cut_sub (l := row.map DV.int) (lo := lo) (hi := hi)).1
  have rowI : ∀ u G, ∀ x ∈ row.map DV.int, Tq t u G 8 x := fun u G x hx => by
    cases rowT u G with
    | tup h _ => exact h x hx
  obtain ⟨M, hM, lM, aM⟩ : ∃ M : List DV, g9 p9 = some (.lst M) ∧ M.length ≤ 100 ∧ ∀ x ∈ M, Tq t p9 g9 100 x := by
    refine ⟨_, e9, by simp, fun x hx => ?_⟩
    simp only [List.mem_cons, List.not_mem_nil, or_false] at hx
    rcases hx with rfl | rfl | rfl | rfl | rfl | rfl | rfl | rfl | rfl | rfl
    · exact (rowT _ _).mono (by decide)
    · exact .lst e6 n6 m6
    · refine .tup (fun x hx => ?_) (by rw [List.length_append, List.length_map, List.length_singleton]; omega)
      rcases List.mem_append.mp hx with hx | hx
      · exact (rowI _ _ x hx).mono (by decide)
      · rw [List.mem_singleton.mp hx]; exact .i (by decide)
    · exact .tup (fun x hx => (rowI _ _ x (ci _ _ x hx)).mono (by decide)) (by have := cl (some 1) none; rw [List.length_map] at this; omega)
    · exact .non
    · exact .i (by decide)
    · exact .nil
    · exact .bl _
    · exact .str _ (by decide +kernel)
    · exact .tup (fun x hx => by obtain ⟨y, _, rfl⟩ := List.mem_map.mp hx; exact .bl _) (by rw [List.length_map]; omega)
  clear e9
  have O9 : Old t G g9 := (o5.sub s6).sub (s68.trans s9)
  walk_at "dl"
  refine s_seq (s_for ?_)
  walk_at "dl"
  refine forR (fun i e g => FeedA g t (n + 30 + 100 * i) ∧ Old t g8 g ∧ (∃ M : List DV, g p9 = some (.lst M) ∧ M.length ≤ 100 + i ∧ ∀ x ∈ M, Tq t p9 g 100 x) ∧ ∃ b3, e = [some (.ref t), some (.int (m : Nat)), some (.tup (row.map .int)), b3, some (.ref p9), none, none, none]) ⟨tp9.mono (by omega), s9.old, ⟨M, hM, by omega, aM⟩, _, rfl⟩ (fun _ _ _ _ => trivial) ?_ ?_
  · rintro i e g K hi ⟨tpg, og, ⟨M, hM, lM, aM⟩, b3, rfl⟩ kk
    have hi : i < 3 := hi
    rw [Int.zero_add]
    walk_at "dl"
    refine ⟨t, p9, _, 8, _, 0, rfl, tpg, ⟨_, hM⟩, n9, by omega, rowT _ _, by decide, by decide, by decide, by decide, fun d g2 T2 tp2 o2 => ?_⟩
    have hM := o2 _ _ n9 hM
    walk_at "dl"
    · rw [sizeLine_eq]; omega
    intro g3 o3 e3
    walk_at "dl"
    refine kk _ _ ⟨(tp2.old o3 n9 n9).mono (by omega), (og.trans o2).own hp9 o3, ⟨_, e3, by rw [List.length_append, List.length_singleton]; omega, fun x hx => ?_⟩, _, rfl⟩
    rcases List.mem_append.mp hx with hx | hx
    · exact ((aM x hx).old o2).oldU o3
    · rw [List.mem_singleton.mp hx]; exact (T2.mono (by decide)).oldU o3
  rintro e g ⟨tpg, og, ⟨M, hM, lM, aM⟩, b3, rfl⟩
  have O8 : Old t G g8 := (o5.sub s6).sub s68
  have fin : ∀ (g : Gh) (M : List DV), FeedA g t (n + 400) → Old t G g → g p9 = some (.lst M) → M.length ≤ 200 → (∀ x ∈ M, Tq t p9 g 100 x) → wFor (wiSeq (wVar 4)) (wgName 6)
      (wSeq (wSet 7 (wCB dRepr (wCons (wCall d_law_is_row (wCons (wVar 6) (wCons (wVar 1) (wCons (wOp dPow (wC (.int 10)) (wC (.int 50))) wNil)))) wNil)))
      (wIfS (wOrT (wTst (wOp (dEq true) (wCB dRepr (wCons (wCall d_is_amounts (wCons (wVar 1) (wCons (wVar 6) wNil))) wNil)) (wVar 7))) (wAndT (wTst (wOp dGt (wVar 1) (wC (.int 0)))) (wTst (wOp (dEq true) (wCB dRepr (wCons (wCall d_is_stand (wCons (wVar 1) (wCons (wVar 6) wNil))) wNil)) (wVar 7)))))
      (wRet (wC (.bl false)))
      wNext)) { bodyEnds Q Y with nx := wRet (wC (.bl true)) (bodyEnds Q Y) } [some (.ref t), some (.int (m : Nat)), some (.tup (row.map .int)), b3, some (.ref p9), none, none, none] g := by
    intro g M tpg og hM lM aM
    refine s_for ?_
    walk_at "dl"
    obtain ⟨us, rfl⟩ : ∃ us : List DV, M = us.map id := ⟨M, (List.map_id M).symm⟩
    refine forT id (fun i e g' => Sub g g' ∧ ∃ b6 b7, e = [some (.ref t), some (.int (m : Nat)), some (.tup (row.map .int)), b3, some (.ref p9), none, b6, b7]) ⟨Sub.refl, _, _, rfl⟩ (fun _ _ _ h => h.1 _ _ hM) ?_ ?_
    · rintro i x e g' K ex mem ⟨sg, b6, b7, rfl⟩ kk
      have hx : Tq t p9 g' 100 x := (aM x (by rw [List.map_id]; exact mem)).sub sg
      have ez := counts_row50 hx (m : Nat)
      have hz := hx.tz (by decide)
      obtain ⟨bF, bP⟩ := bl_repr (b := rowB x (m : Nat) (10 ^ Int.toNat 50))
      walk_at "dl"
      refine ⟨t, x, _, _, rfl, hz, fun g2 s2 => ?_⟩
      walk_at "dl"
      refine s_repr (dr_pure _ bP) bF ?_
      generalize hS : (DV.bl (rowB x (m : Nat) (10 ^ Int.toNat 50))).pd.shown = S
      walk_at "dl"
      walk_at "if"
      refine ⟨t, x, _, rfl, hz.sub s2, fun g3 s3 => ?_⟩
      rw [ez]
      walk_at "dl"
      refine s_repr (dr_pure _ bP) bF ?_
      rw [hS]
      walk_at "dl"
      refine s_noB (by simp) ?_
      walk_at "dl"
      refine s_ite (fun h => ?_) (fun h => ?_)
      · walk_at "dl"
        refine ⟨t, x, _, rfl, (hz.sub s2).sub s3, fun g4 s4 => ?_⟩
        rw [ez]
        walk_at "dl"
        refine s_repr (dr_pure _ bP) bF ?_
        rw [hS]
        walk_at "dl"
        refine s_noB (by simp) ?_
        walk_at "dl"
        exact kk _ _ ⟨sg.trans (s2.trans (s3.trans s4)), _, _, rfl⟩
      · walk_at "dl"
        exact kk _ _ ⟨sg.trans (s2.trans s3), _, _, rfl⟩
    · rintro e g' ⟨sg, b6, b7, rfl⟩
      walk_at "dl"
      exact q _ ((tpg.sub sg).mono (by omega)) (og.trans sg.old)
  have i3 : Int.toNat 3 = 3 := rfl
  rw [i3] at tpg lM
  walk_at "dl"
  walk_at "if"
  refine s_ite (fun h => ?_) (fun h => ?_)
  · walk_at "dl"
    refine s_addT (by have := cl none (some (-1)); rw [List.length_map] at this; rw [sizeLine_eq, List.length_singleton]; omega) ?_
    walk_at "dl"
    · rw [sizeLine_eq]; omega
    intro g3 o3 e3
    walk_at "dl"
    refine s_seq (fin g3 _ ((tpg.old o3 n9 n9).mono (by omega)) (O8.trans (og.own hp9 o3)) e3 (by rw [List.length_append, List.length_singleton]; omega) fun x hx => ?_)
    rcases List.mem_append.mp hx with hx | hx
    · exact (aM x hx).oldU o3
    · rw [List.mem_singleton.mp hx]
      refine .tup (fun y hy => ?_) (by have := cl none (some (-1)); rw [List.length_map] at this; rw [List.length_append, List.length_singleton]; omega)
      rcases List.mem_append.mp hy with hy | hy
      · exact (rowI _ _ y (ci _ _ y hy)).mono (by decide)
      · rw [List.mem_singleton.mp hy]; exact .i (by decide)
  · walk_at "dl"
    exact s_seq (fin g M (tpg.mono (by omega)) (O8.trans og) hM (by omega) aM)

abbrev s_law : Stmt := top 34
theorem sc_law : FnScope ["_law_script", "_law_k", "_law_feed_here", "_law_pot_here", "_law_things", "_law_j", "_law_thing", "_law_turn"] ["_law_script"] (defScope s_law) := ⟨rfl, rfl, rfl, by decide +kernel, rfl, by decide +kernel, by decide +kernel⟩
/- law : 0 _law_script, 1 _law_k, 2 _law_feed_here, 3 _law_pot_here, 4 _law_things, 5 _law_j, 6 _law_thing, 7 _law_turn -/
theorem st_law (x0 : DV) : start0 8 [x0] = [some x0, none, none, none, none, none, none, none] := rfl
def w_law : DS := (wSeq (wFor (wiRange1 (wCons (wC (.int 6)) wNil)) (wgName 1)
  (wSeq (wSet 2 (wCall d_law_feed (wCons (wVar 0) (wCons (wVar 1) wNil))))
  (wSeq (wSet 3 (wCall d_law_pot (wCons (wVar 2) wNil)))
  (wSeq (wIfS (wOrT (wNotT (wTst (wCall d_law_names_right (wCons (wVar 2) wNil)))) (wNotT (wTst (wCall d_law_rows_right (wCons (wVar 2) (wCons (wCall d_law_draw (wCons (wVar 2) (wCons (wC (.int 4)) wNil))) wNil))))))
  (wRet (wC (.bl false)))
  wNext)
  (wSeq (wSet 4 (wLst (wCons (wVar 3) wNil)))
  (wSeq (wFor (wiRange1 (wCons (wC (.int 4)) wNil)) (wgName 5)
  (wSeq (wSet 6 (wVar 3))
  (wSeq (wFor (wiRange1 (wCons (wOp dAdd (wC (.int 1)) (wCall d_law_draw (wCons (wVar 2) (wCons (wC (.int 3)) wNil)))) wNil)) (wgName 7)
  (wSet 6 (wCall d_law_bent (wCons (wVar 2) (wCons (wVar 6) (wCons (wC (.int 0)) wNil))))))
  (wExpr (wBM "list" dAppend (wVar 4) (wCons (wVar 6) wNil))))))
  (wSeq (wFor (wiSeq (wVar 4)) (wgName 6)
  (wIfS (wTst (wOp (dEq true) (wCB dRepr (wCons (wCall d_is_pot (wCons (wVar 6) wNil)) wNil)) (wCB dRepr (wCons (wCall d_law_is_pot (wCons (wVar 6) wNil)) wNil))))
  (wRet (wC (.bl false)))
  wNext))
  (wIfS (wNotT (wTst (wCall d_law_is_pot (wCons (wVar 3) wNil))))
  (wRet (wC (.bl false)))
  wNext))))))))
  (wRet (wC (.bl true))))

theorem len_lawD : ∀ ds G Q Y, lawD ds G Q Y → ds.length = 1 := by
  rintro ds G Q Y ⟨ns, rfl, _⟩; rfl
theorem pool_name : ∀ x ∈ poolA, nameT x = true := by decide +kernel
theorem rdv_tq {t u : Addr} {G : Gh} {r : List Int × List Int} {n : Nat} (R : RlA r n) (hn : n ≤ 8) : Tq t u G 8 (rdv r) := by
  have one : ∀ l : List Int, l.length = n → Dig l → Tq t u G 8 (.tup (l.map .int)) := fun l hl hd => .tup (fun x hx => by
    obtain ⟨y, hy, rfl⟩ := List.mem_map.mp hx
    have := hd y hy
    exact .i (by omega)) (by rw [List.length_map]; omega)
  refine .tup (fun x hx => ?_) (by simp)
  rcases List.mem_cons.mp hx with rfl | hx
  · exact one _ R.l1 R.d1
  · rw [List.mem_singleton.mp hx]; exact one _ R.l2 R.d2
theorem pot_tq {t u : Addr} {G : Gh} {p : Pt} (P : PtFit p) : Tq t u G 8 p.dv := by
  have n1 := P.n1
  have rn := P.rn
  have il := P.il
  have a0 := P.a0
  have a1 := P.a1
  refine .tup (fun x hx => ?_) (by simp)
  simp only [List.mem_cons, List.not_mem_nil, or_false] at hx
  rcases hx with rfl | rfl | rfl | rfl | rfl
  · refine .tup (fun y hy => ?_) (by rw [List.length_map]; exact n1)
    obtain ⟨w, hw, rfl⟩ := List.mem_map.mp hy
    exact .str _ (pool_short w (P.nm w hw))
  · refine .tup (fun y hy => ?_) (by rw [List.length_map]; exact rn)
    obtain ⟨w, hw, rfl⟩ := List.mem_map.mp hy
    exact rdv_tq (P.rf w hw) n1
  · refine .tup (fun y hy => ?_) (by rw [List.length_map]; omega)
    obtain ⟨w, hw, rfl⟩ := List.mem_map.mp hy
    have := P.ib w hw
    exact .i (by omega)
  · refine .tup (fun y hy => ?_) (by rw [List.length_map, P.bl]; exact n1)
    obtain ⟨w, hw, rfl⟩ := List.mem_map.mp hy
    have := P.bb w hw
    exact .i (by omega)
  · exact .i (by omega)
theorem row_yes {l : List Int} {n hi : Int} (hl : (l.length : Int) = n) (h : ∀ x ∈ l, 0 ≤ x ∧ x ≤ hi) : rowB (.tup (l.map .int)) n hi = true := by
  show (decide (((l.map DV.int).length : Int) = n) && (l.map DV.int).all fun x => wholeB x 0 hi) = true
  rw [List.length_map, decide_eq_true hl, Bool.true_and, List.all_map, List.all_eq_true]
  intro x hx
  have := h x hx
  simp only [Function.comp, wholeB, Bool.and_eq_true, decide_eq_true_eq]
  exact this
theorem intV_map (l : List Int) : (l.map DV.int).map intV = l := by
  rw [List.map_map]
  exact (List.map_congr_left fun _ _ => rfl).trans (List.map_id l)
theorem strV_map (l : List Str) : (l.map DV.str).map strV = l := by
  rw [List.map_map]
  exact (List.map_congr_left fun _ _ => rfl).trans (List.map_id l)
theorem pot_yes {p : Pt} (P : PtFit p) : potB p.dv = true := by
  have n0 := P.n0
  have n1 := P.n1
  have rn := P.rn
  have il := P.il
  have a0 := P.a0
  have a1 := P.a1
  have hl : lenD' (.tup (p.names.map .str)) = (p.names.length : Nat) := by show (((p.names.map DV.str).length : Nat) : Int) = _; rw [List.length_map]
  show (sortsB (.tup (p.names.map .str)) && (rulesB (.tup (p.rules.map rdv)) (lenD' (.tup (p.names.map .str))) && (inputsB (.tup (p.ins.map .int)) (lenD' (.tup (p.names.map .str))) && (rowB (.tup (p.beg.map .int)) (lenD' (.tup (p.names.map .str))) 99 && wholeB (.int p.ans) 0 (lenD' (.tup (p.names.map .str)) - 1))))) = true
  rw [hl]
  have h1 : sortsB (.tup (p.names.map .str)) = true := by
    rw [sorts_two, List.length_map, decide_eq_true n0, decide_eq_true n1, strV_map, decide_eq_true P.nd, List.all_map]
    simp only [Bool.true_and, Bool.and_true, List.all_eq_true]
    exact fun x hx => pool_name x (P.nm x hx)
  have h2 : rulesB (.tup (p.rules.map rdv)) (p.names.length : Nat) = true := by
    rw [rules_two, List.length_map, decide_eq_true rn, List.all_map]
    simp only [Bool.true_and, List.all_eq_true]
    intro r hr
    have R := P.rf r hr
    show ruleB (.tup [.tup (r.1.map .int), .tup (r.2.map .int)]) _ = true
    rw [rule_two, row_yes (by rw [R.l1]) R.d1, row_yes (by rw [R.l2]) R.d2]
    show (true && true && (decide (0 < ((r.1.map DV.int).map intV).sum) && !decide ((r.1.map DV.int).map intV = (r.2.map DV.int).map intV))) = true
    rw [intV_map, intV_map, decide_eq_false R.ne]
    have : 0 < r.1.sum := by
      obtain ⟨x, hx, h0⟩ := R.pos
      have := (le_sum fun x hx => (R.d1 x hx).1).2 x hx
      omega
    rw [decide_eq_true this]; rfl
  have h3 : inputsB (.tup (p.ins.map .int)) (p.names.length : Nat) = true := by
    rw [inputs_two, List.length_map, decide_eq_true il, intV_map, decide_eq_true P.idd, List.all_map]
    simp only [Bool.true_and, Bool.and_true, List.all_eq_true]
    intro x hx
    have := P.ib x hx
    simp only [Function.comp, wholeB, Bool.and_eq_true, decide_eq_true_eq]
    omega
  have h4 : rowB (.tup (p.beg.map .int)) (p.names.length : Nat) 99 = true := row_yes (by rw [P.bl]) P.bb
  have h5 : wholeB (.int p.ans) 0 ((p.names.length : Nat) - 1) = true := by
    simp only [wholeB, Bool.and_eq_true, decide_eq_true_eq]; omega
  rw [h1, h2, h3, h4, h5]; rfl
theorem ok_law : ∀ ds G Q Y, lawD ds G Q Y → w_law (bodyEnds Q Y) (start0 8 ds) G := by
  rintro ds G Q Y ⟨ns, rfl, hn, rfl, q⟩
  rw [st_law]
  unfold w_law
  refine s_seq (s_for ?_)
  walk_at "dl"
  refine forR (fun i e g => ∃ b1 b2 b3 b4 b5 b6 b7, e = [some (.ro (ns.map .int)), b1, b2, b3, b4, b5, b6, b7]) ⟨_, _, _, _, _, _, _, rfl⟩ (fun _ _ _ _ => trivial) ?_ ?_
  · rintro i e g K hi ⟨b1, b2, b3, b4, b5, b6, b7, rfl⟩ kk
    have hi : i < 6 := hi
    rw [Int.zero_add]
    walk_at "dl"
    refine ⟨ns, (i : Nat), rfl, hn, by omega, by omega, fun t G2 ht s2 tp2 => ?_⟩
    walk_at "dl"
    refine ⟨t, 0, rfl, tp2, by decide, fun p G3 P tp3 o3 => ?_⟩
    walk_at "dl"
    walk_at "if"
    refine ⟨t, _, rfl, tp3, by decide, fun G4 tp4 o4 => ?_⟩
    walk_at "dl"
    refine ⟨t, 4, _, rfl, tp4, by decide, by decide, by decide, fun v G5 v0 v1 tp5 o5 => ?_⟩
    obtain ⟨m, rfl⟩ := Int.eq_ofNat_of_zero_le v0
    walk_at "dl"
    refine ⟨t, _, m, rfl, tp5, by decide, by omega, fun G6 tp6 o6 => ?_⟩
    walk_at "dl"
    intro p7 G7 hp7 s7 e7
    have n7 : p7 ≠ t := tp6.ne1 hp7
    have tp7 := tp6.sub s7
    walk_at "dl"
    refine s_seq (s_for ?_)
    walk_at "dl"
    have pz : ∀ G, Tz t G p.dv := fun G => (pot_tq (u := t) P).tz (by decide)
    refine forR (fun j e g => FeedA g t (3000 + 400 * j) ∧ (∃ M : List DV, g p7 = some (.lst M) ∧ M.length ≤ 10 + j ∧ ∀ x ∈ M, Tq t p7 g 100 x) ∧ ∃ b5 b6 b7, e = [some (.ro (ns.map .int)), some (.int (i : Nat)), some (.ref t), some p.dv, some (.ref p7), b5, b6, b7]) ⟨tp7.mono (by decide), ⟨_, e7, by simp, fun x hx => by rw [List.mem_singleton.mp hx]; exact (pot_tq P).mono (by decide)⟩, _, _, _, rfl⟩ (fun _ _ _ _ => trivial) ?_ ?_
    · rintro j e g K2 hj ⟨tpg, ⟨M, hM, lM, aM⟩, b5, b6, b7, rfl⟩ k2
      have hj : j < 4 := hj
      rw [Int.zero_add]
      walk_at "dl"
      refine s_seq (s_for ?_)
      walk_at "dl"
      refine ⟨t, 3, _, rfl, tpg, by omega, by decide, by decide, fun w g2 w0 w1 tpa oa => ?_⟩
      obtain ⟨c, rfl⟩ := Int.eq_ofNat_of_zero_le w0
      have hM := oa _ _ n7 hM
      have aM : ∀ x ∈ M, Tq t p7 g2 100 x := fun x hx => (aM x hx).old oa
      walk_at "dl"
      refine s_rng1 (by omega) ?_
      rw [show ((1 : Int) + (c : Nat)).toNat = c + 1 by omega]
      refine forR (fun k e g => FeedA g t (3000 + 400 * j + 1 + 90 * k) ∧ Old t g2 g ∧ ∃ d b7, Tq t p7 g (10 * 2 ^ k - 2) d ∧ e = [some (.ro (ns.map .int)), some (.int (i : Nat)), some (.ref t), some p.dv, some (.ref p7), some (.int (j : Nat)), some d, b7]) ⟨tpa, Old.refl, _, _, pot_tq P, rfl⟩ (fun _ _ _ _ => trivial) ?_ ?_
      · rintro k e g K3 hk ⟨tpk, ok, d, b7, T, rfl⟩ k3
        have hk3 : k = 0 ∨ k = 1 ∨ k = 2 := by omega
        have e1 : 2 ≤ 10 * 2 ^ k - 2 ∧ 10 * 2 ^ k - 2 ≤ 400 ∧ 2 * (10 * 2 ^ k - 2) + 2 = 10 * 2 ^ (k + 1) - 2 := by rcases hk3 with rfl | rfl | rfl <;> decide
        rw [Int.zero_add]
        walk_at "dl"
        refine ⟨t, p7, _, _, d, 0, rfl, tpk, ⟨_, ok _ _ n7 hM⟩, n7, by omega, T, e1.1, e1.2.1, by decide, by decide, fun d2 g3 T2 tp3 o3 => ?_⟩
        walk_at "dl"
        rw [e1.2.2] at T2
        exact k3 _ _ ⟨tp3.mono (by omega), ok.trans o3, d2, _, T2, rfl⟩
      · rintro e g ⟨tpk, ok, d, b7, T, rfl⟩
        have hc : c = 0 ∨ c = 1 ∨ c = 2 := by omega
        have e1 : 10 * 2 ^ (c + 1) - 2 ≤ 100 := by rcases hc with rfl | rfl | rfl <;> decide
        have hM := ok _ _ n7 hM
        walk_at "dl"
        · rw [sizeLine_eq]; omega
        intro g3 o3 e3
        walk_at "dl"
        refine k2 _ _ ⟨(tpk.old o3 n7 n7).mono (by omega), ⟨_, e3, by rw [List.length_append, List.length_singleton]; omega, fun x hx => ?_⟩, _, _, _, rfl⟩
        rcases List.mem_append.mp hx with hx | hx
        · exact ((aM x hx).old ok).oldU o3
        · rw [List.mem_singleton.mp hx]; exact (T.mono e1).oldU o3
    rintro e g ⟨tpg, ⟨M, hM, lM, aM⟩, b5, b6, b7, rfl⟩
    walk_at "dl"
    refine s_seq (s_for ?_)
    walk_at "dl"
    obtain ⟨us, rfl⟩ : ∃ us : List DV, M = us.map id := ⟨M, (List.map_id M).symm⟩
    refine forT id (fun j e g' => Sub g g' ∧ ∃ b5 b6 b7, e = [some (.ro (ns.map .int)), some (.int (i : Nat)), some (.ref t), some p.dv, some (.ref p7), b5, b6, b7]) ⟨Sub.refl, _, _, _, rfl⟩ (fun _ _ _ h => h.1 _ _ hM) ?_ ?_
    · rintro j x e g' K2 ex mem ⟨sg, b5, b6, b7, rfl⟩ k2
      have hx := ((aM x (by rw [List.map_id]; exact mem)).sub sg).tz (by decide)
      obtain ⟨bF, bP⟩ := bl_repr (b := potB x)
      walk_at "dl"
      walk_at "if"
      refine ⟨t, x, rfl, hx, fun g2 s2 => ?_⟩
      walk_at "dl"
      refine s_repr (dr_pure _ bP) bF ?_
      generalize hS : (DV.bl (potB x)).pd.shown = S
      walk_at "dl"
      refine ⟨t, x, rfl, hx.sub s2, fun g3 s3 => ?_⟩
      walk_at "dl"
      refine s_repr (dr_pure _ bP) bF ?_
      rw [hS]
      walk_at "dl"
      refine s_noB (by simp) ?_
      walk_at "dl"
      exact k2 _ _ ⟨sg.trans (s2.trans s3), _, _, _, rfl⟩
    · rintro e g' ⟨sg, b5, b6, b7, rfl⟩
      walk_at "dl"
      walk_at "if"
      refine ⟨t, p.dv, rfl, pz _, fun g2 s2 => ?_⟩
      rw [pot_yes P]
      walk_at "dl"
      exact kk _ _ ⟨_, _, _, _, _, _, _, rfl⟩
  · rintro e g ⟨b1, b2, b3, b4, b5, b6, b7, rfl⟩
    walk_at "dl"
    exact q _

theorem f_law_feed {P : Program} {w : World} {K : PySem.W.Frag} {mg : Str → Option Value} {base : Heap} (Z : BI mg bins) (D : DefAt K mg "_law_feed" s_law_feed ["_law_script", "_law_k"]) : Has P w K mg base 1 "_law_feed" ["_law_script", "_law_k"] d_law_feed :=
  D.has fun f fd F => fg_of (k := 0) (wb := w_law_feed) F sc_law_feed len_law_feed (fun cdv A outer s H E hgd hr =>
  (qss_cons (qs_set 2 sc_law_feed.nd (q_op o_add (q_op o_mul q_int (q_var 1)) q_int))
  (qss_cons (qs_if (qt_cmp o_gt (q_callB c_len (Z.at "len") (qa_cons (q_var 0) qa_nil)) q_int)
  (qss_one (qs_set 2 sc_law_feed.nd (q_op o_add (q_ix o_ix (q_var 0) (q_op o_mod (q_var 1) (q_callB c_len (Z.at "len") (qa_cons (q_var 0) qa_nil)))) (q_op o_mul q_int (q_op o_fdiv (q_var 1) (q_callB c_len (Z.at "len") (qa_cons (q_var 0) qa_nil)))))))
  qss_nil)
  (qss_cons (qs_set 3 sc_law_feed.nd (q_ifExp (qt_cmp o_ge (q_var 2) (q_op o_pow q_int q_int)) (q_var 2) q_int))
  (qss_one (qs_ret (q_lst (qa_cons (q_var 3) (qa_cons (q_op o_add (q_op o_add (q_op o_mod (q_var 2) q_int) (q_op o_mul q_int (q_var 1))) q_int) (qa_cons q_int qa_nil)))))))))) ok_law_feed

theorem f_law_draw {P : Program} {w : World} {K : PySem.W.Frag} {mg : Str → Option Value} {base : Heap} (Z : BI mg bins) (D : DefAt K mg "_law_draw" s_law_draw ["_law_feed_here", "_law_many"]) : Has P w K mg base 1 "_law_draw" ["_law_feed_here", "_law_many"] d_law_draw :=
  D.has fun f fd F => fg_of (k := 0) (wb := w_law_draw) F sc_law_draw len_law_draw (fun cdv A outer s H E hgd hr =>
  (qss_cons (qs_asg (q_op o_add (q_ix o_ix (q_var 0) q_int) q_int) (qg_sub' (W := W0) (q_var 0) q_int o_set))
  (qss_cons (qs_if (qt_cmp o_gt (q_ix o_ix (q_var 0) q_int) q_int)
  (qss_cons (qs_set 2 sc_law_draw.nd (q_op o_mod (q_ix o_ix (q_var 0) q_int) (q_var 1)))
  (qss_cons (qs_asg (q_op o_fdiv (q_ix o_ix (q_var 0) q_int) (q_var 1)) (qg_sub' (W := W0) (q_var 0) q_int o_set))
  (qss_one (qs_ret (q_var 2)))))
  qss_nil)
  (qss_cons (qs_set 3 sc_law_draw.nd (q_op o_mod (q_op o_mul (q_op o_mod (q_op o_add (q_ix o_ix (q_var 0) q_int) (q_op o_mul q_int (q_ix o_ix (q_var 0) q_int))) q_int) q_int) q_int))
  (qss_cons (qs_set 3 sc_law_draw.nd (q_op o_mod (q_op o_mul (q_var 3) (q_op o_add (q_var 3) q_int)) q_int))
  (qss_one (qs_ret (q_op o_mod (q_op o_fdiv (q_op o_mod (q_op o_mul (q_var 3) q_int) q_int) q_int) (q_var 1))))))))) ok_law_draw

theorem f_law_names {P : Program} {w : World} {K : PySem.W.Frag} {mg : Str → Option Value} {base : Heap} (Z : BI mg bins) (h_law_draw : Has P w K mg base 1 "_law_draw" ["_law_feed_here", "_law_many"] d_law_draw) (D : DefAt K mg "_law_names" s_law_names ["_law_feed_here", "_law_many"]) : Has P w K mg base 2 "_law_names" ["_law_feed_here", "_law_many"] d_law_names :=
  D.has fun f fd F => fg_of (k := 1) (wb := w_law_names) F sc_law_names len_law_names (fun cdv A outer s H E hgd hr =>
  (qss_cons (qs_set 2 sc_law_names.nd (q_lst (qa_cons q_str (qa_cons q_str (qa_cons q_str (qa_cons q_str (qa_cons q_str (qa_cons q_str (qa_cons q_str (qa_cons q_str (qa_cons q_str (qa_cons q_str (qa_cons q_str (qa_cons q_str qa_nil))))))))))))))
  (qss_cons (qs_set 3 sc_law_names.nd (q_callH h_law_draw hgd hr (takes_of rfl rfl rfl rfl) (qa_cons (q_var 0) (qa_cons q_int qa_nil)) (by decide)))
  (qss_cons (qs_set 4 sc_law_names.nd (q_ix o_ix (q_lst (qa_cons q_int (qa_cons q_int (qa_cons q_int (qa_cons q_int qa_nil))))) (q_callH h_law_draw hgd hr (takes_of rfl rfl rfl rfl) (qa_cons (q_var 0) (qa_cons q_int qa_nil)) (by decide))))
  (qss_one (qs_ret (q_lc (own := [("_law_k", 5)]) rfl sc_law_names.nd (qi_range1 (Z.at "range") (qa_cons (q_var 1) qa_nil)) rfl (fun _ _ _ _ _ => (qg_name 5 sc_law_names.nd).pg) gok_name (fun _ _ _ _ _ => qts_nil) (fun _ _ _ _ _ => (q_ix o_ix (q_var 2) (q_op o_mod (q_op o_add (q_var 3) (q_op o_mul (q_var 4) (q_var 5))) q_int)))))))))) ok_law_names

theorem f_law_rule {P : Program} {w : World} {K : PySem.W.Frag} {mg : Str → Option Value} {base : Heap} (Z : BI mg bins) (h_law_draw : Has P w K mg base 1 "_law_draw" ["_law_feed_here", "_law_many"] d_law_draw) (D : DefAt K mg "_law_rule" s_law_rule ["_law_feed_here", "_law_many"]) : Has P w K mg base 2 "_law_rule" ["_law_feed_here", "_law_many"] d_law_rule :=
  D.has fun f fd F => fg_of (k := 1) (wb := w_law_rule) F sc_law_rule len_law_rule (fun cdv A outer s H E hgd hr =>
  (qss_cons (qs_setLc 2 (own := [("_law_sort", 3)]) rfl sc_law_rule.nd (qi_range1 (Z.at "range") (qa_cons (q_var 1) qa_nil)) rfl (fun _ _ _ _ _ => (qg_name 3 sc_law_rule.nd).pg) gok_name (fun _ _ _ _ _ => qts_nil) (fun _ _ _ _ _ => q_int))
  (qss_cons (qs_setLc 4 (own := [("_law_sort", 3)]) rfl sc_law_rule.nd (qi_range1 (Z.at "range") (qa_cons (q_var 1) qa_nil)) rfl (fun _ _ _ _ _ => (qg_name 3 sc_law_rule.nd).pg) gok_name (fun _ _ _ _ _ => qts_nil) (fun _ _ _ _ _ => q_int))
  (qss_cons (qs_for (passes_of rfl) rfl (qi_range1 (Z.at "range") (qa_cons (q_op o_add q_int (q_callH h_law_draw hgd hr (takes_of rfl rfl rfl rfl) (qa_cons (q_var 0) (qa_cons q_int qa_nil)) (by decide))) qa_nil)) (qg_name 5 sc_law_rule.nd)
  (qss_cons (qs_set 3 sc_law_rule.nd (q_callH h_law_draw hgd hr (takes_of rfl rfl rfl rfl) (qa_cons (q_var 0) (qa_cons (q_var 1) qa_nil)) (by decide)))
  (qss_one (qs_asg (q_op o_add (q_op o_add (q_ix o_ix (q_var 2) (q_var 3)) q_int) (q_callH h_law_draw hgd hr (takes_of rfl rfl rfl rfl) (qa_cons (q_var 0) (qa_cons q_int qa_nil)) (by decide))) (qg_sub' (W := W0) (q_var 2) (q_var 3) o_set)))))
  (qss_cons (qs_for (passes_of rfl) rfl (qi_range1 (Z.at "range") (qa_cons (q_callH h_law_draw hgd hr (takes_of rfl rfl rfl rfl) (qa_cons (q_var 0) (qa_cons q_int qa_nil)) (by decide)) qa_nil)) (qg_name 5 sc_law_rule.nd)
  (qss_cons (qs_set 3 sc_law_rule.nd (q_callH h_law_draw hgd hr (takes_of rfl rfl rfl rfl) (qa_cons (q_var 0) (qa_cons (q_var 1) qa_nil)) (by decide)))
  (qss_one (qs_asg (q_op o_add (q_op o_add (q_ix o_ix (q_var 4) (q_var 3)) q_int) (q_callH h_law_draw hgd hr (takes_of rfl rfl rfl rfl) (qa_cons (q_var 0) (qa_cons q_int qa_nil)) (by decide))) (qg_sub' (W := W0) (q_var 4) (q_var 3) o_set)))))
  (qss_cons (qs_set 6 sc_law_rule.nd (q_callH h_law_draw hgd hr (takes_of rfl rfl rfl rfl) (qa_cons (q_var 0) (qa_cons q_int qa_nil)) (by decide)))
  (qss_cons (qs_set 3 sc_law_rule.nd (q_callH h_law_draw hgd hr (takes_of rfl rfl rfl rfl) (qa_cons (q_var 0) (qa_cons (q_var 1) qa_nil)) (by decide)))
  (qss_cons (qs_if (qt_cmp o_lt (q_var 6) q_int)
  (qss_one (qs_asg (q_ix o_ix (q_var 2) (q_var 3)) (qg_sub' (W := W0) (q_var 4) (q_var 3) o_set)))
  qss_nil)
  (qss_cons (qs_if (qt_cmp (o_eq (room_u hr)) (q_var 6) q_int)
  (qss_one (qs_asg q_int (qg_sub' (W := W0) (q_var 2) (q_var 3) o_set)))
  qss_nil)
  (qss_cons (qs_if (qt_cmp (o_eq (room_u hr)) (q_var 2) (q_var 4))
  (qss_one (qs_asg (q_ix o_ix (q_lst (qa_cons (q_op o_add (q_ix o_ix (q_var 4) (q_var 3)) q_int) (qa_cons q_int qa_nil))) (q_callTy c_int (Z.at "int") (qa_cons (q_cmp (o_eq (room_u hr)) (q_ix o_ix (q_var 2) (q_var 3)) q_int) qa_nil))) (qg_sub' (W := W0) (q_var 4) (q_var 3) o_set)))
  qss_nil)
  (qss_one (qs_ret (q_tup (qa_cons (q_callTy (c_tuple rfl) (Z.at "tuple") (qa_cons (q_var 2) qa_nil)) (qa_cons (q_callTy (c_tuple rfl) (Z.at "tuple") (qa_cons (q_var 4) qa_nil)) qa_nil))))))))))))))) ok_law_rule

theorem f_law_pot {P : Program} {w : World} {K : PySem.W.Frag} {mg : Str → Option Value} {base : Heap} (Z : BI mg bins) (h_law_draw : Has P w K mg base 1 "_law_draw" ["_law_feed_here", "_law_many"] d_law_draw) (h_law_names : Has P w K mg base 2 "_law_names" ["_law_feed_here", "_law_many"] d_law_names) (h_law_rule : Has P w K mg base 2 "_law_rule" ["_law_feed_here", "_law_many"] d_law_rule) (D : DefAt K mg "_law_pot" s_law_pot ["_law_feed_here"]) : Has P w K mg base 3 "_law_pot" ["_law_feed_here"] d_law_pot :=
  D.has fun f fd F => fg_of (k := 2) (wb := w_law_pot) F sc_law_pot len_law_pot (fun cdv A outer s H E hgd hr =>
  (qss_cons (qs_set 1 sc_law_pot.nd (q_ix o_ix (q_lst (qa_cons q_int (qa_cons q_int (qa_cons q_int (qa_cons q_int (qa_cons q_int (qa_cons q_int (qa_cons q_int (qa_cons q_int qa_nil))))))))) (q_callH h_law_draw hgd hr (takes_of rfl rfl rfl rfl) (qa_cons (q_var 0) (qa_cons q_int qa_nil)) (by decide))))
  (qss_cons (qs_set 2 sc_law_pot.nd (q_callTy (c_tuple rfl) (Z.at "tuple") (qa_cons (q_callH h_law_names hgd hr (takes_of rfl rfl rfl rfl) (qa_cons (q_var 0) (qa_cons (q_var 1) qa_nil)) (by decide)) qa_nil)))
  (qss_cons (qs_set 3 sc_law_pot.nd (q_callTy (c_tuple rfl) (Z.at "tuple") (qa_cons (q_lc (own := [("_law_k", 4)]) rfl sc_law_pot.nd (qi_range1 (Z.at "range") (qa_cons (q_ix o_ix (q_lst (qa_cons q_int (qa_cons q_int (qa_cons q_int (qa_cons q_int (qa_cons q_int (qa_cons q_int (qa_cons q_int (qa_cons q_int qa_nil))))))))) (q_callH h_law_draw hgd hr (takes_of rfl rfl rfl rfl) (qa_cons (q_var 0) (qa_cons q_int qa_nil)) (by decide))) qa_nil)) rfl (fun _ _ _ _ _ => (qg_name 4 sc_law_pot.nd).pg) gok_name (fun _ _ _ _ _ => qts_nil) (fun _ _ _ _ _ => (q_callH h_law_rule hgd hr takes0 (qa_cons (q_var 0) (qa_cons (q_var 1) qa_nil)) (by decide)))) qa_nil)))
  (qss_cons (qs_set 5 sc_law_pot.nd (q_listRg (Z.at "list") (Z.at "range") rfl (q_var 1)))
  (qss_cons (qs_set 6 sc_law_pot.nd (q_lst qa_nil))
  (qss_cons (qs_for (passes_of rfl) rfl (qi_range1 (Z.at "range") (qa_cons (q_callB (c_min rfl) (Z.at "min") (qa_cons (q_var 1) (qa_cons (q_ix o_ix (q_lst (qa_cons q_int (qa_cons q_int (qa_cons q_int (qa_cons q_int (qa_cons q_int qa_nil)))))) (q_callH h_law_draw hgd hr (takes_of rfl rfl rfl rfl) (qa_cons (q_var 0) (qa_cons q_int qa_nil)) (by decide))) qa_nil))) qa_nil)) (qg_name 4 sc_law_pot.nd)
  (qss_one (qs_expr (q_bm PySem.F.plainAttrs_list PySem.F.slot_list_append PySem.F.type_list_append m_append (q_var 6) (qa_cons (q_bm PySem.F.plainAttrs_list PySem.F.slot_list_pop PySem.F.type_list_pop m_pop (q_var 5) (qa_cons (q_callH h_law_draw hgd hr (takes_of rfl rfl rfl rfl) (qa_cons (q_var 0) (qa_cons (q_callB c_len (Z.at "len") (qa_cons (q_var 5) qa_nil)) qa_nil)) (by decide)) qa_nil)) qa_nil)))))
  (qss_cons (qs_set 7 sc_law_pot.nd (q_callTy (c_tuple rfl) (Z.at "tuple") (qa_cons (q_lc (own := [("_law_sort", 8)]) rfl sc_law_pot.nd (qi_seq (q_var 2)) rfl (fun _ _ _ _ _ => (qg_name 8 sc_law_pot.nd).pg) gok_name (fun _ _ _ _ _ => qts_nil) (fun _ _ _ _ _ => (q_ix o_ix (q_lst (qa_cons q_int (qa_cons q_int (qa_cons q_int (qa_cons q_int (qa_cons q_int (qa_cons (q_callH h_law_draw hgd hr takes0 (qa_cons (q_var 0) (qa_cons q_int qa_nil)) (by decide)) qa_nil))))))) (q_callH h_law_draw hgd hr takes0 (qa_cons (q_var 0) (qa_cons q_int qa_nil)) (by decide))))) qa_nil)))
  (qss_one (qs_ret (q_tup (qa_cons (q_var 2) (qa_cons (q_var 3) (qa_cons (q_callTy (c_tuple rfl) (Z.at "tuple") (qa_cons (q_var 6) qa_nil)) (qa_cons (q_var 7) (qa_cons (q_callH h_law_draw hgd hr (takes_of rfl rfl rfl rfl) (qa_cons (q_var 0) (qa_cons (q_var 1) qa_nil)) (by decide)) qa_nil)))))))))))))))) ok_law_pot

theorem f_is_name {P : Program} {w : World} {K : PySem.W.Frag} {mg : Str → Option Value} {base : Heap} (Z : BI mg bins) (C_LETTERS : ConstAt K mg "LETTERS" (.str "abcdefghijklmnopqrstuvwxyz")) (C_MOST_LETTERS : ConstAt K mg "MOST_LETTERS" (.int 8)) (C_WORDS : ConstAt K mg "WORDS" (.kt [.str "sorts", .str "begin", .str "in", .str "out", .str "rule", .str "to"])) (D : DefAt K mg "is_name" s_is_name ["thing"]) : Has P w K mg base 1 "is_name" ["thing"] d_is_name :=
  D.has fun f fd F => fg_of (k := 0) (wb := w_is_name) F sc_is_name len_is_name (fun cdv A outer s H E hgd hr =>
  (qss_cons (qs_if (qt_w (qw_or (qt_not (qt_val (q_callB c_isi (Z.at "isinstance") (qa_cons (q_var 0) (qa_cons (q_bty (n := "str") (u := .type "str") (Z.at "str")) qa_nil))))) (qw_or (qt_not (qt_chain o_le o_le q_int (q_callB c_len (Z.at "len") (qa_cons (q_var 0) qa_nil)) (q_cst C_MOST_LETTERS))) (qw_or1 (qt_cmp o_in (q_var 0) (q_cst C_WORDS))))))
  (qss_one (qs_ret q_bl))
  qss_nil)
  (qss_one (qs_ret (q_callB (c_all rfl) (Z.at "all") (qa_cons (q_lc (own := [("sign", 1)]) rfl sc_is_name.nd (qi_seq (q_var 0)) rfl (fun _ _ _ _ _ => (qg_name 1 sc_is_name.nd).pg) gok_name (fun _ _ _ _ _ => qts_nil) (fun _ _ _ _ _ => (q_cmp o_in (q_var 1) (q_cst C_LETTERS)))) qa_nil)))))) ok_is_name

theorem f_is_whole {P : Program} {w : World} {K : PySem.W.Frag} {mg : Str → Option Value} {base : Heap} (Z : BI mg bins) (D : DefAt K mg "is_whole" s_is_whole ["thing"]) : Has P w K mg base 1 "is_whole" ["thing"] d_is_whole :=
  D.has fun f fd F => fg_of (k := 0) (wb := w_is_whole) F sc_is_whole len_is_whole (fun cdv A outer s H E hgd hr =>
  (qss_one (qs_ret (q_and (q_callB c_isi (Z.at "isinstance") (qa_cons (q_var 0) (qa_cons (q_bty (n := "int") (u := .type "int") (Z.at "int")) qa_nil))) (q_one (q_not (q_callB c_isi (Z.at "isinstance") (qa_cons (q_var 0) (qa_cons (q_bty (n := "bool") (u := .type "bool") (Z.at "bool")) qa_nil))))))))) ok_is_whole

theorem f_is_counts {P : Program} {w : World} {K : PySem.W.Frag} {mg : Str → Option Value} {base : Heap} (Z : BI mg bins) (h_is_whole : Has P w K mg base 1 "is_whole" ["thing"] d_is_whole) (D : DefAt K mg "is_counts" s_is_counts ["many", "thing"]) : Has P w K mg base 2 "is_counts" ["many", "thing"] d_is_counts :=
  D.has fun f fd F => fg_of (k := 1) (wb := w_is_counts) F sc_is_counts len_is_counts (fun cdv A outer s H E hgd hr =>
  (qss_one (qs_ret (q_and (q_callB c_isi (Z.at "isinstance") (qa_cons (q_var 1) (qa_cons (q_bty (n := "tuple") (u := .type "tuple") (Z.at "tuple")) qa_nil))) (q_and (q_cmp (o_eq (room_u hr)) (q_callB c_len (Z.at "len") (qa_cons (q_var 1) qa_nil)) (q_var 0)) (q_one (q_callB (c_all rfl) (Z.at "all") (qa_cons (q_lc (own := [("one", 2)]) rfl sc_is_counts.nd (qi_seq (q_var 1)) rfl (fun _ _ _ _ _ => (qg_name 2 sc_is_counts.nd).pg) gok_name (fun _ _ _ _ _ => qts_nil) (fun _ _ _ _ _ => (q_and (q_callH h_is_whole hgd hr takes0 (qa_cons (q_var 2) qa_nil) (by decide)) (q_one (q_cmp o_ge (q_var 2) q_int))))) qa_nil)))))))) ok_is_counts

theorem f_is_stand {P : Program} {w : World} {K : PySem.W.Frag} {mg : Str → Option Value} {base : Heap} (Z : BI mg bins) (h_is_counts : Has P w K mg base 2 "is_counts" ["many", "thing"] d_is_counts) (D : DefAt K mg "is_stand" s_is_stand ["many", "thing"]) : Has P w K mg base 3 "is_stand" ["many", "thing"] d_is_stand :=
  D.has fun f fd F => fg_of (k := 2) (wb := w_is_stand) F sc_is_stand len_is_stand (fun cdv A outer s H E hgd hr =>
  (qss_one (qs_ret (q_callH h_is_counts hgd hr (takes_of rfl rfl rfl rfl) (qa_cons (q_var 0) (qa_cons (q_var 1) qa_nil)) (by decide))))) ok_is_stand

theorem f_is_amounts {P : Program} {w : World} {K : PySem.W.Frag} {mg : Str → Option Value} {base : Heap} (Z : BI mg bins) (h_is_counts : Has P w K mg base 2 "is_counts" ["many", "thing"] d_is_counts) (D : DefAt K mg "is_amounts" s_is_amounts ["many", "thing"]) : Has P w K mg base 3 "is_amounts" ["many", "thing"] d_is_amounts :=
  D.has fun f fd F => fg_of (k := 2) (wb := w_is_amounts) F sc_is_amounts len_is_amounts (fun cdv A outer s H E hgd hr =>
  (qss_one (qs_ret (q_callH h_is_counts hgd hr (takes_of rfl rfl rfl rfl) (qa_cons (q_var 0) (qa_cons (q_var 1) qa_nil)) (by decide))))) ok_is_amounts

theorem f_is_rule {P : Program} {w : World} {K : PySem.W.Frag} {mg : Str → Option Value} {base : Heap} (Z : BI mg bins) (h_is_counts : Has P w K mg base 2 "is_counts" ["many", "thing"] d_is_counts) (C_MOST_MOVED : ConstAt K mg "MOST_MOVED" (.int 9)) (D : DefAt K mg "is_rule" s_is_rule ["many", "thing"]) : Has P w K mg base 3 "is_rule" ["many", "thing"] d_is_rule :=
  D.has fun f fd F => fg_of (k := 2) (wb := w_is_rule) F sc_is_rule len_is_rule (fun cdv A outer s H E hgd hr =>
  (qss_cons (qs_if (qt_w (qw_or (qt_not (qt_val (q_callB c_isi (Z.at "isinstance") (qa_cons (q_var 1) (qa_cons (q_bty (n := "tuple") (u := .type "tuple") (Z.at "tuple")) qa_nil))))) (qw_or1 (qt_cmp (o_ne (room_u hr)) (q_callB c_len (Z.at "len") (qa_cons (q_var 1) qa_nil)) q_int))))
  (qss_one (qs_ret q_bl))
  qss_nil)
  (qss_cons (qs_if (qt_not (qt_val (q_callB (c_all rfl) (Z.at "all") (qa_cons (q_lc (own := [("side", 2)]) rfl sc_is_rule.nd (qi_seq (q_var 1)) rfl (fun _ _ _ _ _ => (qg_name 2 sc_is_rule.nd).pg) gok_name (fun _ _ _ _ _ => qts_nil) (fun _ _ _ _ _ => (q_and (q_callH h_is_counts hgd hr takes0 (qa_cons (q_var 0) (qa_cons (q_var 2) qa_nil)) (by decide)) (q_one (q_cmp o_le (q_callB (c_max rfl) (Z.at "max") (qa_cons (q_var 2) qa_nil)) (q_cst C_MOST_MOVED)))))) qa_nil))))
  (qss_one (qs_ret q_bl))
  qss_nil)
  (qss_one (qs_ret (q_and (q_cmp o_gt (q_callB (c_sum rfl) (Z.at "sum") (qa_cons (q_ix o_ix (q_var 1) q_int) qa_nil)) q_int) (q_one (q_cmp (o_ne (room_u hr)) (q_ix o_ix (q_var 1) q_int) (q_ix o_ix (q_var 1) q_int))))))))) ok_is_rule

theorem f_are_sorts {P : Program} {w : World} {K : PySem.W.Frag} {mg : Str → Option Value} {base : Heap} (Z : BI mg bins) (h_is_name : Has P w K mg base 1 "is_name" ["thing"] d_is_name) (C_MOST_SORTS : ConstAt K mg "MOST_SORTS" (.int 8)) (D : DefAt K mg "are_sorts" s_are_sorts ["thing"]) : Has P w K mg base 2 "are_sorts" ["thing"] d_are_sorts :=
  D.has fun f fd F => fg_of (k := 1) (wb := w_are_sorts) F sc_are_sorts len_are_sorts (fun cdv A outer s H E hgd hr =>
  (qss_cons (qs_if (qt_w (qw_or (qt_not (qt_val (q_callB c_isi (Z.at "isinstance") (qa_cons (q_var 0) (qa_cons (q_bty (n := "tuple") (u := .type "tuple") (Z.at "tuple")) qa_nil))))) (qw_or1 (qt_not (qt_chain o_le o_le q_int (q_callB c_len (Z.at "len") (qa_cons (q_var 0) qa_nil)) (q_cst C_MOST_SORTS))))))
  (qss_one (qs_ret q_bl))
  qss_nil)
  (qss_one (qs_ret (q_and (q_callB (c_all rfl) (Z.at "all") (qa_cons (q_lc (own := [("one", 1)]) rfl sc_are_sorts.nd (qi_seq (q_var 0)) rfl (fun _ _ _ _ _ => (qg_name 1 sc_are_sorts.nd).pg) gok_name (fun _ _ _ _ _ => qts_nil) (fun _ _ _ _ _ => (q_callH h_is_name hgd hr takes0 (qa_cons (q_var 1) qa_nil) (by decide)))) qa_nil)) (q_one (q_cmp (o_eq (room_u hr)) (q_lenSetTG (Z.at "len") (Z.at "set") rfl (q_var 0)) (q_callB c_len (Z.at "len") (qa_cons (q_var 0) qa_nil))))))))) ok_are_sorts

theorem f_are_inputs {P : Program} {w : World} {K : PySem.W.Frag} {mg : Str → Option Value} {base : Heap} (Z : BI mg bins) (h_is_whole : Has P w K mg base 1 "is_whole" ["thing"] d_is_whole) (C_MOST_INPUTS : ConstAt K mg "MOST_INPUTS" (.int 3)) (D : DefAt K mg "are_inputs" s_are_inputs ["many", "thing"]) : Has P w K mg base 2 "are_inputs" ["many", "thing"] d_are_inputs :=
  D.has fun f fd F => fg_of (k := 1) (wb := w_are_inputs) F sc_are_inputs len_are_inputs (fun cdv A outer s H E hgd hr =>
  (qss_cons (qs_if (qt_w (qw_or (qt_not (qt_val (q_callB c_isi (Z.at "isinstance") (qa_cons (q_var 1) (qa_cons (q_bty (n := "tuple") (u := .type "tuple") (Z.at "tuple")) qa_nil))))) (qw_or1 (qt_cmp o_gt (q_callB c_len (Z.at "len") (qa_cons (q_var 1) qa_nil)) (q_cst C_MOST_INPUTS)))))
  (qss_one (qs_ret q_bl))
  qss_nil)
  (qss_one (qs_ret (q_and (q_callB (c_all rfl) (Z.at "all") (qa_cons (q_lc (own := [("one", 2)]) rfl sc_are_inputs.nd (qi_seq (q_var 1)) rfl (fun _ _ _ _ _ => (qg_name 2 sc_are_inputs.nd).pg) gok_name (fun _ _ _ _ _ => qts_nil) (fun _ _ _ _ _ => (q_and (q_callH h_is_whole hgd hr takes0 (qa_cons (q_var 2) qa_nil) (by decide)) (q_one (q_chain o_le o_lt q_int (q_var 2) (q_var 0)))))) qa_nil)) (q_one (q_cmp (o_eq (room_u hr)) (q_lenSetTG (Z.at "len") (Z.at "set") rfl (q_var 1)) (q_callB c_len (Z.at "len") (qa_cons (q_var 1) qa_nil))))))))) ok_are_inputs

theorem f_is_pot {P : Program} {w : World} {K : PySem.W.Frag} {mg : Str → Option Value} {base : Heap} (Z : BI mg bins) (h_are_sorts : Has P w K mg base 2 "are_sorts" ["thing"] d_are_sorts) (h_is_rule : Has P w K mg base 3 "is_rule" ["many", "thing"] d_is_rule) (h_is_counts : Has P w K mg base 2 "is_counts" ["many", "thing"] d_is_counts) (h_are_inputs : Has P w K mg base 2 "are_inputs" ["many", "thing"] d_are_inputs) (h_is_whole : Has P w K mg base 1 "is_whole" ["thing"] d_is_whole) (C_MOST_BEGUN : ConstAt K mg "MOST_BEGUN" (.int 99)) (C_MOST_RULES : ConstAt K mg "MOST_RULES" (.int 8)) (D : DefAt K mg "is_pot" s_is_pot ["thing"]) : Has P w K mg base 4 "is_pot" ["thing"] d_is_pot :=
  D.has fun f fd F => fg_of (k := 3) (wb := w_is_pot) F sc_is_pot len_is_pot (fun cdv A outer s H E hgd hr =>
  (qss_cons (qs_if (qt_w (qw_or (qt_not (qt_val (q_callB c_isi (Z.at "isinstance") (qa_cons (q_var 0) (qa_cons (q_bty (n := "tuple") (u := .type "tuple") (Z.at "tuple")) qa_nil))))) (qw_or (qt_cmp (o_ne (room_u hr)) (q_callB c_len (Z.at "len") (qa_cons (q_var 0) qa_nil)) q_int) (qw_or1 (qt_not (qt_val (q_callH h_are_sorts hgd hr (takes_of rfl rfl rfl rfl) (qa_cons (q_ix o_ix (q_var 0) q_int) qa_nil) (by decide))))))))
  (qss_one (qs_ret q_bl))
  qss_nil)
  (qss_cons (qs_asg (q_var 0) (qg_tupN rfl (qgs_cons (qg_name 1 sc_is_pot.nd) (qgs_cons (qg_name 2 sc_is_pot.nd) (qgs_cons (qg_name 3 sc_is_pot.nd) (qgs_cons (qg_name 4 sc_is_pot.nd) (qgs_cons (qg_name 5 sc_is_pot.nd) qgs_nil))))) (lenG_cons liveG_name (lenG_cons liveG_name (lenG_cons liveG_name (lenG_cons liveG_name (lenG_cons liveG_name lenG_nil)))))))
  (qss_cons (qs_set 6 sc_is_pot.nd (q_callB c_len (Z.at "len") (qa_cons (q_var 1) qa_nil)))
  (qss_cons (qs_if (qt_w (qw_or (qt_not (qt_val (q_callB c_isi (Z.at "isinstance") (qa_cons (q_var 2) (qa_cons (q_bty (n := "tuple") (u := .type "tuple") (Z.at "tuple")) qa_nil))))) (qw_or (qt_cmp o_gt (q_callB c_len (Z.at "len") (qa_cons (q_var 2) qa_nil)) (q_cst C_MOST_RULES)) (qw_or1 (qt_not (qt_val (q_callB (c_all rfl) (Z.at "all") (qa_cons (q_lc (own := [("rule", 7)]) rfl sc_is_pot.nd (qi_seq (q_var 2)) rfl (fun _ _ _ _ _ => (qg_name 7 sc_is_pot.nd).pg) gok_name (fun _ _ _ _ _ => qts_nil) (fun _ _ _ _ _ => (q_callH h_is_rule hgd hr takes0 (qa_cons (q_var 6) (qa_cons (q_var 7) qa_nil)) (by decide)))) qa_nil))))))))
  (qss_one (qs_ret q_bl))
  qss_nil)
  (qss_cons (qs_if (qt_w (qw_or (qt_not (qt_val (q_callH h_are_inputs hgd hr (takes_of rfl rfl rfl rfl) (qa_cons (q_var 6) (qa_cons (q_var 3) qa_nil)) (by decide)))) (qw_or (qt_not (qt_val (q_callH h_is_counts hgd hr (takes_of rfl rfl rfl rfl) (qa_cons (q_var 6) (qa_cons (q_var 4) qa_nil)) (by decide)))) (qw_or1 (qt_cmp o_gt (q_callB (c_max rfl) (Z.at "max") (qa_cons (q_var 4) qa_nil)) (q_cst C_MOST_BEGUN))))))
  (qss_one (qs_ret q_bl))
  qss_nil)
  (qss_one (qs_ret (q_and (q_callH h_is_whole hgd hr (takes_of rfl rfl rfl rfl) (qa_cons (q_var 5) qa_nil) (by decide)) (q_one (q_chain o_le o_lt q_int (q_var 5) (q_var 6)))))))))))) ok_is_pot

theorem f_law_odd {P : Program} {w : World} {K : PySem.W.Frag} {mg : Str → Option Value} {base : Heap} (Z : BI mg bins) (h_law_draw : Has P w K mg base 1 "_law_draw" ["_law_feed_here", "_law_many"] d_law_draw) (D : DefAt K mg "_law_odd" s_law_odd ["_law_feed_here", "_law_thing"]) : Has P w K mg base 2 "_law_odd" ["_law_feed_here", "_law_thing"] d_law_odd :=
  D.has fun f fd F => fg_of (k := 1) (wb := w_law_odd) F sc_law_odd len_law_odd (fun cdv A outer s H E hgd hr =>
  (qss_cons (qs_set 2 sc_law_odd.nd (q_lst (qa_cons q_non (qa_cons q_bl (qa_cons q_bl (qa_cons q_int (qa_cons q_int (qa_cons (q_neg q_int) (qa_cons q_int (qa_cons q_int (qa_cons q_int (qa_cons q_int (qa_cons q_int (qa_cons q_int (qa_cons q_str (qa_cons q_str (qa_cons q_str (qa_cons q_str (qa_cons q_str (qa_cons q_str (qa_cons q_str (qa_cons (q_tup qa_nil) (qa_cons (q_lst qa_nil) qa_nil)))))))))))))))))))))))
  (qss_cons (qs_set 2 sc_law_odd.nd (q_op o_add (q_var 2) (q_lst (qa_cons q_dnew (qa_cons (q_tup (qa_cons q_int qa_nil)) (qa_cons (q_tup (qa_cons q_int qa_nil)) (qa_cons (q_tup (qa_cons q_int (qa_cons q_int qa_nil))) (qa_cons (q_tup (qa_cons q_str qa_nil)) (qa_cons (q_lst (qa_cons q_str qa_nil)) (qa_cons (q_tup (qa_cons q_str (qa_cons q_str qa_nil))) (qa_cons (q_tup (qa_cons (q_tup (qa_cons q_int qa_nil)) (qa_cons (q_tup (qa_cons q_int qa_nil)) qa_nil))) (qa_cons (q_tup (qa_cons (q_tup (qa_cons q_int qa_nil)) (qa_cons (q_tup (qa_cons q_int qa_nil)) qa_nil))) (qa_cons (q_op o_pow q_int q_int) (qa_cons q_str qa_nil))))))))))))))
  (qss_cons (qs_if (qt_val (q_callB c_isi (Z.at "isinstance") (qa_cons (q_var 1) (qa_cons (q_bty (n := "tuple") (u := .type "tuple") (Z.at "tuple")) qa_nil))))
  (qss_one (qs_set 2 sc_law_odd.nd (q_op o_add (q_var 2) (q_lst (qa_cons (q_callTy (c_list rfl) (Z.at "list") (qa_cons (q_var 1) qa_nil)) (qa_cons (q_op o_add (q_var 1) (q_tup (qa_cons q_int qa_nil))) (qa_cons (q_slice o_sl (q_var 1) qo_none (qo_some (q_neg q_int))) (qa_cons (q_op o_add (q_var 1) (q_slice o_sl (q_var 1) qo_none (qo_some q_int))) (qa_cons (q_slice o_sl (q_var 1) (qo_some q_int) qo_none) (qa_cons (q_rev (q_var 1)) (qa_cons (q_op o_mulA (q_var 1) q_int) qa_nil)))))))))))
  qss_nil)
  (qss_one (qs_ret (q_ix o_ix (q_var 2) (q_callH h_law_draw hgd hr (takes_of rfl rfl rfl rfl) (qa_cons (q_var 0) (qa_cons (q_callB c_len (Z.at "len") (qa_cons (q_var 2) qa_nil)) qa_nil)) (by decide))))))))) ok_law_odd

theorem g_law_bent {P : Program} {w : World} {K : PySem.W.Frag} {mg : Str → Option Value} {base : Heap} (Z : BI mg bins) (h_law_draw : Has P w K mg base 1 "_law_draw" ["_law_feed_here", "_law_many"] d_law_draw) (h_law_odd : Has P w K mg base 2 "_law_odd" ["_law_feed_here", "_law_thing"] d_law_odd) (D : DefAt K mg "_law_bent" s_law_bent ["_law_feed_here", "_law_thing", "_law_deep"]) : ∀ n : Nat, Has P w K mg base (3 + n) "_law_bent" ["_law_feed_here", "_law_thing", "_law_deep"] (r_law_bent n)
  | 0 => D.has fun f fd F => FG.no no_law_bent
  | n + 1 => by
    have h_law_bent := g_law_bent (P := P) (w := w) (base := base) Z h_law_draw h_law_odd D n
    exact D.has fun f fd F => fg_of (k := 3 + n) (wb := w_law_bent (r_law_bent n)) F sc_law_bent (len_law_bent n) (fun cdv A outer s H E hgd hr =>
  (qss_cons (qs_if (qt_w (qw_and (qt_val (q_callB c_isi (Z.at "isinstance") (qa_cons (q_var 1) (qa_cons (q_bty (n := "tuple") (u := .type "tuple") (Z.at "tuple")) qa_nil)))) (qw_and (qt_cmp o_gt (q_callB c_len (Z.at "len") (qa_cons (q_var 1) qa_nil)) q_int) (qw_and (qt_cmp o_lt (q_var 2) q_int) (qw_and1 (qt_cmp o_gt (q_callH h_law_draw hgd hr (takes_of rfl rfl rfl rfl) (qa_cons (q_var 0) (qa_cons q_int qa_nil)) (by omega)) q_int))))))
  (qss_cons (qs_set 3 sc_law_bent.nd (q_callH h_law_draw hgd hr (takes_of rfl rfl rfl rfl) (qa_cons (q_var 0) (qa_cons (q_callB c_len (Z.at "len") (qa_cons (q_var 1) qa_nil)) qa_nil)) (by omega)))
  (qss_one (qs_ret (q_op o_add (q_op o_add (q_slice o_sl (q_var 1) qo_none (qo_some (q_var 3))) (q_tup (qa_cons (q_callH h_law_bent hgd hr (takes_of rfl rfl rfl rfl) (qa_cons (q_var 0) (qa_cons (q_ix o_ix (q_var 1) (q_var 3)) (qa_cons (q_op o_add (q_var 2) q_int) qa_nil))) (by omega)) qa_nil))) (q_slice o_sl (q_var 1) (qo_some (q_op o_add (q_var 3) q_int)) qo_none)))))
  qss_nil)
  (qss_one (qs_ret (q_callH h_law_odd hgd hr (takes_of rfl rfl rfl rfl) (qa_cons (q_var 0) (qa_cons (q_var 1) qa_nil)) (by omega)))))) (ok_law_bent n)
theorem f_law_bent {P : Program} {w : World} {K : PySem.W.Frag} {mg : Str → Option Value} {base : Heap} (Z : BI mg bins) (h_law_draw : Has P w K mg base 1 "_law_draw" ["_law_feed_here", "_law_many"] d_law_draw) (h_law_odd : Has P w K mg base 2 "_law_odd" ["_law_feed_here", "_law_thing"] d_law_odd) (D : DefAt K mg "_law_bent" s_law_bent ["_law_feed_here", "_law_thing", "_law_deep"]) : Has P w K mg base 11 "_law_bent" ["_law_feed_here", "_law_thing", "_law_deep"] d_law_bent :=
  g_law_bent Z h_law_draw h_law_odd D 8

theorem f_law_whole {P : Program} {w : World} {K : PySem.W.Frag} {mg : Str → Option Value} {base : Heap} (Z : BI mg bins) (D : DefAt K mg "_law_whole" s_law_whole ["_law_thing", "_law_least", "_law_most"]) : Has P w K mg base 1 "_law_whole" ["_law_thing", "_law_least", "_law_most"] d_law_whole :=
  D.has fun f fd F => fg_of (k := 0) (wb := w_law_whole) F sc_law_whole len_law_whole (fun cdv A outer s H E hgd hr =>
  (qss_one (qs_ret (q_and (q_callB c_isi (Z.at "isinstance") (qa_cons (q_var 0) (qa_cons (q_bty (n := "int") (u := .type "int") (Z.at "int")) qa_nil))) (q_and (q_not (q_callB c_isi (Z.at "isinstance") (qa_cons (q_var 0) (qa_cons (q_bty (n := "bool") (u := .type "bool") (Z.at "bool")) qa_nil)))) (q_one (q_chain o_le o_le (q_var 1) (q_var 0) (q_var 2)))))))) ok_law_whole

theorem f_law_is_name {P : Program} {w : World} {K : PySem.W.Frag} {mg : Str → Option Value} {base : Heap} (Z : BI mg bins) (D : DefAt K mg "_law_is_name" s_law_is_name ["_law_thing"]) : Has P w K mg base 1 "_law_is_name" ["_law_thing"] d_law_is_name :=
  D.has fun f fd F => fg_of (k := 0) (wb := w_law_is_name) F sc_law_is_name len_law_is_name (fun cdv A outer s H E hgd hr =>
  (qss_cons (qs_if (qt_w (qw_or (qt_not (qt_val (q_callB c_isi (Z.at "isinstance") (qa_cons (q_var 0) (qa_cons (q_bty (n := "str") (u := .type "str") (Z.at "str")) qa_nil))))) (qw_or1 (qt_cmp o_in (q_var 0) (q_lst (qa_cons q_str (qa_cons q_str (qa_cons q_str (qa_cons q_str (qa_cons q_str (qa_cons q_str qa_nil)))))))))))
  (qss_one (qs_ret q_bl))
  qss_nil)
  (qss_one (qs_ret (q_and (q_chain o_lt o_lt q_int (q_callB c_len (Z.at "len") (qa_cons (q_var 0) qa_nil)) q_int) (q_one (q_cmp (o_eqNil (room_u hr)) (q_lc (own := [("_law_sign", 1)]) rfl sc_law_is_name.nd (qi_seq (q_var 0)) rfl (fun _ _ _ _ _ => (qg_name 1 sc_law_is_name.nd).pg) gok_name (fun _ _ _ _ _ => (qts_one (qt_cmp o_notin (q_var 1) q_str))) (fun _ _ _ _ _ => (q_var 1))) (q_lst qa_nil)))))))) ok_law_is_name

theorem f_law_is_row {P : Program} {w : World} {K : PySem.W.Frag} {mg : Str → Option Value} {base : Heap} (Z : BI mg bins) (h_law_whole : Has P w K mg base 1 "_law_whole" ["_law_thing", "_law_least", "_law_most"] d_law_whole) (D : DefAt K mg "_law_is_row" s_law_is_row ["_law_thing", "_law_many", "_law_most"]) : Has P w K mg base 2 "_law_is_row" ["_law_thing", "_law_many", "_law_most"] d_law_is_row :=
  D.has fun f fd F => fg_of (k := 1) (wb := w_law_is_row) F sc_law_is_row len_law_is_row (fun cdv A outer s H E hgd hr =>
  (qss_cons (qs_if (qt_w (qw_or (qt_not (qt_val (q_callB c_isi (Z.at "isinstance") (qa_cons (q_var 0) (qa_cons (q_bty (n := "tuple") (u := .type "tuple") (Z.at "tuple")) qa_nil))))) (qw_or1 (qt_cmp (o_ne (room_u hr)) (q_callB c_len (Z.at "len") (qa_cons (q_var 0) qa_nil)) (q_var 1)))))
  (qss_one (qs_ret q_bl))
  qss_nil)
  (qss_one (qs_ret (q_cmp (o_eqNil (room_u hr)) (q_lc (own := [("_law_one", 3)]) rfl sc_law_is_row.nd (qi_seq (q_var 0)) rfl (fun _ _ _ _ _ => (qg_name 3 sc_law_is_row.nd).pg) gok_name (fun _ _ _ _ _ => (qts_one (qt_not (qt_val (q_callH h_law_whole hgd hr takes0 (qa_cons (q_var 3) (qa_cons q_int (qa_cons (q_var 2) qa_nil))) (by decide)))))) (fun _ _ _ _ _ => (q_var 3))) (q_lst qa_nil)))))) ok_law_is_row

theorem f_law_unlike {P : Program} {w : World} {K : PySem.W.Frag} {mg : Str → Option Value} {base : Heap} (Z : BI mg bins) (D : DefAt K mg "_law_unlike" s_law_unlike ["_law_things"]) : Has P w K mg base 1 "_law_unlike" ["_law_things"] d_law_unlike :=
  D.has fun f fd F => fg_of (k := 0) (wb := w_law_unlike) F sc_law_unlike len_law_unlike (fun cdv A outer s H E hgd hr =>
  (qss_one (qs_ret (q_cmp (o_eqNil (room_u hr)) (q_lc (own := [("_law_k", 1)]) rfl sc_law_unlike.nd (qi_range1 (Z.at "range") (qa_cons (q_callB c_len (Z.at "len") (qa_cons (q_var 0) qa_nil)) qa_nil)) rfl (fun _ _ _ _ _ => (qg_name 1 sc_law_unlike.nd).pg) gok_name (fun _ _ _ _ _ => (qts_one (qt_cmp o_in (q_ix o_ix (q_var 0) (q_var 1)) (q_slice o_sl (q_var 0) qo_none (qo_some (q_var 1)))))) (fun _ _ _ _ _ => (q_var 1))) (q_lst qa_nil))))) ok_law_unlike

theorem f_law_is_rule {P : Program} {w : World} {K : PySem.W.Frag} {mg : Str → Option Value} {base : Heap} (Z : BI mg bins) (h_law_is_row : Has P w K mg base 2 "_law_is_row" ["_law_thing", "_law_many", "_law_most"] d_law_is_row) (D : DefAt K mg "_law_is_rule" s_law_is_rule ["_law_thing", "_law_many"]) : Has P w K mg base 3 "_law_is_rule" ["_law_thing", "_law_many"] d_law_is_rule :=
  D.has fun f fd F => fg_of (k := 2) (wb := w_law_is_rule) F sc_law_is_rule len_law_is_rule (fun cdv A outer s H E hgd hr =>
  (qss_cons (qs_if (qt_w (qw_or (qt_not (qt_val (q_callB c_isi (Z.at "isinstance") (qa_cons (q_var 0) (qa_cons (q_bty (n := "tuple") (u := .type "tuple") (Z.at "tuple")) qa_nil))))) (qw_or1 (qt_cmp (o_ne (room_u hr)) (q_callB c_len (Z.at "len") (qa_cons (q_var 0) qa_nil)) q_int))))
  (qss_one (qs_ret q_bl))
  qss_nil)
  (qss_cons (qs_if (qt_w (qw_or (qt_not (qt_val (q_callH h_law_is_row hgd hr (takes_of rfl rfl rfl rfl) (qa_cons (q_ix o_ix (q_var 0) q_int) (qa_cons (q_var 1) (qa_cons q_int qa_nil))) (by decide)))) (qw_or1 (qt_not (qt_val (q_callH h_law_is_row hgd hr (takes_of rfl rfl rfl rfl) (qa_cons (q_ix o_ix (q_var 0) q_int) (qa_cons (q_var 1) (qa_cons q_int qa_nil))) (by decide)))))))
  (qss_one (qs_ret q_bl))
  qss_nil)
  (qss_one (qs_ret (q_and (q_cmp (o_ne (room_u hr)) (q_ix o_ix (q_var 0) q_int) (q_ix o_ix (q_var 0) q_int)) (q_one (q_cmp (o_ne (room_u hr)) (q_ix o_ix (q_var 0) q_int) (q_op o_mulA (q_tup (qa_cons q_int qa_nil)) (q_var 1)))))))))) ok_law_is_rule

theorem f_law_is_pot {P : Program} {w : World} {K : PySem.W.Frag} {mg : Str → Option Value} {base : Heap} (Z : BI mg bins) (h_law_unlike : Has P w K mg base 1 "_law_unlike" ["_law_things"] d_law_unlike) (h_law_is_name : Has P w K mg base 1 "_law_is_name" ["_law_thing"] d_law_is_name) (h_law_is_rule : Has P w K mg base 3 "_law_is_rule" ["_law_thing", "_law_many"] d_law_is_rule) (h_law_whole : Has P w K mg base 1 "_law_whole" ["_law_thing", "_law_least", "_law_most"] d_law_whole) (h_law_is_row : Has P w K mg base 2 "_law_is_row" ["_law_thing", "_law_many", "_law_most"] d_law_is_row) (D : DefAt K mg "_law_is_pot" s_law_is_pot ["_law_thing"]) : Has P w K mg base 4 "_law_is_pot" ["_law_thing"] d_law_is_pot :=
  D.has fun f fd F => fg_of (k := 3) (wb := w_law_is_pot) F sc_law_is_pot len_law_is_pot (fun cdv A outer s H E hgd hr =>
  (qss_cons (qs_if (qt_w (qw_or (qt_not (qt_val (q_callB c_isi (Z.at "isinstance") (qa_cons (q_var 0) (qa_cons (q_bty (n := "tuple") (u := .type "tuple") (Z.at "tuple")) qa_nil))))) (qw_or (qt_cmp (o_ne (room_u hr)) (q_callB c_len (Z.at "len") (qa_cons (q_var 0) qa_nil)) q_int) (qw_or1 (qt_not (qt_val (q_callB c_isi (Z.at "isinstance") (qa_cons (q_ix o_ix (q_var 0) q_int) (qa_cons (q_bty (n := "tuple") (u := .type "tuple") (Z.at "tuple")) qa_nil)))))))))
  (qss_one (qs_ret q_bl))
  qss_nil)
  (qss_cons (qs_asg (q_var 0) (qg_tupN rfl (qgs_cons (qg_name 1 sc_law_is_pot.nd) (qgs_cons (qg_name 2 sc_law_is_pot.nd) (qgs_cons (qg_name 3 sc_law_is_pot.nd) (qgs_cons (qg_name 4 sc_law_is_pot.nd) (qgs_cons (qg_name 5 sc_law_is_pot.nd) qgs_nil))))) (lenG_cons liveG_name (lenG_cons liveG_name (lenG_cons liveG_name (lenG_cons liveG_name (lenG_cons liveG_name lenG_nil)))))))
  (qss_cons (qs_set 6 sc_law_is_pot.nd (q_callB c_len (Z.at "len") (qa_cons (q_var 1) qa_nil)))
  (qss_cons (qs_if (qt_w (qw_or (qt_not (qt_chain o_le o_le q_int (q_var 6) q_int)) (qw_or (qt_cmp o_in q_bl (q_lc (own := [("_law_one", 7)]) rfl sc_law_is_pot.nd (qi_seq (q_var 1)) rfl (fun _ _ _ _ _ => (qg_name 7 sc_law_is_pot.nd).pg) gok_name (fun _ _ _ _ _ => qts_nil) (fun _ _ _ _ _ => (q_callH h_law_is_name hgd hr takes0 (qa_cons (q_var 7) qa_nil) (by decide))))) (qw_or1 (qt_not (qt_val (q_callH h_law_unlike hgd hr (takes_of rfl rfl rfl rfl) (qa_cons (q_var 1) qa_nil) (by decide))))))))
  (qss_one (qs_ret q_bl))
  qss_nil)
  (qss_cons (qs_if (qt_w (qw_or (qt_not (qt_val (q_callB c_isi (Z.at "isinstance") (qa_cons (q_var 2) (qa_cons (q_bty (n := "tuple") (u := .type "tuple") (Z.at "tuple")) qa_nil))))) (qw_or (qt_cmp o_gt (q_callB c_len (Z.at "len") (qa_cons (q_var 2) qa_nil)) q_int) (qw_or1 (qt_cmp o_in q_bl (q_lc (own := [("_law_rule_here", 8)]) rfl sc_law_is_pot.nd (qi_seq (q_var 2)) rfl (fun _ _ _ _ _ => (qg_name 8 sc_law_is_pot.nd).pg) gok_name (fun _ _ _ _ _ => qts_nil) (fun _ _ _ _ _ => (q_callH h_law_is_rule hgd hr takes0 (qa_cons (q_var 8) (qa_cons (q_var 6) qa_nil)) (by decide)))))))))
  (qss_one (qs_ret q_bl))
  qss_nil)
  (qss_cons (qs_if (qt_w (qw_or (qt_not (qt_val (q_callB c_isi (Z.at "isinstance") (qa_cons (q_var 3) (qa_cons (q_bty (n := "tuple") (u := .type "tuple") (Z.at "tuple")) qa_nil))))) (qw_or1 (qt_cmp o_gt (q_callB c_len (Z.at "len") (qa_cons (q_var 3) qa_nil)) q_int))))
  (qss_one (qs_ret q_bl))
  qss_nil)
  (qss_cons (qs_if (qt_w (qw_or (qt_cmp o_in q_bl (q_lc (own := [("_law_one", 7)]) rfl sc_law_is_pot.nd (qi_seq (q_var 3)) rfl (fun _ _ _ _ _ => (qg_name 7 sc_law_is_pot.nd).pg) gok_name (fun _ _ _ _ _ => qts_nil) (fun _ _ _ _ _ => (q_callH h_law_whole hgd hr takes0 (qa_cons (q_var 7) (qa_cons q_int (qa_cons (q_op o_sub (q_var 6) q_int) qa_nil))) (by decide))))) (qw_or1 (qt_not (qt_val (q_callH h_law_unlike hgd hr (takes_of rfl rfl rfl rfl) (qa_cons (q_var 3) qa_nil) (by decide)))))))
  (qss_one (qs_ret q_bl))
  qss_nil)
  (qss_one (qs_ret (q_and (q_callH h_law_is_row hgd hr (takes_of rfl rfl rfl rfl) (qa_cons (q_var 4) (qa_cons (q_var 6) (qa_cons q_int qa_nil))) (by decide)) (q_one (q_callH h_law_whole hgd hr (takes_of rfl rfl rfl rfl) (qa_cons (q_var 5) (qa_cons q_int (qa_cons (q_op o_sub (q_var 6) q_int) qa_nil))) (by decide)))))))))))))) ok_law_is_pot

theorem f_law_names_right {P : Program} {w : World} {K : PySem.W.Frag} {mg : Str → Option Value} {base : Heap} (Z : BI mg bins) (h_law_names : Has P w K mg base 2 "_law_names" ["_law_feed_here", "_law_many"] d_law_names) (h_is_name : Has P w K mg base 1 "is_name" ["thing"] d_is_name) (h_law_is_name : Has P w K mg base 1 "_law_is_name" ["_law_thing"] d_law_is_name) (D : DefAt K mg "_law_names_right" s_law_names_right ["_law_feed_here"]) : Has P w K mg base 3 "_law_names_right" ["_law_feed_here"] d_law_names_right :=
  D.has fun f fd F => fg_of (k := 2) (wb := w_law_names_right) F sc_law_names_right len_law_names_right (fun cdv A outer s H E hgd hr =>
  (qss_cons (qs_set 1 sc_law_names_right.nd (q_lst (qa_cons q_str (qa_cons q_str (qa_cons q_str (qa_cons q_str (qa_cons q_str (qa_cons q_str (qa_cons q_str (qa_cons q_str (qa_cons q_str (qa_cons q_str (qa_cons q_str (qa_cons q_str (qa_cons q_str (qa_cons q_str qa_nil))))))))))))))))
  (qss_cons (qs_set 1 sc_law_names_right.nd (q_op o_add (q_op o_add (q_var 1) (q_lst (qa_cons q_non (qa_cons q_int (qa_cons q_bl (qa_cons (q_tup qa_nil) (qa_cons (q_lst qa_nil) (qa_cons (q_tup (qa_cons q_str qa_nil)) (qa_cons (q_lst (qa_cons q_str qa_nil)) (qa_cons q_str (qa_cons q_str (qa_cons q_str (qa_cons q_str (qa_cons q_dnew (qa_cons q_str qa_nil))))))))))))))) (q_callH h_law_names hgd hr (takes_of rfl rfl rfl rfl) (qa_cons (q_var 0) (qa_cons q_int qa_nil)) (by decide))))
  (qss_cons (qs_for (passes_of rfl) rfl (qi_seq (q_var 1)) (qg_name 2 sc_law_names_right.nd)
  (qss_one (qs_if (qt_cmp (o_ne (room_u hr)) (q_callB (c_repr hgd (room_u hr)) (Z.at "repr") (qa_cons (q_callH h_is_name hgd hr (takes_of rfl rfl rfl rfl) (qa_cons (q_var 2) qa_nil) (by decide)) qa_nil)) (q_callB (c_repr hgd (room_u hr)) (Z.at "repr") (qa_cons (q_callH h_law_is_name hgd hr (takes_of rfl rfl rfl rfl) (qa_cons (q_var 2) qa_nil) (by decide)) qa_nil)))
  (qss_one (qs_ret q_bl))
  qss_nil)))
  (qss_one (qs_ret q_bl)))))) ok_law_names_right

theorem f_law_rows_right {P : Program} {w : World} {K : PySem.W.Frag} {mg : Str → Option Value} {base : Heap} (Z : BI mg bins) (h_law_draw : Has P w K mg base 1 "_law_draw" ["_law_feed_here", "_law_many"] d_law_draw) (h_law_bent : Has P w K mg base 11 "_law_bent" ["_law_feed_here", "_law_thing", "_law_deep"] d_law_bent) (h_law_is_row : Has P w K mg base 2 "_law_is_row" ["_law_thing", "_law_many", "_law_most"] d_law_is_row) (h_is_stand : Has P w K mg base 3 "is_stand" ["many", "thing"] d_is_stand) (h_is_amounts : Has P w K mg base 3 "is_amounts" ["many", "thing"] d_is_amounts) (D : DefAt K mg "_law_rows_right" s_law_rows_right ["_law_feed_here", "_law_many"]) : Has P w K mg base 12 "_law_rows_right" ["_law_feed_here", "_law_many"] d_law_rows_right :=
  D.has fun f fd F => fg_of (k := 11) (wb := w_law_rows_right) F sc_law_rows_right len_law_rows_right (fun cdv A outer s H E hgd hr =>
  (qss_cons (qs_set 2 sc_law_rows_right.nd (q_callTy (c_tuple rfl) (Z.at "tuple") (qa_cons (q_lc (own := [("_law_k", 3)]) rfl sc_law_rows_right.nd (qi_range1 (Z.at "range") (qa_cons (q_var 1) qa_nil)) rfl (fun _ _ _ _ _ => (qg_name 3 sc_law_rows_right.nd).pg) gok_name (fun _ _ _ _ _ => qts_nil) (fun _ _ _ _ _ => (q_ix o_ix (q_lst (qa_cons q_int (qa_cons q_int (qa_cons (q_op o_pow q_int q_int) (qa_cons (q_callH h_law_draw hgd hr takes0 (qa_cons (q_var 0) (qa_cons q_int qa_nil)) (by decide)) qa_nil))))) (q_callH h_law_draw hgd hr takes0 (qa_cons (q_var 0) (qa_cons q_int qa_nil)) (by decide))))) qa_nil)))
  (qss_cons (qs_set 4 sc_law_rows_right.nd (q_lst (qa_cons (q_var 2) (qa_cons (q_callTy (c_list rfl) (Z.at "list") (qa_cons (q_var 2) qa_nil)) (qa_cons (q_op o_add (q_var 2) (q_tup (qa_cons q_int qa_nil))) (qa_cons (q_slice o_sl (q_var 2) (qo_some q_int) qo_none) (qa_cons q_non (qa_cons q_int (qa_cons (q_tup qa_nil) (qa_cons q_bl (qa_cons q_str (qa_cons (q_callTy (c_tuple rfl) (Z.at "tuple") (qa_cons (q_lc (own := [("_law_one", 5)]) rfl sc_law_rows_right.nd (qi_seq (q_var 2)) rfl (fun _ _ _ _ _ => (qg_name 5 sc_law_rows_right.nd).pg) gok_name (fun _ _ _ _ _ => qts_nil) (fun _ _ _ _ _ => q_bl)) qa_nil)) qa_nil))))))))))))
  (qss_cons (qs_for (passes_of rfl) rfl (qi_range1 (Z.at "range") (qa_cons q_int qa_nil)) (qg_name 3 sc_law_rows_right.nd)
  (qss_one (qs_expr (q_bm PySem.F.plainAttrs_list PySem.F.slot_list_append PySem.F.type_list_append m_append (q_var 4) (qa_cons (q_callH h_law_bent hgd hr (takes_of rfl rfl rfl rfl) (qa_cons (q_var 0) (qa_cons (q_var 2) (qa_cons q_int qa_nil))) (by decide)) qa_nil)))))
  (qss_cons (qs_if (qt_cmp o_gt (q_var 1) q_int)
  (qss_one (qs_expr (q_bm PySem.F.plainAttrs_list PySem.F.slot_list_append PySem.F.type_list_append m_append (q_var 4) (qa_cons (q_op o_add (q_slice o_sl (q_var 2) qo_none (qo_some (q_neg q_int))) (q_tup (qa_cons (q_neg q_int) qa_nil))) qa_nil))))
  qss_nil)
  (qss_cons (qs_for (passes_of rfl) rfl (qi_seq (q_var 4)) (qg_name 6 sc_law_rows_right.nd)
  (qss_cons (qs_set 7 sc_law_rows_right.nd (q_callB (c_repr hgd (room_u hr)) (Z.at "repr") (qa_cons (q_callH h_law_is_row hgd hr (takes_of rfl rfl rfl rfl) (qa_cons (q_var 6) (qa_cons (q_var 1) (qa_cons (q_op o_pow q_int q_int) qa_nil))) (by decide)) qa_nil)))
  (qss_one (qs_if (qt_w (qw_or (qt_cmp (o_ne (room_u hr)) (q_callB (c_repr hgd (room_u hr)) (Z.at "repr") (qa_cons (q_callH h_is_amounts hgd hr (takes_of rfl rfl rfl rfl) (qa_cons (q_var 1) (qa_cons (q_var 6) qa_nil)) (by decide)) qa_nil)) (q_var 7)) (qw_or1 (qt_w (qw_and (qt_cmp o_gt (q_var 1) q_int) (qw_and1 (qt_cmp (o_ne (room_u hr)) (q_callB (c_repr hgd (room_u hr)) (Z.at "repr") (qa_cons (q_callH h_is_stand hgd hr (takes_of rfl rfl rfl rfl) (qa_cons (q_var 1) (qa_cons (q_var 6) qa_nil)) (by decide)) qa_nil)) (q_var 7))))))))
  (qss_one (qs_ret q_bl))
  qss_nil))))
  (qss_one (qs_ret q_bl)))))))) ok_law_rows_right

theorem law_fg {P : Program} {w : World} {K : PySem.W.Frag} {mg : Str → Option Value} {base : Heap} {f : Addr} {fd : FuncData} (Z : BI mg bins) (h_law_feed : Has P w K mg base 1 "_law_feed" ["_law_script", "_law_k"] d_law_feed) (h_law_pot : Has P w K mg base 3 "_law_pot" ["_law_feed_here"] d_law_pot) (h_law_rows_right : Has P w K mg base 12 "_law_rows_right" ["_law_feed_here", "_law_many"] d_law_rows_right) (h_law_draw : Has P w K mg base 1 "_law_draw" ["_law_feed_here", "_law_many"] d_law_draw) (h_law_names_right : Has P w K mg base 3 "_law_names_right" ["_law_feed_here"] d_law_names_right) (h_law_bent : Has P w K mg base 11 "_law_bent" ["_law_feed_here", "_law_thing", "_law_deep"] d_law_bent) (h_is_pot : Has P w K mg base 4 "is_pot" ["thing"] d_is_pot) (h_law_is_pot : Has P w K mg base 4 "_law_is_pot" ["_law_thing"] d_law_is_pot) (F : L2.Fun K "law" "law" s_law f fd) : FG P w K mg base 13 f fd ["_law_script"] lawD :=
  fg_of (k := 12) (wb := w_law) F sc_law len_lawD (fun cdv A outer s H E hgd hr =>
  (qss_cons (qs_for (passes_of rfl) rfl (qi_range1 (Z.at "range") (qa_cons q_int qa_nil)) (qg_name 1 sc_law.nd)
  (qss_cons (qs_set 2 sc_law.nd (q_callH h_law_feed hgd hr (takes_of rfl rfl rfl rfl) (qa_cons (q_var 0) (qa_cons (q_var 1) qa_nil)) (by decide)))
  (qss_cons (qs_set 3 sc_law.nd (q_callH h_law_pot hgd hr (takes_of rfl rfl rfl rfl) (qa_cons (q_var 2) qa_nil) (by decide)))
  (qss_cons (qs_if (qt_w (qw_or (qt_not (qt_val (q_callH h_law_names_right hgd hr (takes_of rfl rfl rfl rfl) (qa_cons (q_var 2) qa_nil) (by decide)))) (qw_or1 (qt_not (qt_val (q_callH h_law_rows_right hgd hr (takes_of rfl rfl rfl rfl) (qa_cons (q_var 2) (qa_cons (q_callH h_law_draw hgd hr (takes_of rfl rfl rfl rfl) (qa_cons (q_var 2) (qa_cons q_int qa_nil)) (by decide)) qa_nil)) (by decide)))))))
  (qss_one (qs_ret q_bl))
  qss_nil)
  (qss_cons (qs_set 4 sc_law.nd (q_lst (qa_cons (q_var 3) qa_nil)))
  (qss_cons (qs_for (passes_of rfl) rfl (qi_range1 (Z.at "range") (qa_cons q_int qa_nil)) (qg_name 5 sc_law.nd)
  (qss_cons (qs_set 6 sc_law.nd (q_var 3))
  (qss_cons (qs_for (passes_of rfl) rfl (qi_range1 (Z.at "range") (qa_cons (q_op o_add q_int (q_callH h_law_draw hgd hr (takes_of rfl rfl rfl rfl) (qa_cons (q_var 2) (qa_cons q_int qa_nil)) (by decide))) qa_nil)) (qg_name 7 sc_law.nd)
  (qss_one (qs_set 6 sc_law.nd (q_callH h_law_bent hgd hr (takes_of rfl rfl rfl rfl) (qa_cons (q_var 2) (qa_cons (q_var 6) (qa_cons q_int qa_nil))) (by decide)))))
  (qss_one (qs_expr (q_bm PySem.F.plainAttrs_list PySem.F.slot_list_append PySem.F.type_list_append m_append (q_var 4) (qa_cons (q_var 6) qa_nil)))))))
  (qss_cons (qs_for (passes_of rfl) rfl (qi_seq (q_var 4)) (qg_name 6 sc_law.nd)
  (qss_one (qs_if (qt_cmp (o_ne (room_u hr)) (q_callB (c_repr hgd (room_u hr)) (Z.at "repr") (qa_cons (q_callH h_is_pot hgd hr (takes_of rfl rfl rfl rfl) (qa_cons (q_var 6) qa_nil) (by decide)) qa_nil)) (q_callB (c_repr hgd (room_u hr)) (Z.at "repr") (qa_cons (q_callH h_law_is_pot hgd hr (takes_of rfl rfl rfl rfl) (qa_cons (q_var 6) qa_nil) (by decide)) qa_nil)))
  (qss_one (qs_ret q_bl))
  qss_nil)))
  (qss_one (qs_if (qt_not (qt_val (q_callH h_law_is_pot hgd hr (takes_of rfl rfl rfl rfl) (qa_cons (q_var 3) qa_nil) (by decide))))
  (qss_one (qs_ret q_bl))
  qss_nil)))))))))
  (qss_one (qs_ret q_bl)))) ok_law
theorem all_mk {w : World} {K : PySem.W.Frag} {h : Heap} {mg : Str → Option Value} {fa : Addr} (X : K.In h) (G : h.Ns mainGlobals mg) (hfa : mg "law" = some (.ref fa))
    {f1 : Addr} {od1 an1 : Option Addr} {sl1 : Array (Option Value)} {oc1 kV1 dc1 pm1 cd1 ct1 : Value}
    (a1 : PySem.W.nsIn K mainGlobals "_law_feed" = some (some (.ref f1))) (l1 : K.lookup f1 = some ⟨oc1, od1, .func (PySem.W.fnOf "_law_feed" "_law_feed" (defArgs s_law_feed) (defBody s_law_feed) (defScope s_law_feed) .none kV1 dc1 pm1 an1 cd1 ct1), sl1⟩) (c1 : PySem.W.codeIn K cd1 "_law_feed" = true) (k1 : PySem.W.keepIn K (.ref f1) = true)
    {f2 : Addr} {od2 an2 : Option Addr} {sl2 : Array (Option Value)} {oc2 kV2 dc2 pm2 cd2 ct2 : Value}
    (a2 : PySem.W.nsIn K mainGlobals "_law_draw" = some (some (.ref f2))) (l2 : K.lookup f2 = some ⟨oc2, od2, .func (PySem.W.fnOf "_law_draw" "_law_draw" (defArgs s_law_draw) (defBody s_law_draw) (defScope s_law_draw) .none kV2 dc2 pm2 an2 cd2 ct2), sl2⟩) (c2 : PySem.W.codeIn K cd2 "_law_draw" = true) (k2 : PySem.W.keepIn K (.ref f2) = true)
    {f3 : Addr} {od3 an3 : Option Addr} {sl3 : Array (Option Value)} {oc3 kV3 dc3 pm3 cd3 ct3 : Value}
    (a3 : PySem.W.nsIn K mainGlobals "_law_names" = some (some (.ref f3))) (l3 : K.lookup f3 = some ⟨oc3, od3, .func (PySem.W.fnOf "_law_names" "_law_names" (defArgs s_law_names) (defBody s_law_names) (defScope s_law_names) .none kV3 dc3 pm3 an3 cd3 ct3), sl3⟩) (c3 : PySem.W.codeIn K cd3 "_law_names" = true) (k3 : PySem.W.keepIn K (.ref f3) = true)
    {f4 : Addr} {od4 an4 : Option Addr} {sl4 : Array (Option Value)} {oc4 kV4 dc4 pm4 cd4 ct4 : Value}
    (a4 : PySem.W.nsIn K mainGlobals "_law_rule" = some (some (.ref f4))) (l4 : K.lookup f4 = some ⟨oc4, od4, .func (PySem.W.fnOf "_law_rule" "_law_rule" (defArgs s_law_rule) (defBody s_law_rule) (defScope s_law_rule) .none kV4 dc4 pm4 an4 cd4 ct4), sl4⟩) (c4 : PySem.W.codeIn K cd4 "_law_rule" = true) (k4 : PySem.W.keepIn K (.ref f4) = true)
    {f5 : Addr} {od5 an5 : Option Addr} {sl5 : Array (Option Value)} {oc5 kV5 dc5 pm5 cd5 ct5 : Value}
    (a5 : PySem.W.nsIn K mainGlobals "_law_pot" = some (some (.ref f5))) (l5 : K.lookup f5 = some ⟨oc5, od5, .func (PySem.W.fnOf "_law_pot" "_law_pot" (defArgs s_law_pot) (defBody s_law_pot) (defScope s_law_pot) .none kV5 dc5 pm5 an5 cd5 ct5), sl5⟩) (c5 : PySem.W.codeIn K cd5 "_law_pot" = true) (k5 : PySem.W.keepIn K (.ref f5) = true)
    {f6 : Addr} {od6 an6 : Option Addr} {sl6 : Array (Option Value)} {oc6 kV6 dc6 pm6 cd6 ct6 : Value}
    (a6 : PySem.W.nsIn K mainGlobals "_law_odd" = some (some (.ref f6))) (l6 : K.lookup f6 = some ⟨oc6, od6, .func (PySem.W.fnOf "_law_odd" "_law_odd" (defArgs s_law_odd) (defBody s_law_odd) (defScope s_law_odd) .none kV6 dc6 pm6 an6 cd6 ct6), sl6⟩) (c6 : PySem.W.codeIn K cd6 "_law_odd" = true) (k6 : PySem.W.keepIn K (.ref f6) = true)
    {f7 : Addr} {od7 an7 : Option Addr} {sl7 : Array (Option Value)} {oc7 kV7 dc7 pm7 cd7 ct7 : Value}
    (a7 : PySem.W.nsIn K mainGlobals "_law_bent" = some (some (.ref f7))) (l7 : K.lookup f7 = some ⟨oc7, od7, .func (PySem.W.fnOf "_law_bent" "_law_bent" (defArgs s_law_bent) (defBody s_law_bent) (defScope s_law_bent) .none kV7 dc7 pm7 an7 cd7 ct7), sl7⟩) (c7 : PySem.W.codeIn K cd7 "_law_bent" = true) (k7 : PySem.W.keepIn K (.ref f7) = true)
    {f8 : Addr} {od8 an8 : Option Addr} {sl8 : Array (Option Value)} {oc8 kV8 dc8 pm8 cd8 ct8 : Value}
    (a8 : PySem.W.nsIn K mainGlobals "_law_whole" = some (some (.ref f8))) (l8 : K.lookup f8 = some ⟨oc8, od8, .func (PySem.W.fnOf "_law_whole" "_law_whole" (defArgs s_law_whole) (defBody s_law_whole) (defScope s_law_whole) .none kV8 dc8 pm8 an8 cd8 ct8), sl8⟩) (c8 : PySem.W.codeIn K cd8 "_law_whole" = true) (k8 : PySem.W.keepIn K (.ref f8) = true)
    {f9 : Addr} {od9 an9 : Option Addr} {sl9 : Array (Option Value)} {oc9 kV9 dc9 pm9 cd9 ct9 : Value}
    (a9 : PySem.W.nsIn K mainGlobals "_law_is_row" = some (some (.ref f9))) (l9 : K.lookup f9 = some ⟨oc9, od9, .func (PySem.W.fnOf "_law_is_row" "_law_is_row" (defArgs s_law_is_row) (defBody s_law_is_row) (defScope s_law_is_row) .none kV9 dc9 pm9 an9 cd9 ct9), sl9⟩) (c9 : PySem.W.codeIn K cd9 "_law_is_row" = true) (k9 : PySem.W.keepIn K (.ref f9) = true)
    {f10 : Addr} {od10 an10 : Option Addr} {sl10 : Array (Option Value)} {oc10 kV10 dc10 pm10 cd10 ct10 : Value}
    (a10 : PySem.W.nsIn K mainGlobals "is_whole" = some (some (.ref f10))) (l10 : K.lookup f10 = some ⟨oc10, od10, .func (PySem.W.fnOf "is_whole" "is_whole" (defArgs s_is_whole) (defBody s_is_whole) (defScope s_is_whole) .none kV10 dc10 pm10 an10 cd10 ct10), sl10⟩) (c10 : PySem.W.codeIn K cd10 "is_whole" = true) (k10 : PySem.W.keepIn K (.ref f10) = true)
    {f11 : Addr} {od11 an11 : Option Addr} {sl11 : Array (Option Value)} {oc11 kV11 dc11 pm11 cd11 ct11 : Value}
    (a11 : PySem.W.nsIn K mainGlobals "is_counts" = some (some (.ref f11))) (l11 : K.lookup f11 = some ⟨oc11, od11, .func (PySem.W.fnOf "is_counts" "is_counts" (defArgs s_is_counts) (defBody s_is_counts) (defScope s_is_counts) .none kV11 dc11 pm11 an11 cd11 ct11), sl11⟩) (c11 : PySem.W.codeIn K cd11 "is_counts" = true) (k11 : PySem.W.keepIn K (.ref f11) = true)
    {f12 : Addr} {od12 an12 : Option Addr} {sl12 : Array (Option Value)} {oc12 kV12 dc12 pm12 cd12 ct12 : Value}
    (a12 : PySem.W.nsIn K mainGlobals "is_stand" = some (some (.ref f12))) (l12 : K.lookup f12 = some ⟨oc12, od12, .func (PySem.W.fnOf "is_stand" "is_stand" (defArgs s_is_stand) (defBody s_is_stand) (defScope s_is_stand) .none kV12 dc12 pm12 an12 cd12 ct12), sl12⟩) (c12 : PySem.W.codeIn K cd12 "is_stand" = true) (k12 : PySem.W.keepIn K (.ref f12) = true)
    {f13 : Addr} {od13 an13 : Option Addr} {sl13 : Array (Option Value)} {oc13 kV13 dc13 pm13 cd13 ct13 : Value}
    (a13 : PySem.W.nsIn K mainGlobals "is_amounts" = some (some (.ref f13))) (l13 : K.lookup f13 = some ⟨oc13, od13, .func (PySem.W.fnOf "is_amounts" "is_amounts" (defArgs s_is_amounts) (defBody s_is_amounts) (defScope s_is_amounts) .none kV13 dc13 pm13 an13 cd13 ct13), sl13⟩) (c13 : PySem.W.codeIn K cd13 "is_amounts" = true) (k13 : PySem.W.keepIn K (.ref f13) = true)
    {f14 : Addr} {od14 an14 : Option Addr} {sl14 : Array (Option Value)} {oc14 kV14 dc14 pm14 cd14 ct14 : Value}
    (a14 : PySem.W.nsIn K mainGlobals "_law_rows_right" = some (some (.ref f14))) (l14 : K.lookup f14 = some ⟨oc14, od14, .func (PySem.W.fnOf "_law_rows_right" "_law_rows_right" (defArgs s_law_rows_right) (defBody s_law_rows_right) (defScope s_law_rows_right) .none kV14 dc14 pm14 an14 cd14 ct14), sl14⟩) (c14 : PySem.W.codeIn K cd14 "_law_rows_right" = true) (k14 : PySem.W.keepIn K (.ref f14) = true)
    {f15 : Addr} {od15 an15 : Option Addr} {sl15 : Array (Option Value)} {oc15 kV15 dc15 pm15 cd15 ct15 : Value}
    (a15 : PySem.W.nsIn K mainGlobals "is_name" = some (some (.ref f15))) (l15 : K.lookup f15 = some ⟨oc15, od15, .func (PySem.W.fnOf "is_name" "is_name" (defArgs s_is_name) (defBody s_is_name) (defScope s_is_name) .none kV15 dc15 pm15 an15 cd15 ct15), sl15⟩) (c15 : PySem.W.codeIn K cd15 "is_name" = true) (k15 : PySem.W.keepIn K (.ref f15) = true)
    {f16 : Addr} {od16 an16 : Option Addr} {sl16 : Array (Option Value)} {oc16 kV16 dc16 pm16 cd16 ct16 : Value}
    (a16 : PySem.W.nsIn K mainGlobals "_law_is_name" = some (some (.ref f16))) (l16 : K.lookup f16 = some ⟨oc16, od16, .func (PySem.W.fnOf "_law_is_name" "_law_is_name" (defArgs s_law_is_name) (defBody s_law_is_name) (defScope s_law_is_name) .none kV16 dc16 pm16 an16 cd16 ct16), sl16⟩) (c16 : PySem.W.codeIn K cd16 "_law_is_name" = true) (k16 : PySem.W.keepIn K (.ref f16) = true)
    {f17 : Addr} {od17 an17 : Option Addr} {sl17 : Array (Option Value)} {oc17 kV17 dc17 pm17 cd17 ct17 : Value}
    (a17 : PySem.W.nsIn K mainGlobals "_law_names_right" = some (some (.ref f17))) (l17 : K.lookup f17 = some ⟨oc17, od17, .func (PySem.W.fnOf "_law_names_right" "_law_names_right" (defArgs s_law_names_right) (defBody s_law_names_right) (defScope s_law_names_right) .none kV17 dc17 pm17 an17 cd17 ct17), sl17⟩) (c17 : PySem.W.codeIn K cd17 "_law_names_right" = true) (k17 : PySem.W.keepIn K (.ref f17) = true)
    {f18 : Addr} {od18 an18 : Option Addr} {sl18 : Array (Option Value)} {oc18 kV18 dc18 pm18 cd18 ct18 : Value}
    (a18 : PySem.W.nsIn K mainGlobals "are_sorts" = some (some (.ref f18))) (l18 : K.lookup f18 = some ⟨oc18, od18, .func (PySem.W.fnOf "are_sorts" "are_sorts" (defArgs s_are_sorts) (defBody s_are_sorts) (defScope s_are_sorts) .none kV18 dc18 pm18 an18 cd18 ct18), sl18⟩) (c18 : PySem.W.codeIn K cd18 "are_sorts" = true) (k18 : PySem.W.keepIn K (.ref f18) = true)
    {f19 : Addr} {od19 an19 : Option Addr} {sl19 : Array (Option Value)} {oc19 kV19 dc19 pm19 cd19 ct19 : Value}
    (a19 : PySem.W.nsIn K mainGlobals "is_rule" = some (some (.ref f19))) (l19 : K.lookup f19 = some ⟨oc19, od19, .func (PySem.W.fnOf "is_rule" "is_rule" (defArgs s_is_rule) (defBody s_is_rule) (defScope s_is_rule) .none kV19 dc19 pm19 an19 cd19 ct19), sl19⟩) (c19 : PySem.W.codeIn K cd19 "is_rule" = true) (k19 : PySem.W.keepIn K (.ref f19) = true)
    {f20 : Addr} {od20 an20 : Option Addr} {sl20 : Array (Option Value)} {oc20 kV20 dc20 pm20 cd20 ct20 : Value}
    (a20 : PySem.W.nsIn K mainGlobals "are_inputs" = some (some (.ref f20))) (l20 : K.lookup f20 = some ⟨oc20, od20, .func (PySem.W.fnOf "are_inputs" "are_inputs" (defArgs s_are_inputs) (defBody s_are_inputs) (defScope s_are_inputs) .none kV20 dc20 pm20 an20 cd20 ct20), sl20⟩) (c20 : PySem.W.codeIn K cd20 "are_inputs" = true) (k20 : PySem.W.keepIn K (.ref f20) = true)
    {f21 : Addr} {od21 an21 : Option Addr} {sl21 : Array (Option Value)} {oc21 kV21 dc21 pm21 cd21 ct21 : Value}
    (a21 : PySem.W.nsIn K mainGlobals "is_pot" = some (some (.ref f21))) (l21 : K.lookup f21 = some ⟨oc21, od21, .func (PySem.W.fnOf "is_pot" "is_pot" (defArgs s_is_pot) (defBody s_is_pot) (defScope s_is_pot) .none kV21 dc21 pm21 an21 cd21 ct21), sl21⟩) (c21 : PySem.W.codeIn K cd21 "is_pot" = true) (k21 : PySem.W.keepIn K (.ref f21) = true)
    {f22 : Addr} {od22 an22 : Option Addr} {sl22 : Array (Option Value)} {oc22 kV22 dc22 pm22 cd22 ct22 : Value}
    (a22 : PySem.W.nsIn K mainGlobals "_law_unlike" = some (some (.ref f22))) (l22 : K.lookup f22 = some ⟨oc22, od22, .func (PySem.W.fnOf "_law_unlike" "_law_unlike" (defArgs s_law_unlike) (defBody s_law_unlike) (defScope s_law_unlike) .none kV22 dc22 pm22 an22 cd22 ct22), sl22⟩) (c22 : PySem.W.codeIn K cd22 "_law_unlike" = true) (k22 : PySem.W.keepIn K (.ref f22) = true)
    {f23 : Addr} {od23 an23 : Option Addr} {sl23 : Array (Option Value)} {oc23 kV23 dc23 pm23 cd23 ct23 : Value}
    (a23 : PySem.W.nsIn K mainGlobals "_law_is_rule" = some (some (.ref f23))) (l23 : K.lookup f23 = some ⟨oc23, od23, .func (PySem.W.fnOf "_law_is_rule" "_law_is_rule" (defArgs s_law_is_rule) (defBody s_law_is_rule) (defScope s_law_is_rule) .none kV23 dc23 pm23 an23 cd23 ct23), sl23⟩) (c23 : PySem.W.codeIn K cd23 "_law_is_rule" = true) (k23 : PySem.W.keepIn K (.ref f23) = true)
    {f24 : Addr} {od24 an24 : Option Addr} {sl24 : Array (Option Value)} {oc24 kV24 dc24 pm24 cd24 ct24 : Value}
    (a24 : PySem.W.nsIn K mainGlobals "_law_is_pot" = some (some (.ref f24))) (l24 : K.lookup f24 = some ⟨oc24, od24, .func (PySem.W.fnOf "_law_is_pot" "_law_is_pot" (defArgs s_law_is_pot) (defBody s_law_is_pot) (defScope s_law_is_pot) .none kV24 dc24 pm24 an24 cd24 ct24), sl24⟩) (c24 : PySem.W.codeIn K cd24 "_law_is_pot" = true) (k24 : PySem.W.keepIn K (.ref f24) = true)
    {f25 : Addr} {od25 an25 : Option Addr} {sl25 : Array (Option Value)} {oc25 kV25 dc25 pm25 cd25 ct25 : Value}
    (a25 : PySem.W.nsIn K mainGlobals "law" = some (some (.ref f25))) (l25 : K.lookup f25 = some ⟨oc25, od25, .func (PySem.W.fnOf "law" "law" (defArgs s_law) (defBody s_law) (defScope s_law) .none kV25 dc25 pm25 an25 cd25 ct25), sl25⟩) (c25 : PySem.W.codeIn K cd25 "law" = true) (k25 : PySem.W.keepIn K (.ref f25) = true)
    {gt1 : Tok} (g1 : PySem.W.nsIn K mainGlobals "LETTERS" = some (some (.str "abcdefghijklmnopqrstuvwxyz" gt1)))
    {gt2 : Tok} (g2 : PySem.W.nsIn K mainGlobals "MOST_BEGUN" = some (some (.int 99 gt2)))
    {gt3 : Tok} (g3 : PySem.W.nsIn K mainGlobals "MOST_INPUTS" = some (some (.int 3 gt3)))
    {gt4 : Tok} (g4 : PySem.W.nsIn K mainGlobals "MOST_LETTERS" = some (some (.int 8 gt4)))
    {gt5 : Tok} (g5 : PySem.W.nsIn K mainGlobals "MOST_MOVED" = some (some (.int 9 gt5)))
    {gt6 : Tok} (g6 : PySem.W.nsIn K mainGlobals "MOST_RULES" = some (some (.int 8 gt6)))
    {gt7 : Tok} (g7 : PySem.W.nsIn K mainGlobals "MOST_SORTS" = some (some (.int 8 gt7)))
    {gb8 : Addr} {gn8 : Nat} {gs8 : Array (Option Value)} {gt8_0 gt8_1 gt8_2 gt8_3 gt8_4 gt8_5 : Tok} (g8 : PySem.W.nsIn K mainGlobals "WORDS" = some (some (.ref gb8))) (q8 : K.lookup gb8 = some ⟨.type "tuple", none, .seq #[.str "sorts" gt8_0, .str "begin" gt8_1, .str "in" gt8_2, .str "out" gt8_3, .str "rule" gt8_4, .str "to" gt8_5] gn8, gs8⟩)
    (z1 : PySem.W.nsIn K mainGlobals "all" = some none)
    (z2 : PySem.W.nsIn K mainGlobals "bool" = some none)
    (z3 : PySem.W.nsIn K mainGlobals "int" = some none)
    (z4 : PySem.W.nsIn K mainGlobals "isinstance" = some none)
    (z5 : PySem.W.nsIn K mainGlobals "len" = some none)
    (z6 : PySem.W.nsIn K mainGlobals "list" = some none)
    (z7 : PySem.W.nsIn K mainGlobals "max" = some none)
    (z8 : PySem.W.nsIn K mainGlobals "min" = some none)
    (z9 : PySem.W.nsIn K mainGlobals "range" = some none)
    (z10 : PySem.W.nsIn K mainGlobals "repr" = some none)
    (z11 : PySem.W.nsIn K mainGlobals "set" = some none)
    (z12 : PySem.W.nsIn K mainGlobals "str" = some none)
    (z13 : PySem.W.nsIn K mainGlobals "sum" = some none)
    (z14 : PySem.W.nsIn K mainGlobals "tuple" = some none)
    : ∃ fd : FuncData, (∀ (s : Shared) (v : Value), BindsTo s fd ⟨[v], []⟩ [("_law_script", v)]) ∧ ∀ base : Heap, K.In base → base.Ns mainGlobals mg → FG PySem.Challenge.rw_dropsums_k01_names_and_pots.prog w K mg base 13 fa fd ["_law_script"] lawD := by
  have e := hfa.symm.trans (PySem.W.mg_of X G a25)
  cases e
  have F1 := fun_mk (st := s_law_feed) l1 c1 k1
  have D1 : DefAt K mg "_law_feed" s_law_feed ["_law_script", "_law_k"] := ⟨_, _, F1, F1.binds fun _ _ _ _ _ _ us hl => match us, hl with | [_, _], _ => rfl, PySem.W.mg_of X G a1⟩
  have F2 := fun_mk (st := s_law_draw) l2 c2 k2
  have D2 : DefAt K mg "_law_draw" s_law_draw ["_law_feed_here", "_law_many"] := ⟨_, _, F2, F2.binds fun _ _ _ _ _ _ us hl => match us, hl with | [_, _], _ => rfl, PySem.W.mg_of X G a2⟩
  have F3 := fun_mk (st := s_law_names) l3 c3 k3
  have D3 : DefAt K mg "_law_names" s_law_names ["_law_feed_here", "_law_many"] := ⟨_, _, F3, F3.binds fun _ _ _ _ _ _ us hl => match us, hl with | [_, _], _ => rfl, PySem.W.mg_of X G a3⟩
  have F4 := fun_mk (st := s_law_rule) l4 c4 k4
  have D4 : DefAt K mg "_law_rule" s_law_rule ["_law_feed_here", "_law_many"] := ⟨_, _, F4, F4.binds fun _ _ _ _ _ _ us hl => match us, hl with | [_, _], _ => rfl, PySem.W.mg_of X G a4⟩
  have F5 := fun_mk (st := s_law_pot) l5 c5 k5
  have D5 : DefAt K mg "_law_pot" s_law_pot ["_law_feed_here"] := ⟨_, _, F5, F5.binds fun _ _ _ _ _ _ us hl => match us, hl with | [_], _ => rfl, PySem.W.mg_of X G a5⟩
  have F6 := fun_mk (st := s_law_odd) l6 c6 k6
  have D6 : DefAt K mg "_law_odd" s_law_odd ["_law_feed_here", "_law_thing"] := ⟨_, _, F6, F6.binds fun _ _ _ _ _ _ us hl => match us, hl with | [_, _], _ => rfl, PySem.W.mg_of X G a6⟩
  have F7 := fun_mk (st := s_law_bent) l7 c7 k7
  have D7 : DefAt K mg "_law_bent" s_law_bent ["_law_feed_here", "_law_thing", "_law_deep"] := ⟨_, _, F7, F7.binds fun _ _ _ _ _ _ us hl => match us, hl with | [_, _, _], _ => rfl, PySem.W.mg_of X G a7⟩
  have F8 := fun_mk (st := s_law_whole) l8 c8 k8
  have D8 : DefAt K mg "_law_whole" s_law_whole ["_law_thing", "_law_least", "_law_most"] := ⟨_, _, F8, F8.binds fun _ _ _ _ _ _ us hl => match us, hl with | [_, _, _], _ => rfl, PySem.W.mg_of X G a8⟩
  have F9 := fun_mk (st := s_law_is_row) l9 c9 k9
  have D9 : DefAt K mg "_law_is_row" s_law_is_row ["_law_thing", "_law_many", "_law_most"] := ⟨_, _, F9, F9.binds fun _ _ _ _ _ _ us hl => match us, hl with | [_, _, _], _ => rfl, PySem.W.mg_of X G a9⟩
  have F10 := fun_mk (st := s_is_whole) l10 c10 k10
  have D10 : DefAt K mg "is_whole" s_is_whole ["thing"] := ⟨_, _, F10, F10.binds fun _ _ _ _ _ _ us hl => match us, hl with | [_], _ => rfl, PySem.W.mg_of X G a10⟩
  have F11 := fun_mk (st := s_is_counts) l11 c11 k11
  have D11 : DefAt K mg "is_counts" s_is_counts ["many", "thing"] := ⟨_, _, F11, F11.binds fun _ _ _ _ _ _ us hl => match us, hl with | [_, _], _ => rfl, PySem.W.mg_of X G a11⟩
  have F12 := fun_mk (st := s_is_stand) l12 c12 k12
  have D12 : DefAt K mg "is_stand" s_is_stand ["many", "thing"] := ⟨_, _, F12, F12.binds fun _ _ _ _ _ _ us hl => match us, hl with | [_, _], _ => rfl, PySem.W.mg_of X G a12⟩
  have F13 := fun_mk (st := s_is_amounts) l13 c13 k13
  have D13 : DefAt K mg "is_amounts" s_is_amounts ["many", "thing"] := ⟨_, _, F13, F13.binds fun _ _ _ _ _ _ us hl => match us, hl with | [_, _], _ => rfl, PySem.W.mg_of X G a13⟩
  have F14 := fun_mk (st := s_law_rows_right) l14 c14 k14
  have D14 : DefAt K mg "_law_rows_right" s_law_rows_right ["_law_feed_here", "_law_many"] := ⟨_, _, F14, F14.binds fun _ _ _ _ _ _ us hl => match us, hl with | [_, _], _ => rfl, PySem.W.mg_of X G a14⟩
  have F15 := fun_mk (st := s_is_name) l15 c15 k15
  have D15 : DefAt K mg "is_name" s_is_name ["thing"] := ⟨_, _, F15, F15.binds fun _ _ _ _ _ _ us hl => match us, hl with | [_], _ => rfl, PySem.W.mg_of X G a15⟩
  have F16 := fun_mk (st := s_law_is_name) l16 c16 k16
  have D16 : DefAt K mg "_law_is_name" s_law_is_name ["_law_thing"] := ⟨_, _, F16, F16.binds fun _ _ _ _ _ _ us hl => match us, hl with | [_], _ => rfl, PySem.W.mg_of X G a16⟩
  have F17 := fun_mk (st := s_law_names_right) l17 c17 k17
  have D17 : DefAt K mg "_law_names_right" s_law_names_right ["_law_feed_here"] := ⟨_, _, F17, F17.binds fun _ _ _ _ _ _ us hl => match us, hl with | [_], _ => rfl, PySem.W.mg_of X G a17⟩
  have F18 := fun_mk (st := s_are_sorts) l18 c18 k18
  have D18 : DefAt K mg "are_sorts" s_are_sorts ["thing"] := ⟨_, _, F18, F18.binds fun _ _ _ _ _ _ us hl => match us, hl with | [_], _ => rfl, PySem.W.mg_of X G a18⟩
  have F19 := fun_mk (st := s_is_rule) l19 c19 k19
  have D19 : DefAt K mg "is_rule" s_is_rule ["many", "thing"] := ⟨_, _, F19, F19.binds fun _ _ _ _ _ _ us hl => match us, hl with | [_, _], _ => rfl, PySem.W.mg_of X G a19⟩
  have F20 := fun_mk (st := s_are_inputs) l20 c20 k20
  have D20 : DefAt K mg "are_inputs" s_are_inputs ["many", "thing"] := ⟨_, _, F20, F20.binds fun _ _ _ _ _ _ us hl => match us, hl with | [_, _], _ => rfl, PySem.W.mg_of X G a20⟩
  have F21 := fun_mk (st := s_is_pot) l21 c21 k21
  have D21 : DefAt K mg "is_pot" s_is_pot ["thing"] := ⟨_, _, F21, F21.binds fun _ _ _ _ _ _ us hl => match us, hl with | [_], _ => rfl, PySem.W.mg_of X G a21⟩
  have F22 := fun_mk (st := s_law_unlike) l22 c22 k22
  have D22 : DefAt K mg "_law_unlike" s_law_unlike ["_law_things"] := ⟨_, _, F22, F22.binds fun _ _ _ _ _ _ us hl => match us, hl with | [_], _ => rfl, PySem.W.mg_of X G a22⟩
  have F23 := fun_mk (st := s_law_is_rule) l23 c23 k23
  have D23 : DefAt K mg "_law_is_rule" s_law_is_rule ["_law_thing", "_law_many"] := ⟨_, _, F23, F23.binds fun _ _ _ _ _ _ us hl => match us, hl with | [_, _], _ => rfl, PySem.W.mg_of X G a23⟩
  have F24 := fun_mk (st := s_law_is_pot) l24 c24 k24
  have D24 : DefAt K mg "_law_is_pot" s_law_is_pot ["_law_thing"] := ⟨_, _, F24, F24.binds fun _ _ _ _ _ _ us hl => match us, hl with | [_], _ => rfl, PySem.W.mg_of X G a24⟩
  have F25 := fun_mk (st := s_law) l25 c25 k25
  have D25 : DefAt K mg "law" s_law ["_law_script"] := ⟨_, _, F25, F25.binds fun _ _ _ _ _ _ us hl => match us, hl with | [_], _ => rfl, PySem.W.mg_of X G a25⟩
  have Z : BI mg bins := by
    intro x hx
    simp only [bins, List.mem_cons, List.not_mem_nil, or_false] at hx
    rcases hx with rfl | rfl | rfl | rfl | rfl | rfl | rfl | rfl | rfl | rfl | rfl | rfl | rfl | rfl
    · exact PySem.W.mg_none_of X G z1
    · exact PySem.W.mg_none_of X G z2
    · exact PySem.W.mg_none_of X G z3
    · exact PySem.W.mg_none_of X G z4
    · exact PySem.W.mg_none_of X G z5
    · exact PySem.W.mg_none_of X G z6
    · exact PySem.W.mg_none_of X G z7
    · exact PySem.W.mg_none_of X G z8
    · exact PySem.W.mg_none_of X G z9
    · exact PySem.W.mg_none_of X G z10
    · exact PySem.W.mg_none_of X G z11
    · exact PySem.W.mg_none_of X G z12
    · exact PySem.W.mg_none_of X G z13
    · exact PySem.W.mg_none_of X G z14
  refine ⟨PySem.W.fnOf "law" "law" (defArgs s_law) (defBody s_law) (defScope s_law) .none kV25 dc25 pm25 an25 cd25 ct25, fun s v => .of_eq rfl, fun base _ _ => ?_⟩
  have C_LETTERS : ConstAt K mg "LETTERS" (.str "abcdefghijklmnopqrstuvwxyz") := .str (PySem.W.mg_of X G g1)
  have C_MOST_BEGUN : ConstAt K mg "MOST_BEGUN" (.int 99) := .int (PySem.W.mg_of X G g2)
  have C_MOST_INPUTS : ConstAt K mg "MOST_INPUTS" (.int 3) := .int (PySem.W.mg_of X G g3)
  have C_MOST_LETTERS : ConstAt K mg "MOST_LETTERS" (.int 8) := .int (PySem.W.mg_of X G g4)
  have C_MOST_MOVED : ConstAt K mg "MOST_MOVED" (.int 9) := .int (PySem.W.mg_of X G g5)
  have C_MOST_RULES : ConstAt K mg "MOST_RULES" (.int 8) := .int (PySem.W.mg_of X G g6)
  have C_MOST_SORTS : ConstAt K mg "MOST_SORTS" (.int 8) := .int (PySem.W.mg_of X G g7)
  have C_WORDS : ConstAt K mg "WORDS" (.kt [.str "sorts", .str "begin", .str "in", .str "out", .str "rule", .str "to"]) := .tupS ["sorts", "begin", "in", "out", "rule", "to"] (PySem.W.mg_of X G g8) q8 rfl rfl (Nat.le_of_ble_eq_true rfl) (.cons ⟨_, rfl⟩ (.cons ⟨_, rfl⟩ (.cons ⟨_, rfl⟩ (.cons ⟨_, rfl⟩ (.cons ⟨_, rfl⟩ (.cons ⟨_, rfl⟩ (.nil)))))))
  have h_law_feed := f_law_feed (P := PySem.Challenge.rw_dropsums_k01_names_and_pots.prog) (w := w) (base := base) Z D1
  have h_law_draw := f_law_draw (P := PySem.Challenge.rw_dropsums_k01_names_and_pots.prog) (w := w) (base := base) Z D2
  have h_law_names := f_law_names (P := PySem.Challenge.rw_dropsums_k01_names_and_pots.prog) (w := w) (base := base) Z h_law_draw D3
  have h_law_rule := f_law_rule (P := PySem.Challenge.rw_dropsums_k01_names_and_pots.prog) (w := w) (base := base) Z h_law_draw D4
  have h_law_pot := f_law_pot (P := PySem.Challenge.rw_dropsums_k01_names_and_pots.prog) (w := w) (base := base) Z h_law_draw h_law_names h_law_rule D5
  have h_law_odd := f_law_odd (P := PySem.Challenge.rw_dropsums_k01_names_and_pots.prog) (w := w) (base := base) Z h_law_draw D6
  have h_law_bent := f_law_bent (P := PySem.Challenge.rw_dropsums_k01_names_and_pots.prog) (w := w) (base := base) Z h_law_draw h_law_odd D7
  have h_law_whole := f_law_whole (P := PySem.Challenge.rw_dropsums_k01_names_and_pots.prog) (w := w) (base := base) Z D8
  have h_law_is_row := f_law_is_row (P := PySem.Challenge.rw_dropsums_k01_names_and_pots.prog) (w := w) (base := base) Z h_law_whole D9
  have h_is_whole := f_is_whole (P := PySem.Challenge.rw_dropsums_k01_names_and_pots.prog) (w := w) (base := base) Z D10
  have h_is_counts := f_is_counts (P := PySem.Challenge.rw_dropsums_k01_names_and_pots.prog) (w := w) (base := base) Z h_is_whole D11
  have h_is_stand := f_is_stand (P := PySem.Challenge.rw_dropsums_k01_names_and_pots.prog) (w := w) (base := base) Z h_is_counts D12
  have h_is_amounts := f_is_amounts (P := PySem.Challenge.rw_dropsums_k01_names_and_pots.prog) (w := w) (base := base) Z h_is_counts D13
  have h_law_rows_right := f_law_rows_right (P := PySem.Challenge.rw_dropsums_k01_names_and_pots.prog) (w := w) (base := base) Z h_law_draw h_law_bent h_law_is_row h_is_stand h_is_amounts D14
  have h_is_name := f_is_name (P := PySem.Challenge.rw_dropsums_k01_names_and_pots.prog) (w := w) (base := base) Z C_LETTERS C_MOST_LETTERS C_WORDS D15
  have h_law_is_name := f_law_is_name (P := PySem.Challenge.rw_dropsums_k01_names_and_pots.prog) (w := w) (base := base) Z D16
  have h_law_names_right := f_law_names_right (P := PySem.Challenge.rw_dropsums_k01_names_and_pots.prog) (w := w) (base := base) Z h_law_names h_is_name h_law_is_name D17
  have h_are_sorts := f_are_sorts (P := PySem.Challenge.rw_dropsums_k01_names_and_pots.prog) (w := w) (base := base) Z h_is_name C_MOST_SORTS D18
  have h_is_rule := f_is_rule (P := PySem.Challenge.rw_dropsums_k01_names_and_pots.prog) (w := w) (base := base) Z h_is_counts C_MOST_MOVED D19
  have h_are_inputs := f_are_inputs (P := PySem.Challenge.rw_dropsums_k01_names_and_pots.prog) (w := w) (base := base) Z h_is_whole C_MOST_INPUTS D20
  have h_is_pot := f_is_pot (P := PySem.Challenge.rw_dropsums_k01_names_and_pots.prog) (w := w) (base := base) Z h_are_sorts h_is_rule h_is_counts h_are_inputs h_is_whole C_MOST_BEGUN C_MOST_RULES D21
  have h_law_unlike := f_law_unlike (P := PySem.Challenge.rw_dropsums_k01_names_and_pots.prog) (w := w) (base := base) Z D22
  have h_law_is_rule := f_law_is_rule (P := PySem.Challenge.rw_dropsums_k01_names_and_pots.prog) (w := w) (base := base) Z h_law_is_row D23
  have h_law_is_pot := f_law_is_pot (P := PySem.Challenge.rw_dropsums_k01_names_and_pots.prog) (w := w) (base := base) Z h_law_unlike h_law_is_name h_law_is_rule h_law_whole h_law_is_row D24
  exact law_fg Z h_law_feed h_law_pot h_law_rows_right h_law_draw h_law_names_right h_law_bent h_is_pot h_law_is_pot F25
end DL
open PySem PySem.W PyProof.Rows
set_option maxRecDepth 100000 in
set_option maxHeartbeats 0 in
theorem PySem.Challenge.cw_dropsums_k01_names_and_pots_holds : PySem.Challenge.rw_dropsums_k01_names_and_pots.Holds := by
  w_on; o_law; k_head; (case hw => w_witness2)
  k_fill
  refine DL.law_walk (l := PySem.Challenge.rw_dropsums_k01_names_and_pots) (k := 13) (x := "_law_script") rfl rfl ⟨rfl, by decide, by decide⟩ (fun w h Y => PySem.W.kIn_of Y) ?F
  case F =>
    intro w mg fa h KX G hmg
    refine' DL.all_mk KX G hmg ?a1 ?l1 ?c1 ?k1 ?a2 ?l2 ?c2 ?k2 ?a3 ?l3 ?c3 ?k3 ?a4 ?l4 ?c4 ?k4 ?a5 ?l5 ?c5 ?k5 ?a6 ?l6 ?c6 ?k6 ?a7 ?l7 ?c7 ?k7 ?a8 ?l8 ?c8 ?k8 ?a9 ?l9 ?c9 ?k9 ?a10 ?l10 ?c10 ?k10 ?a11 ?l11 ?c11 ?k11 ?a12 ?l12 ?c12 ?k12 ?a13 ?l13 ?c13 ?k13 ?a14 ?l14 ?c14 ?k14 ?a15 ?l15 ?c15 ?k15 ?a16 ?l16 ?c16 ?k16 ?a17 ?l17 ?c17 ?k17 ?a18 ?l18 ?c18 ?k18 ?a19 ?l19 ?c19 ?k19 ?a20 ?l20 ?c20 ?k20 ?a21 ?l21 ?c21 ?k21 ?a22 ?l22 ?c22 ?k22 ?a23 ?l23 ?c23 ?k23 ?a24 ?l24 ?c24 ?k24 ?a25 ?l25 ?c25 ?k25 ?g1 ?g2 ?g3 ?g4 ?g5 ?g6 ?g7 ?g8 ?q8 ?z1 ?z2 ?z3 ?z4 ?z5 ?z6 ?z7 ?z8 ?z9 ?z10 ?z11 ?z12 ?z13 ?z14
    (case a1 => k_is)
    (case l1 => k_is)
    (case c1 => k_is)
    (case k1 => k_is)
    (case a2 => k_is)
    (case l2 => k_is)
    (case c2 => k_is)
    (case k2 => k_is)
    (case a3 => k_is)
    (case l3 => k_is)
    (case c3 => k_is)
    (case k3 => k_is)
    (case a4 => k_is)
    (case l4 => k_is)
    (case c4 => k_is)
    (case k4 => k_is)
    (case a5 => k_is)
    (case l5 => k_is)
    (case c5 => k_is)
    (case k5 => k_is)
    (case a6 => k_is)
    (case l6 => k_is)
    (case c6 => k_is)
    (case k6 => k_is)
    (case a7 => k_is)
    (case l7 => k_is)
    (case c7 => k_is)
    (case k7 => k_is)
    (case a8 => k_is)
    (case l8 => k_is)
    (case c8 => k_is)
    (case k8 => k_is)
    (case a9 => k_is)
    (case l9 => k_is)
    (case c9 => k_is)
    (case k9 => k_is)
    (case a10 => k_is)
    (case l10 => k_is)
    (case c10 => k_is)
    (case k10 => k_is)
    (case a11 => k_is)
    (case l11 => k_is)
    (case c11 => k_is)
    (case k11 => k_is)
    (case a12 => k_is)
    (case l12 => k_is)
    (case c12 => k_is)
    (case k12 => k_is)
    (case a13 => k_is)
    (case l13 => k_is)
    (case c13 => k_is)
    (case k13 => k_is)
    (case a14 => k_is)
    (case l14 => k_is)
    (case c14 => k_is)
    (case k14 => k_is)
    (case a15 => k_is)
    (case l15 => k_is)
    (case c15 => k_is)
    (case k15 => k_is)
    (case a16 => k_is)
    (case l16 => k_is)
    (case c16 => k_is)
    (case k16 => k_is)
    (case a17 => k_is)
    (case l17 => k_is)
    (case c17 => k_is)
    (case k17 => k_is)
    (case a18 => k_is)
    (case l18 => k_is)
    (case c18 => k_is)
    (case k18 => k_is)
    (case a19 => k_is)
    (case l19 => k_is)
    (case c19 => k_is)
    (case k19 => k_is)
    (case a20 => k_is)
    (case l20 => k_is)
    (case c20 => k_is)
    (case k20 => k_is)
    (case a21 => k_is)
    (case l21 => k_is)
    (case c21 => k_is)
    (case k21 => k_is)
    (case a22 => k_is)
    (case l22 => k_is)
    (case c22 => k_is)
    (case k22 => k_is)
    (case a23 => k_is)
    (case l23 => k_is)
    (case c23 => k_is)
    (case k23 => k_is)
    (case a24 => k_is)
    (case l24 => k_is)
    (case c24 => k_is)
    (case k24 => k_is)
    (case a25 => k_is)
    (case l25 => k_is)
    (case c25 => k_is)
    (case k25 => k_is)
    (case g1 => k_is)
    (case g2 => k_is)
    (case g3 => k_is)
    (case g4 => k_is)
    (case g5 => k_is)
    (case g6 => k_is)
    (case g7 => k_is)
    (case g8 => k_is)
    (case q8 => k_is)
    (case z1 => k_is)
    (case z2 => k_is)
    (case z3 => k_is)
    (case z4 => k_is)
    (case z5 => k_is)
    (case z6 => k_is)
    (case z7 => k_is)
    (case z8 => k_is)
    (case z9 => k_is)
    (case z10 => k_is)
    (case z11 => k_is)
    (case z12 => k_is)
    (case z13 => k_is)
    (case z14 => k_is)

