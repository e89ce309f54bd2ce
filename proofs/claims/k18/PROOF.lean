import PyProof.Rows.All
import Wide.All
import OpenK.AllK
import Wide.FinOn
import HandS.ForMost
import HandS.ForExc
import HandS.Deep
import HandS.IsInst
import HandS.Zip
import HandS.More
import HandS.RaiseMore
import HandS.Wide
import HandS.Ends
import HandS.Words
import HandS.WordsExc
import HandS.ExcCtx
import KE.GoesEnum
import HandS.TupAny
import HandS.TupMul
import HandS.Conv
import PyProof.ReprBulk
import KE.GoesNew
import KE.GoesMore
import HandS.Dict
import HandS.Small
import HandS.WordsDict
import KE.SortData
import HandS.Style
import PyProof.NeData
import HandS.TupLe
import HandS.SetFor
import PyProof.ExcBaseAll.ValueError
import HandS.ExcInit
import HandS.ExcField
import HandS.ClsMeth
import HandS.ExcIs
import HandS.HotCalls
import KE.KDictDisplayH
import HandS.NoneIn
import KE.KDictKeyed
import HandS.Text
import PyProof.StrBlock2
import PyProof.FitsInt
import KE.IntTextLaws
import HandS.Iter
import HandS.SortKw
import KE.KMinKey
import HandS.SuiteRaise
import PySem.Challenge.RW_dropsums_k18_refusals_apart
set_option Elab.async false
set_option linter.all false
set_option maxRecDepth 100000
set_option maxHeartbeats 4000000
set_option exponentiation.threshold 200000
/-! The data level: values without addresses for what never changes, a small heap for what does. -/
namespace L2
open PySem PySem.Spec
/-- an error that was caught, known by its class and its dict -/
def excO (a C : Addr) (d : Option Addr) : HO := .ext fun h => ∃ ob : Obj, h.get? a = some ob ∧ Zc (.ref C) d ob ∧ ∃ fl, ob.data = .fields fl
end L2
namespace DL
open PySem PySem.Spec L2

/-- a value: tuples by what they hold, lists by their address; ro: a list that nobody changes; kt: a tuple of the module's own -/
inductive DV where
  | non | bl (b : Bool) | int (i : Int) | str (s : Str) | tup (l : List DV) | ref (a : Addr) | ro (l : List DV) | ty (n : String) | exc (a d C : Addr) (ks : List Str) (l : List DV) | kt (l : List DV)
deriving Inhabited
/-- what may change -/
inductive Cell where
  | lst (l : List DV)
  | dic (l : List (Key × DV))
  | ins (C : Addr) (fs : List (Str × DV))
  | dt (l : List (List Key × DV))
  | fz (o : Obj) (xs : List (Key × V)) (l : List (Key × DV))
  | fzt (o : Obj) (xs : List (List Key × V)) (l : List (List Key × DV))
abbrev Gh := Addr → Option Cell
def gup (G : Gh) (a : Addr) (c : Cell) : Gh := fun b => if b = a then some c else G b
theorem gup_same {G : Gh} {a : Addr} {c : Cell} : gup G a c a = some c := by simp [gup]
theorem gup_ne {G : Gh} {a b : Addr} {c : Cell} (h : b ≠ a) : gup G a c b = G b := by simp [gup, h]
theorem gup_gup {G : Gh} {a : Addr} {c d : Cell} : gup (gup G a c) a d = gup G a d := by
  funext b; simp only [gup]; split <;> rfl
theorem ne_gone {G : Gh} {a b : Addr} {c : Cell} (h : G a = some c) (h' : G b = none) : a ≠ b := by
  rintro rfl; rw [h] at h'; cases h'

/-- a list that is known to the object, or one of the module's own -/
def RoL (K : PySem.W.Frag) (H : Hp) (a : Addr) (xs : List V) : Prop := (∃ o, H a = some (.frz o (.lst xs))) ∨ SqL K (fun _ => none) a xs
theorem RoL.sq {K : PySem.W.Frag} {H : Hp} {a : Addr} {xs : List V} (h : RoL K H a xs) : SqL K H a xs := by
  rcases h with h | h
  · exact .inl (.inr h)
  · rcases h with h | h
    · rcases h with h | ⟨o, h⟩ <;> cases h
    · exact .inr h
/-- a tuple that is known to the object, or one of the module's own -/
def KtL (K : PySem.W.Frag) (H : Hp) (a : Addr) (xs : List V) : Prop := (∃ o, H a = some (.frz o (.tup xs)) ∧ o.cls = .type "tuple" ∧ o.dict = none) ∨ (SqT K (fun _ => none) a xs ∧ ∃ o, K.lookup a = some o ∧ o.cls = .type "tuple" ∧ o.dict = none)
theorem KtL.sq {K : PySem.W.Frag} {H : Hp} {a : Addr} {xs : List V} (h : KtL K H a xs) : SqT K H a xs := by
  rcases h with ⟨o, h, _⟩ | ⟨h, _⟩
  · exact .inl (.inr ⟨o, h⟩)
  · rcases h with h | h
    · rcases h with h | ⟨o, h⟩ <;> cases h
    · exact .inr h
mutual
inductive VR (K : PySem.W.Frag) (H : Hp) : V → DV → Prop
  | non : VR K H .non .non
  | bl (b : Bool) : VR K H (.bl b) (.bl b)
  | int (i : Int) : VR K H (.int i) (.int i)
  | str (x : Str) : VR K H (.str x) (.str x)
  | ty (n : String) : VR K H (.ty n) (.ty n)
  | ref (a : Addr) : VR K H (.ref a) (.ref a)
  | tup {a : Addr} {xs : List V} {ds : List DV} : H a = some (.tup xs) → VRs K H xs ds → VR K H (.ref a) (.tup ds)
  | kt {a : Addr} {xs : List V} {ds : List DV} : KtL K H a xs → VRs K H xs ds → VR K H (.ref a) (.kt ds)
  | ro {a : Addr} {xs : List V} {ds : List DV} : RoL K H a xs → VRs K H xs ds → VR K H (.ref a) (.ro ds)
  | exc {a d C : Addr} {ks : List Str} {xs : List V} {ds : List DV} : H a = some (excO a C (some d)) → H d = some (.xd (ks.zip xs)) → VRs K H xs ds → VR K H (.ref a) (.exc a d C ks ds)
  | exn {a d C : Addr} : H a = some (excO a C none) → VR K H (.ref a) (.exc a d C [] [])
inductive VRs (K : PySem.W.Frag) (H : Hp) : List V → List DV → Prop
  | nil : VRs K H [] []
  | cons {v : V} {vs : List V} {d : DV} {ds : List DV} : VR K H v d → VRs K H vs ds → VRs K H (v :: vs) (d :: ds)
end

section
variable {K : PySem.W.Frag} {H H' : Hp} {G G' : Gh} {v : V} {vs ws : List V} {d : DV} {ds es : List DV}
theorem VRs.len : ∀ {vs : List V} {ds : List DV}, VRs K H vs ds → vs.length = ds.length
  | _, _, .nil => rfl
  | _, _, .cons _ t => by simp [t.len]
theorem VRs.get : ∀ {vs : List V} {ds : List DV} {i : Nat} {d : DV}, VRs K H vs ds → ds[i]? = some d → ∃ v, vs[i]? = some v ∧ VR K H v d
  | _, _, _, _, .nil, e => by simp at e
  | _, _, 0, _, .cons r _, e => by simp at e; subst e; exact ⟨_, rfl, r⟩
  | _, _, i + 1, d, .cons _ t, e => by
    obtain ⟨v, h1, h2⟩ := t.get (i := i) (d := d) (by simpa using e)
    exact ⟨v, by simpa using h1, h2⟩
theorem VRs.getV : ∀ {vs : List V} {ds : List DV} {i : Nat} {v : V}, VRs K H vs ds → vs[i]? = some v → ∃ d, ds[i]? = some d ∧ VR K H v d
  | _, _, _, _, .nil, e => by simp at e
  | _, _, 0, _, .cons r _, e => by simp at e; subst e; exact ⟨_, rfl, r⟩
  | _, _, i + 1, v, .cons _ t, e => by
    obtain ⟨d, h1, h2⟩ := t.getV (i := i) (v := v) (by simpa using e)
    exact ⟨d, by simpa using h1, h2⟩
theorem VRs.app : ∀ {vs ws : List V} {ds es : List DV}, VRs K H vs ds → VRs K H ws es → VRs K H (vs ++ ws) (ds ++ es)
  | _, _, _, _, .nil, s => s
  | _, _, _, _, .cons r t, s => .cons r (t.app s)
theorem VRs.one (h : VR K H v d) : VRs K H [v] [d] := .cons h .nil
theorem VRs.set (r : VR K H v d) : ∀ {vs : List V} {ds : List DV} (i : Nat), VRs K H vs ds → VRs K H (vs.set i v) (ds.set i d)
  | _, _, _, .nil => .nil
  | _, _, 0, .cons _ t => .cons r t
  | _, _, i + 1, .cons q t => .cons q (t.set r i)
theorem VRs.take : ∀ {vs : List V} {ds : List DV} (n : Nat), VRs K H vs ds → VRs K H (vs.take n) (ds.take n)
  | _, _, 0, _ => .nil
  | _, _, _ + 1, .nil => .nil
  | _, _, n + 1, .cons r t => .cons r (t.take n)
theorem VRs.drop : ∀ {vs : List V} {ds : List DV} (n : Nat), VRs K H vs ds → VRs K H (vs.drop n) (ds.drop n)
  | _, _, 0, r => r
  | _, _, _ + 1, .nil => .nil
  | _, _, n + 1, .cons _ t => t.drop n
theorem VRs.rev : ∀ {vs : List V} {ds : List DV}, VRs K H vs ds → VRs K H vs.reverse ds.reverse
  | _, _, .nil => .nil
  | _, _, .cons r t => by
    rw [List.reverse_cons, List.reverse_cons]
    exact t.rev.app (.cons r .nil)
theorem VRs.eraseIdx : ∀ {vs : List V} {ds : List DV} (n : Nat), VRs K H vs ds → VRs K H (vs.eraseIdx n) (ds.eraseIdx n)
  | _, _, _, .nil => .nil
  | _, _, 0, .cons _ t => t
  | _, _, n + 1, .cons r t => .cons r (t.eraseIdx n)
theorem VRs.dropLast {vs : List V} {ds : List DV} (h : VRs K H vs ds) : VRs K H vs.dropLast ds.dropLast := by
  rw [List.dropLast_eq_take, List.dropLast_eq_take, h.len]
  exact h.take _
theorem VRs.rep (r : VR K H v d) : ∀ n : Nat, VRs K H (List.replicate n v) (List.replicate n d)
  | 0 => .nil
  | n + 1 => .cons r (VRs.rep r n)
theorem VRs.ints : ∀ ns : List Int, VRs K H (ns.map V.int) (ns.map DV.int)
  | [] => .nil
  | n :: r => .cons (.int n) (VRs.ints r)
theorem VRs.strs : ∀ ns : List Str, VRs K H (ns.map V.str) (ns.map DV.str)
  | [] => .nil
  | n :: r => .cons (.str n) (VRs.strs r)
theorem VRs.bls : ∀ ns : List Bool, VRs K H (ns.map V.bl) (ns.map DV.bl)
  | [] => .nil
  | n :: r => .cons (.bl n) (VRs.bls r)
theorem VRs.ofInts : ∀ {ns : List Int} {vs : List V}, VRs K H vs (ns.map DV.int) → vs = ns.map V.int
  | [], _, .nil => rfl
  | _ :: _, _, .cons r t => by cases r; rw [VRs.ofInts t]; rfl
theorem VRs.ofStrs : ∀ {ns : List Str} {vs : List V}, VRs K H vs (ns.map DV.str) → vs = ns.map V.str
  | [], _, .nil => rfl
  | _ :: _, _, .cons r t => by cases r; rw [VRs.ofStrs t]; rfl
theorem VRs.ofBls : ∀ {ns : List Bool} {vs : List V}, VRs K H vs (ns.map DV.bl) → vs = ns.map V.bl
  | [], _, .nil => rfl
  | _ :: _, _, .cons r t => by cases r; rw [VRs.ofBls t]; rfl

/-- a dict's entries -/
inductive KR (K : PySem.W.Frag) (H : Hp) {κ : Type} : List (κ × V) → List (κ × DV) → Prop
  | nil : KR K H [] []
  | cons {k : κ} {v : V} {d : DV} {xs : List (κ × V)} {ys : List (κ × DV)} : VR K H v d → KR K H xs ys → KR K H ((k, v) :: xs) ((k, d) :: ys)
/-- an object's attributes -/
inductive FR (K : PySem.W.Frag) (H : Hp) : List (Str × V) → List (Str × DV) → Prop
  | nil : FR K H [] []
  | cons {k : Str} {v : V} {d : DV} {xs : List (Str × V)} {ys : List (Str × DV)} : VR K H v d → FR K H xs ys → FR K H ((k, v) :: xs) ((k, d) :: ys)

/-- a cell stands in the tracked heap -/
def CellOk (K : PySem.W.Frag) (H : Hp) (a : Addr) : Cell → Prop
  | .lst l => ∃ xs, H a = some (.lst xs) ∧ VRs K H xs l
  | .dic l => ∃ xs, H a = some (.dK xs) ∧ KR K H xs l
  | .dt l => ∃ xs, H a = some (.dT xs) ∧ KR K H xs l
  | .ins C fs => ∃ dx xs, H a = some (.ins C dx xs) ∧ H dx = some (.own a) ∧ FR K H xs fs
  | .fz o xs l => H a = some (.frz o (.dK xs)) ∧ KR K H xs l
  | .fzt o xs l => H a = some (.frz o (.dT xs)) ∧ KR K H xs l
def WG (K : PySem.W.Frag) (G : Gh) (H : Hp) : Prop := ∀ a c, G a = some c → CellOk K H a c
/-- what is tracked and no cell stays as it is, and becomes none -/
def Ext (G : Gh) (H : Hp) (G' : Gh) (H' : Hp) : Prop := ∀ a o, H a = some o → G a = none → H' a = some o ∧ G' a = none
theorem Ext.refl : Ext G H G H := fun _ _ e n => ⟨e, n⟩
theorem Ext.trans {G1 G2 G3 : Gh} {H1 H2 H3 : Hp} (x : Ext G1 H1 G2 H2) (y : Ext G2 H2 G3 H3) : Ext G1 H1 G3 H3 := fun a o e n => by
  obtain ⟨e2, n2⟩ := x a o e n
  exact y a o e2 n2
theorem WG.notTup (w : WG K G H) {a : Addr} {xs : List V} (e : H a = some (.tup xs)) : G a = none := by
  cases q : G a with
  | none => rfl
  | some c =>
    have z := w a c q
    cases c <;> (simp only [CellOk] at z; obtain ⟨_, z⟩ := z; simp_all)
theorem WG.notFrz (w : WG K G H) {a : Addr} {o : Obj} {u : HO} (e : H a = some (.frz o u)) (hu : ∀ xs, u ≠ .dK xs) (hv : ∀ xs, u ≠ .dT xs) : G a = none := by
  cases q : G a with
  | none => rfl
  | some c =>
    have z := w a c q
    cases c with
    | fz o2 xs l =>
      have z1 : H a = some (.frz o2 (.dK xs)) := z.1
      rw [e] at z1
      injection z1 with z2
      injection z2 with _ z3
      exact absurd z3 (hu xs)
    | fzt o2 xs l =>
      have z1 : H a = some (.frz o2 (.dT xs)) := z.1
      rw [e] at z1
      injection z1 with z2
      injection z2 with _ z3
      exact absurd z3 (hv xs)
    | _ => simp only [CellOk] at z; obtain ⟨_, z⟩ := z; simp_all
theorem WG.notOwn (w : WG K G H) {a x : Addr} (e : H a = some (.own x)) : G a = none := by
  cases q : G a with
  | none => rfl
  | some c =>
    have z := w a c q
    cases c <;> (simp only [CellOk] at z; obtain ⟨_, z⟩ := z; simp_all)
theorem WG.notXd (w : WG K G H) {a : Addr} {x : List (Str × V)} (e : H a = some (.xd x)) : G a = none := by
  cases q : G a with
  | none => rfl
  | some c =>
    have z := w a c q
    cases c <;> (simp only [CellOk] at z; obtain ⟨_, z⟩ := z; simp_all)
theorem WG.notExt (w : WG K G H) {a : Addr} {C : Addr} {d : Option Addr} (e : H a = some (excO a C d)) : G a = none := by
  unfold excO at e
  cases q : G a with
  | none => rfl
  | some c =>
    have z := w a c q
    cases c <;> (simp only [CellOk] at z; obtain ⟨_, z⟩ := z; simp_all)
theorem sqT_ext {a : Addr} {xs : List V} (h : SqT K H a xs) (w : WG K G H) (x : Ext G H G' H') : SqT K H' a xs := by
  rcases h with h | h
  · rcases h with h | ⟨o, h⟩
    · exact .inl (.inl (x a _ h (w.notTup h)).1)
    · exact .inl (.inr ⟨o, (x a _ h (w.notFrz h (fun _ z => nomatch z) fun _ z => nomatch z)).1⟩)
  · exact .inr h
theorem KtL.ext {a : Addr} {xs : List V} (h : KtL K H a xs) (w : WG K G H) (x : Ext G H G' H') : KtL K H' a xs := by
  rcases h with ⟨o, h, r⟩ | h
  · exact .inl ⟨o, (x a _ h (w.notFrz h (fun _ z => nomatch z) fun _ z => nomatch z)).1, r⟩
  · exact .inr h
theorem RoL.ext {a : Addr} {xs : List V} (h : RoL K H a xs) (w : WG K G H) (x : Ext G H G' H') : RoL K H' a xs := by
  rcases h with ⟨o, h⟩ | h
  · exact .inl ⟨o, (x a _ h (w.notFrz h (fun _ z => nomatch z) fun _ z => nomatch z)).1⟩
  · exact .inr h
mutual
theorem VR.ext (w : WG K G H) (x : Ext G H G' H') : ∀ {v : V} {d : DV}, VR K H v d → VR K H' v d
  | _, _, .non => .non
  | _, _, .bl b => .bl b
  | _, _, .int i => .int i
  | _, _, .str i => .str i
  | _, _, .ty i => .ty i
  | _, _, .ref a => .ref a
  | _, _, .tup h t => .tup (x _ _ h (w.notTup h)).1 (VRs.ext w x t)
  | _, _, .kt h t => .kt (h.ext w x) (VRs.ext w x t)
  | _, _, .ro h t => .ro (h.ext w x) (VRs.ext w x t)
  | _, _, .exc ho h t => .exc (x _ _ ho (w.notExt ho)).1 (x _ _ h (w.notXd h)).1 (VRs.ext w x t)
  | _, _, .exn ho => .exn (x _ _ ho (w.notExt ho)).1
theorem VRs.ext (w : WG K G H) (x : Ext G H G' H') : ∀ {vs : List V} {ds : List DV}, VRs K H vs ds → VRs K H' vs ds
  | _, _, .nil => .nil
  | _, _, .cons r t => .cons (r.ext w x) (VRs.ext w x t)
end
theorem KR.ext {κ : Type} (w : WG K G H) (x : Ext G H G' H') : ∀ {xs : List (κ × V)} {ys : List (κ × DV)}, KR K H xs ys → KR K H' xs ys
  | _, _, .nil => .nil
  | _, _, .cons r t => .cons (r.ext w x) (KR.ext w x t)
theorem FR.ext (w : WG K G H) (x : Ext G H G' H') : ∀ {xs : List (Str × V)} {ys : List (Str × DV)}, FR K H xs ys → FR K H' xs ys
  | _, _, .nil => .nil
  | _, _, .cons r t => .cons (r.ext w x) (FR.ext w x t)
/-- a place that may be written: new, or a cell's -/
def Put (G : Gh) (H : Hp) (a : Addr) : Prop := H a = none ∨ ∃ c, G a = some c
theorem WG.non (w : WG K G H) {a : Addr} (e : H a = none) : G a = none := by
  cases q : G a with
  | none => rfl
  | some c =>
    have z := w a c q
    cases c <;> (simp only [CellOk] at z; obtain ⟨_, z⟩ := z; simp_all)
theorem Put.ext (p : Put G H a) {c : Cell} {o : HO} : Ext G H (gup G a c) (upd H a o) := fun b u e n => by
  have hb : b ≠ a := by
    rintro rfl
    rcases p with p | ⟨c, p⟩
    · rw [e] at p; cases p
    · rw [n] at p; cases p
  exact ⟨by rw [upd_ne hb]; exact e, by rw [gup_ne hb]; exact n⟩
theorem Put.notOwn (w : WG K G H) (p : Put G H a) {b x : Addr} (e : H b = some (.own x)) : b ≠ a := by
  rintro rfl
  rcases p with p | ⟨c, p⟩
  · rw [e] at p; cases p
  · rw [w.notOwn e] at p; cases p
theorem CellOk.move (w : WG K G H) (x : Ext G H G' H') {b : Addr} {c : Cell} (h : CellOk K H b c) (hb : H' b = H b) (ho : ∀ d y, H d = some (.own y) → H' d = H d) : CellOk K H' b c := by
  cases c with
  | lst l => obtain ⟨xs, e, r⟩ := h; exact ⟨xs, hb.trans e, r.ext w x⟩
  | dic l => obtain ⟨xs, e, r⟩ := h; exact ⟨xs, hb.trans e, r.ext w x⟩
  | dt l => obtain ⟨xs, e, r⟩ := h; exact ⟨xs, hb.trans e, r.ext w x⟩
  | ins C fs => obtain ⟨dx, xs, e, o, r⟩ := h; exact ⟨dx, xs, hb.trans e, (ho _ _ o).trans o, r.ext w x⟩
  | fz o xs l => exact ⟨hb.trans h.1, h.2.ext w x⟩
  | fzt o xs l => exact ⟨hb.trans h.1, h.2.ext w x⟩
theorem WG.put (w : WG K G H) (p : Put G H a) {c : Cell} {o : HO} (new : CellOk K (upd H a o) a c) : WG K (gup G a c) (upd H a o) := fun b c' e => by
  by_cases hb : b = a
  · subst hb
    rw [gup_same] at e; cases e; exact new
  · rw [gup_ne hb] at e
    exact (w b c' e).move w (p.ext (c := c)) (upd_ne hb) fun d y q => upd_ne (p.notOwn w q)
theorem Ext.new {p : Addr} (n : H p = none) {o : HO} : Ext G H G (upd H p o) := fun b u e g => by
  have hb : b ≠ p := by rintro rfl; rw [e] at n; cases n
  exact ⟨by rw [upd_ne hb]; exact e, g⟩
theorem WG.new (w : WG K G H) {p : Addr} (n : H p = none) {o : HO} : WG K G (upd H p o) := fun b c' e => by
  have hb : b ≠ p := by rintro rfl; rw [w.non n] at e; cases e
  exact (w b c' e).move w (Ext.new n) (upd_ne hb) fun d y q => upd_ne (by rintro rfl; rw [q] at n; cases n)
theorem WG.newL (w : WG K G H) {p : Addr} (n : H p = none) {xs : List V} {ds : List DV} (r : VRs K H xs ds) : WG K (gup G p (.lst ds)) (upd H p (.lst xs)) :=
  w.put (.inl n) ⟨xs, upd_same, r.ext w (Ext.new n)⟩
theorem VR.newT (w : WG K G H) {p : Addr} (n : H p = none) {xs : List V} {ds : List DV} (r : VRs K H xs ds) : VR K (upd H p (.tup xs)) (.ref p) (.tup ds) :=
  .tup upd_same (r.ext w (Ext.new n))
theorem WG.setL (w : WG K G H) {p : Addr} {l : List DV} (e : G p = some (.lst l)) {xs : List V} {ds : List DV} (r : VRs K H xs ds) : WG K (gup G p (.lst ds)) (upd H p (.lst xs)) :=
  w.put (.inr ⟨_, e⟩) ⟨xs, upd_same, r.ext w (Put.ext (c := .lst ds) (.inr ⟨_, e⟩))⟩
theorem Ext.setC {p : Addr} {c c' : Cell} (e : G p = some c) {o : HO} : Ext G H (gup G p c') (upd H p o) := Put.ext (.inr ⟨_, e⟩)
theorem Ext.newC {p : Addr} {c' : Cell} (e : H p = none) {o : HO} : Ext G H (gup G p c') (upd H p o) := Put.ext (.inl e)
/-- forgetting cells -/
theorem WG.less (w : WG K G H) (h : ∀ a c, G' a = some c → G a = some c) : WG K G' H := fun a c e => w a c (h a c e)

/-- slots: none forgets -/
inductive ER (K : PySem.W.Frag) (H : Hp) : St → List (Option DV) → Prop
  | nil : ER K H [] []
  | skip (o : Option V) {xs : St} {ys : List (Option DV)} : ER K H xs ys → ER K H (o :: xs) (none :: ys)
  | cons {v : V} {d : DV} {xs : St} {ys : List (Option DV)} : VR K H v d → ER K H xs ys → ER K H (some v :: xs) (some d :: ys)
theorem ER.ext (w : WG K G H) (x : Ext G H G' H') : ∀ {xs : St} {ys : List (Option DV)}, ER K H xs ys → ER K H' xs ys
  | _, _, .nil => .nil
  | _, _, .skip o t => .skip o (ER.ext w x t)
  | _, _, .cons r t => .cons (r.ext w x) (ER.ext w x t)
theorem ER.get : ∀ {xs : St} {ys : List (Option DV)} {i : Nat} {d : DV}, ER K H xs ys → ys[i]? = some (some d) → ∃ v, xs[i]? = some (some v) ∧ VR K H v d
  | _, _, _, _, .nil, e => by simp at e
  | _, _, 0, _, .skip o t, e => by simp at e
  | _, _, i + 1, d, .skip o t, e => by
    obtain ⟨v, h1, h2⟩ := t.get (i := i) (d := d) (by simpa using e)
    exact ⟨v, by simpa using h1, h2⟩
  | _, _, 0, _, .cons r t, e => by simp at e; subst e; exact ⟨_, rfl, r⟩
  | _, _, i + 1, d, .cons r t, e => by
    obtain ⟨v, h1, h2⟩ := t.get (i := i) (d := d) (by simpa using e)
    exact ⟨v, by simpa using h1, h2⟩
theorem ER.set (r : VR K H v d) : ∀ {xs : St} {ys : List (Option DV)} (i : Nat), ER K H xs ys → ER K H (xs.set i (some v)) (ys.set i (some d))
  | _, _, _, .nil => .nil
  | _, _, 0, .skip _ t => .cons r t
  | _, _, i + 1, .skip o t => .skip o (ER.set r i t)
  | _, _, 0, .cons _ t => .cons r t
  | _, _, i + 1, .cons q t => .cons q (ER.set r i t)
theorem ER.setNone : ∀ {xs : St} {ys : List (Option DV)} (i : Nat) (o : Option V), ER K H xs ys → ER K H (xs.set i o) (ys.set i none)
  | _, _, _, _, .nil => .nil
  | _, _, 0, _, .skip _ t => .skip _ t
  | _, _, i + 1, o', .skip o t => .skip o (ER.setNone i o' t)
  | _, _, 0, _, .cons _ t => .skip _ t
  | _, _, i + 1, o', .cons q t => .cons q (ER.setNone i o' t)
def wipeD (ys : List (Option DV)) : List Nat → List (Option DV)
  | [] => ys
  | i :: r => (wipeD ys r).set i none
theorem ER.wipe {xs : St} {ys : List (Option DV)} (h : ER K H xs ys) : ∀ vs : List Nat, ER K H (L2.wipe xs vs) (wipeD ys vs)
  | [] => h
  | i :: r => ER.setNone i none (ER.wipe h r)
theorem ER.start : ∀ {vs : List V} {ds : List DV}, VRs K H vs ds → ∀ n : Nat, ER K H (vs.map some ++ List.replicate n none) (ds.map some ++ List.replicate n none)
  | _, _, .nil, 0 => .nil
  | _, _, .nil, n + 1 => .skip none (ER.start .nil n)
  | _, _, .cons r t, n => .cons r (ER.start t n)
end
end DL

namespace DL
open PySem PySem.Spec L2

/-! ### readings at the data level -/
abbrev Dv := List (Option DV)
/-- what is wanted of an exception: its class, its fields -/
abbrev DX := Addr → List (Str × DV) → Gh → Prop
abbrev DE := DX → Dv → Gh → (DV → Gh → Prop) → Prop
abbrev DT := DX → Dv → Gh → (Bool → Gh → Prop) → Prop
abbrev DA := DX → Dv → Gh → (List DV → Gh → Prop) → Prop
structure DEnds where
  nx : Dv → Gh → Prop
  rt : DV → Gh → Prop
  bk : Dv → Gh → Prop := fun _ _ => False
  ct : Dv → Gh → Prop := fun _ _ => False
  ex : Addr → List (Str × DV) → Dv → Gh → Prop := fun _ _ _ _ => False
abbrev DS := DEnds → Dv → Gh → Prop

/-- an exception's dict, its fields; one without fields may have none -/
def XdOk (K : PySem.W.Frag) (H : Hp) (od : Option Addr) (fs : List (Str × DV)) : Prop := match od with
  | some d => ∃ xs, H d = some (.xd xs) ∧ FR K H xs fs
  | none => fs = []
/-- an exception's wish is kept -/
def XLe (K : PySem.W.Frag) (G : Gh) (H : Hp) (Y : DX) (W : Value → Option Addr → Hp → Prop) : Prop :=
  ∀ C fs G' d H', Y C fs G' → XdOk K H' d fs → WG K G' H' → Ext G H G' H' → W (.ref C) d H'
theorem XLe.step {K : PySem.W.Frag} {G G1 : Gh} {H H1 : Hp} {Y : DX} {W : Value → Option Addr → Hp → Prop} (h : XLe K G H Y W) (x : Ext G H G1 H1) : XLe K G1 H1 Y W :=
  fun C fs G' d H' y e w x' => h C fs G' d H' y e w (x.trans x')

def TEl (K : PySem.W.Frag) (W : WX) (w : DE) : TE := fun σ H Q => ∃ (Y : DX) (env : Dv) (G : Gh) (P : DV → Gh → Prop), ER K H σ env ∧ WG K G H ∧ w Y env G P ∧
  (∀ d G' v H', P d G' → WG K G' H' → Ext G H G' H' → VR K H' v d → Q v H') ∧ XLe K G H Y fun c d => W c d σ
def TTl (K : PySem.W.Frag) (W : WX) (w : DT) : TT := fun σ H Q => ∃ (Y : DX) (env : Dv) (G : Gh) (P : Bool → Gh → Prop), ER K H σ env ∧ WG K G H ∧ w Y env G P ∧
  (∀ b G' H', P b G' → WG K G' H' → Ext G H G' H' → Q b H') ∧ XLe K G H Y fun c d => W c d σ
def TAl (K : PySem.W.Frag) (W : WX) (w : DA) : TA := fun σ H Q => ∃ (Y : DX) (env : Dv) (G : Gh) (P : List DV → Gh → Prop), ER K H σ env ∧ WG K G H ∧ w Y env G P ∧
  (∀ d G' v H', P d G' → WG K G' H' → Ext G H G' H' → VRs K H' v d → Q v H') ∧ XLe K G H Y fun c d => W c d σ
structure LeE (K : PySem.W.Frag) (W : WX) (G : Gh) (H : Hp) (De : DEnds) (D : Ends) : Prop where
  nx : ∀ env G' σ H', De.nx env G' → ER K H' σ env → WG K G' H' → Ext G H G' H' → D.nx σ H'
  bk : ∀ env G' σ H', De.bk env G' → ER K H' σ env → WG K G' H' → Ext G H G' H' → D.bk σ H'
  ct : ∀ env G' σ H', De.ct env G' → ER K H' σ env → WG K G' H' → Ext G H G' H' → D.ct σ H'
  rt : ∀ d G' v H', De.rt d G' → VR K H' v d → WG K G' H' → Ext G H G' H' → D.rt v H'
  ex : ∀ C fs env G' σ d H', De.ex C fs env G' → XdOk K H' d fs → ER K H' σ env → WG K G' H' → Ext G H G' H' → W (.ref C) d σ H'
theorem LeE.step {K : PySem.W.Frag} {W : WX} {G G1 : Gh} {H H1 : Hp} {De : DEnds} {D : Ends} (h : LeE K W G H De D) (x : Ext G H G1 H1) : LeE K W G1 H1 De D :=
  ⟨fun env G' σ H' p e w y => h.nx env G' σ H' p e w (x.trans y), fun env G' σ H' p e w y => h.bk env G' σ H' p e w (x.trans y), fun env G' σ H' p e w y => h.ct env G' σ H' p e w (x.trans y),
    fun d G' v H' p r w y => h.rt d G' v H' p r w (x.trans y), fun C fs env G' σ d H' p e r w y => h.ex C fs env G' σ d H' p e r w (x.trans y)⟩
def TSl (K : PySem.W.Frag) (W : WX) (w : DS) : TS := fun D σ H => ∃ (env : Dv) (G : Gh) (De : DEnds), ER K H σ env ∧ WG K G H ∧ w De env G ∧ LeE K W G H De D

/-! ### the judgements -/
structure QE (X : Cx) (W : WX) (e : Expr) (w : DE) : Prop where
  pe : PE X e (TEl X.K W w)
structure QT (X : Cx) (W : WX) (e : Expr) (w : DT) : Prop where
  pt : PT X e (TTl X.K W w)
structure QW (X : Cx) (W : WX) (e : Expr) (w : DT) : Prop where
  pw : PW X e (TTl X.K W w)
structure QA (X : Cx) (W : WX) (es : List Expr) (w : DA) : Prop where
  pa : PA X es (TAl X.K W w)
structure QS (X : Cx) (W : WX) (st : Stmt) (w : DS) : Prop where
  ps : PS X st (TSl X.K W w)
structure QSs (X : Cx) (W : WX) (st : List Stmt) (w : DS) : Prop where
  pss : PSs X st (TSl X.K W w)
section
variable {X : Cx} {W : WX} {e : Expr} {st : Stmt} {sts : List Stmt}
theorem PE.wk {t t' : TE} (h : PE X e t) (i : ∀ σ H Q, t' σ H Q → t σ H Q) : PE X e t' := ⟨fun a b c d q I z => h.run a b c d q I (i _ _ _ z)⟩
theorem PT.wk {t t' : TT} (h : PT X e t) (i : ∀ σ H Q, t' σ H Q → t σ H Q) : PT X e t' := ⟨fun a b c d q I z => h.run a b c d q I (i _ _ _ z)⟩
theorem PW.wk {t t' : TT} (h : PW X e t) (i : ∀ σ H Q, t' σ H Q → t σ H Q) : PW X e t' := ⟨fun u a b c d q I z => h.run u a b c d q I (i _ _ _ z)⟩
theorem PA.wk {es : List Expr} {t t' : TA} (h : PA X es t) (i : ∀ σ H Q, t' σ H Q → t σ H Q) : PA X es t' := ⟨fun u a b c d q I z => h.run u a b c d q I (i _ _ _ z)⟩
theorem PS.wk {t t' : TS} (h : PS X st t) (i : ∀ D σ H, t' D σ H → t D σ H) : PS X st t' := ⟨fun a b c d q I z => h.run a b c d q I (i _ _ _ z)⟩
theorem PSs.wk {t t' : TS} (h : PSs X sts t) (i : ∀ D σ H, t' D σ H → t D σ H) : PSs X sts t' := ⟨fun a b c d q I z => h.run a b c d q I (i _ _ _ z)⟩

/-! ### names and constants -/
def wVar (i : Nat) : DE := fun _ env G Q => match env[i]? with | some (some d) => Q d G | _ => False
def wC (d : DV) : DE := fun _ _ G Q => Q d G
theorem q_var (i : Nat) {x : Str} {pos : Pos} (hN : X.N[i]? = some x := by rfl) (hv : Vis X.env.scope x := by first | exact Or.inl rfl | exact Or.inr (Or.inl rfl) | exact Or.inr (Or.inr rfl)) (hd : (x == ("__debug__" : Str)) = false := by decide)
    (hcd : (x == ("__classdict__" : Str)) = false := by decide) : QE X W (.Name x pos) (wVar i) := by
  refine ⟨PE.wk (pe_var (i := i) hN hv hd hcd) ?_⟩
  rintro σ H Q ⟨Y, env, G, P, er, wg, h, k, kx⟩
  unfold wVar at h
  split at h
  · rename_i d e
    obtain ⟨v, e1, r⟩ := er.get e
    exact ⟨v, e1, k _ _ _ _ h wg Ext.refl r⟩
  · exact h.elim
theorem q_const {v : V} {d : DV} (h : PE X e (tC v)) (r : ∀ H, VR X.K H v d) : QE X W e (wC d) :=
  ⟨PE.wk h fun _ H _ ⟨_, _, _, _, _, wg, h, k, _⟩ => k _ _ _ _ h wg Ext.refl (r H)⟩
theorem q_int {i j pos} : QE X W (.Constant (.int i) j pos) (wC (.int i)) := q_const pe_int fun _ => .int _
theorem q_bl {i j pos} : QE X W (.Constant (.bool i) j pos) (wC (.bl i)) := q_const pe_bl fun _ => .bl _
theorem q_non {j pos} : QE X W (.Constant .none j pos) (wC .non) := q_const pe_non fun _ => .non
theorem q_str {i j pos} : QE X W (.Constant (.str i) j pos) (wC (.str i)) := q_const pe_str fun _ => .str _
/-- a module's constant -/
theorem q_glob {x : Str} {d : DV} {v : V} {u : Value} {pos : Pos} (hm : X.mg x = some u) (r : RelV v u) (rd : ∀ H, VR X.K H v d) (hg : Gl X x := by rfl) (hd : (x == ("__debug__" : Str)) = false := by decide) : QE X W (.Name x pos) (wC d) :=
  q_const (pe_glob hg hm r hd) rd

/-! ### operators -/
abbrev D2 := DV → DV → Gh → (DV → Gh → Prop) → Prop
def lift2 (K : PySem.W.Frag) (r : D2) : R2 := fun x y H Q => ∃ dx dy G P, VR K H x dx ∧ VR K H y dy ∧ WG K G H ∧ r dx dy G P ∧ ∀ d G' v H', P d G' → WG K G' H' → Ext G H G' H' → VR K H' v d → Q v H'
def OpD (X : Cx) (f : Value → Value → Sem Value) (r : D2) : Prop := OpR X f (lift2 X.K r)
def wOp (r : D2) (wa wb : DE) : DE := fun Y env G Q => wa Y env G fun x G1 => wb Y env G1 fun y G2 => r x y G2 Q
variable {a b c : Expr} {wa wb wc : DE} {pos : Pos}
/-- the two parts of an operation -/
theorem two_parts {r : D2} {σ : L2.St} {H : Hp} {Q : VK} (h : TEl X.K W (wOp r wa wb) σ H Q) : tOp (lift2 X.K r) (TEl X.K W wa) (TEl X.K W wb) σ H Q := by
  obtain ⟨Y, env, G, P, er, wg, h, k, kx⟩ := h
  refine ⟨Y, env, G, _, er, wg, h, fun x G1 v H1 h1 w1 x1 r1 => ?_, kx⟩
  refine ⟨Y, env, G1, _, er.ext wg x1, w1, h1, fun y G2 u H2 h2 w2 x2 r2 => ?_, kx.step x1⟩
  exact ⟨x, y, G2, P, r1.ext w1 x2, r2, w2, h2, fun d G' v' H' p w' x' r' => k d G' v' H' p w' ((x1.trans x2).trans x') r'⟩
theorem q_op {op : Operator} {r : D2} (ho : OpD X (binaryOp op) r) (ha : QE X W a wa) (hb : QE X W b wb) : QE X W (.BinOp a op b pos) (wOp r wa wb) :=
  ⟨PE.wk (pe_op ho ha.pe hb.pe) fun _ _ _ h => two_parts h⟩
theorem q_cmp {op : CmpOp} {r : D2} (ho : OpD X (compareOp op) r) (ha : QE X W a wa) (hb : QE X W b wb) (hm : behindInMarks op b = false := by first | exact nomark _ | rfl) : QE X W (.Compare a [op] [b] pos) (wOp r wa wb) :=
  ⟨PE.wk (pe_cmpR ho ha.pe hb.pe hm) fun _ _ _ h => two_parts h⟩
/-- a value as a test -/
def wTst (w : DE) : DT := fun Y env G Q => w Y env G fun d G' => match d with | .bl b => Q b G' | _ => False
theorem tst_parts {t : DE} {σ : L2.St} {H : Hp} {Q : Bool → Hp → Prop} (h : TTl X.K W (wTst t) σ H Q) : TEl X.K W t σ H fun x H1 => ∃ k, x = .bl k ∧ Q k H1 := by
  obtain ⟨Y, env, G, P, er, wg, h, k, kx⟩ := h
  refine ⟨Y, env, G, _, er, wg, h, fun d G' v H' p w' x' r => ?_, kx⟩
  cases d <;> first | exact p.elim | skip
  cases r
  exact ⟨_, rfl, k _ _ _ p w' x'⟩
theorem qt_val (h : QE X W e wa) (he : ∀ whole, isTrue e X.env whole = (do let v ← whole; standAt e.pos; holding [v] (truthy v)) := by intro _; rfl) : QT X W e (wTst wa) :=
  ⟨PT.wk (pt_val h.pe he) fun _ _ _ h => tst_parts h⟩
theorem qt_cmp {op : CmpOp} {r : D2} (ho : OpD X (compareOp op) r) (ha : QE X W a wa) (hb : QE X W b wb) (hm : behindInMarks op b = false := by first | exact nomark _ | rfl) : QT X W (.Compare a [op] [b] pos) (wTst (wOp r wa wb)) :=
  ⟨PT.wk (pt_cmpR ho ha.pe hb.pe hm) fun σ H Q h => by
    obtain ⟨Y, env, G, P, er, wg, h, k, kx⟩ := tst_parts h
    exact two_parts ⟨Y, env, G, P, er, wg, h, k, kx⟩⟩
/-- a < b < c -/
def wChain (r r' : D2) (wa wb wc : DE) : DE := fun Y env G Q => wa Y env G fun x G1 => wb Y env G1 fun y G2 => r x y G2 fun z G3 => match z with
  | .bl true => wc Y env G3 fun u G4 => r' y u G4 Q
  | .bl false => Q (.bl false) G3
  | _ => False
theorem chain_parts {r r' : D2} {σ : L2.St} {H : Hp} {Q : VK} (h : TEl X.K W (wChain r r' wa wb wc) σ H Q) : tChain (lift2 X.K r) (lift2 X.K r') (TEl X.K W wa) (TEl X.K W wb) (TEl X.K W wc) σ H Q := by
  obtain ⟨Y, env, G, P, er, wg, h, k, kx⟩ := h
  refine ⟨Y, env, G, _, er, wg, h, fun x G1 v H1 h1 w1 x1 r1 => ?_, kx⟩
  refine ⟨Y, env, G1, _, er.ext wg x1, w1, h1, fun y G2 u H2 h2 w2 x2 r2 => ?_, kx.step x1⟩
  refine ⟨x, y, G2, _, r1.ext w1 x2, r2, w2, h2, fun z G3 q H3 h3 w3 x3 r3 => ?_⟩
  have e3 := (er.ext wg x1).ext w1 (x2.trans x3)
  have t3 := (x1.trans x2).trans x3
  cases z <;> first | exact h3.elim | skip
  rename_i bb
  cases r3
  cases bb with
  | false => exact ⟨false, rfl, by rw [if_neg Bool.false_ne_true]; exact k _ _ _ _ h3 w3 t3 (.bl false)⟩
  | true =>
    refine ⟨true, rfl, ?_⟩
    rw [if_pos rfl]
    refine ⟨Y, env, G3, _, e3, w3, h3, fun z' G4 q' H4 h4 w4 x4 r4 => ?_, kx.step t3⟩
    exact ⟨y, z', G4, P, r2.ext w2 (x3.trans x4), r4, w4, h4, fun d G' v' H' p w' x' r' => k d G' v' H' p w' ((t3.trans x4).trans x') r'⟩
theorem q_chain {op op' : CmpOp} {r r' : D2} (ho : OpD X (compareOp op) r) (ho' : OpD X (compareOp op') r') (ha : QE X W a wa) (hb : QE X W b wb) (hc : QE X W c wc) (hm : lastMarks [op, op'] [b, c] = false := by rfl) : QE X W (.Compare a [op, op'] [b, c] pos) (wChain r r' wa wb wc) :=
  ⟨PE.wk (pe_chain ho ho' ha.pe hb.pe hc.pe hm) fun _ _ _ h => chain_parts h⟩
theorem qt_chain {op op' : CmpOp} {r r' : D2} (ho : OpD X (compareOp op) r) (ho' : OpD X (compareOp op') r') (ha : QE X W a wa) (hb : QE X W b wb) (hc : QE X W c wc) (hm : lastMarks [op, op'] [b, c] = false := by rfl) : QT X W (.Compare a [op, op'] [b, c] pos) (wTst (wChain r r' wa wb wc)) :=
  ⟨PT.wk (pt_chain ho ho' ha.pe hb.pe hc.pe hm) fun σ H Q h => by
    obtain ⟨Y, env, G, P, er, wg, h, k, kx⟩ := tst_parts h
    exact chain_parts ⟨Y, env, G, P, er, wg, h, k, kx⟩⟩

/-! ### and, or, not -/
def wAndT (t u : DT) : DT := fun Y env G Q => t Y env G fun c G1 => if c = true then u Y env G1 Q else Q false G1
def wOrT (t u : DT) : DT := fun Y env G Q => t Y env G fun c G1 => if c = true then Q true G1 else u Y env G1 Q
def wNotT (t : DT) : DT := fun Y env G Q => t Y env G fun c G1 => Q (!c) G1
variable {ta tb : DT} {rest : List Expr}
theorem qw_and1 (ha : QT X W a ta) : QW X W (.BoolOp .And [a] pos) ta := ⟨pw_and1 ha.pt⟩
theorem qw_or1 (ha : QT X W a ta) : QW X W (.BoolOp .Or [a] pos) ta := ⟨pw_or1 ha.pt⟩
theorem qw_and (ha : QT X W a ta) (hb : QW X W (.BoolOp .And (b :: rest) pos) tb) : QW X W (.BoolOp .And (a :: b :: rest) pos) (wAndT ta tb) :=
  ⟨PW.wk (pw_and ha.pt hb.pw) fun σ H Q ⟨Y, env, G, P, er, wg, h, k, kx⟩ => ⟨Y, env, G, _, er, wg, h, fun c G1 H1 h1 w1 x1 => by
    cases c with
    | true => simp only [if_true] at h1 ⊢; exact ⟨Y, env, G1, P, er.ext wg x1, w1, h1, fun b G' H' p w' x' => k b G' H' p w' (x1.trans x'), kx.step x1⟩
    | false => simp only [Bool.false_eq_true, if_false] at h1 ⊢; exact k _ _ _ h1 w1 x1, kx⟩⟩
theorem qw_or (ha : QT X W a ta) (hb : QW X W (.BoolOp .Or (b :: rest) pos) tb) : QW X W (.BoolOp .Or (a :: b :: rest) pos) (wOrT ta tb) :=
  ⟨PW.wk (pw_or ha.pt hb.pw) fun σ H Q ⟨Y, env, G, P, er, wg, h, k, kx⟩ => ⟨Y, env, G, _, er, wg, h, fun c G1 H1 h1 w1 x1 => by
    cases c with
    | false => simp only [Bool.false_eq_true, if_false] at h1 ⊢; exact ⟨Y, env, G1, P, er.ext wg x1, w1, h1, fun b G' H' p w' x' => k b G' H' p w' (x1.trans x'), kx.step x1⟩
    | true => simp only [if_true] at h1 ⊢; exact k _ _ _ h1 w1 x1, kx⟩⟩
theorem qt_w (h : QW X W e ta) : QT X W e ta := ⟨h.pw.pt⟩
theorem qt_not (ha : QT X W a ta) : QT X W (.UnaryOp .Not a pos) (wNotT ta) :=
  ⟨PT.wk (pt_not ha.pt) fun σ H Q ⟨Y, env, G, P, er, wg, h, k, kx⟩ => ⟨Y, env, G, _, er, wg, h, fun c G1 H1 h1 w1 x1 => k _ _ _ h1 w1 x1, kx⟩⟩
def wAnd (wa wb : DE) : DE := fun Y env G Q => wa Y env G fun x G1 => match x with | .bl true => wb Y env G1 Q | .bl false => Q (.bl false) G1 | _ => False
def wOr (wa wb : DE) : DE := fun Y env G Q => wa Y env G fun x G1 => match x with | .bl false => wb Y env G1 Q | .bl true => Q (.bl true) G1 | _ => False
def wNot (wa : DE) : DE := fun Y env G Q => wa Y env G fun x G1 => match x with | .bl b => Q (.bl (!b)) G1 | _ => False
theorem q_one {op} (h : QE X W a wa) : QE X W (.BoolOp op [a] pos) wa := ⟨pe_one h.pe⟩
theorem q_and (ha : QE X W a wa) (hb : QE X W (.BoolOp .And (b :: rest) pos) wb) : QE X W (.BoolOp .And (a :: b :: rest) pos) (wAnd wa wb) :=
  ⟨PE.wk (pe_and ha.pe hb.pe) fun σ H Q ⟨Y, env, G, P, er, wg, h, k, kx⟩ => ⟨Y, env, G, _, er, wg, h, fun d G1 v H1 h1 w1 x1 r => by
    cases d <;> first | exact h1.elim | skip
    rename_i c
    cases r
    refine ⟨c, rfl, ?_⟩
    cases c with
    | true => rw [if_pos rfl]; exact ⟨Y, env, G1, P, er.ext wg x1, w1, h1, fun d G' v' H' p w' x' r => k d G' v' H' p w' (x1.trans x') r, kx.step x1⟩
    | false => rw [if_neg Bool.false_ne_true]; exact k _ _ _ _ h1 w1 x1 (.bl false), kx⟩⟩
theorem q_or (ha : QE X W a wa) (hb : QE X W (.BoolOp .Or (b :: rest) pos) wb) : QE X W (.BoolOp .Or (a :: b :: rest) pos) (wOr wa wb) :=
  ⟨PE.wk (pe_or ha.pe hb.pe) fun σ H Q ⟨Y, env, G, P, er, wg, h, k, kx⟩ => ⟨Y, env, G, _, er, wg, h, fun d G1 v H1 h1 w1 x1 r => by
    cases d <;> first | exact h1.elim | skip
    rename_i c
    cases r
    refine ⟨c, rfl, ?_⟩
    cases c with
    | false => rw [if_neg Bool.false_ne_true]; exact ⟨Y, env, G1, P, er.ext wg x1, w1, h1, fun d G' v' H' p w' x' r => k d G' v' H' p w' (x1.trans x') r, kx.step x1⟩
    | true => rw [if_pos rfl]; exact k _ _ _ _ h1 w1 x1 (.bl true), kx⟩⟩
theorem q_not (ha : QE X W a wa) : QE X W (.UnaryOp .Not a pos) (wNot wa) :=
  ⟨PE.wk (pe_not ha.pe) fun σ H Q ⟨Y, env, G, P, er, wg, h, k, kx⟩ => ⟨Y, env, G, _, er, wg, h, fun d G1 v H1 h1 w1 x1 r => by
    cases d <;> first | exact h1.elim | skip
    rename_i c
    cases r
    exact ⟨c, rfl, k _ _ _ _ h1 w1 x1 (.bl _)⟩, kx⟩⟩
def wIf (t : DT) (wa wb : DE) : DE := fun Y env G Q => t Y env G fun c G1 => if c = true then wa Y env G1 Q else wb Y env G1 Q
theorem q_ifExp (hc : QT X W c ta) (ha : QE X W a wa) (hb : QE X W b wb) : QE X W (.IfExp c a b pos) (wIf ta wa wb) :=
  ⟨PE.wk (pe_ifExp hc.pt ha.pe hb.pe) fun σ H Q ⟨Y, env, G, P, er, wg, h, k, kx⟩ => ⟨Y, env, G, _, er, wg, h, fun c G1 H1 h1 w1 x1 => by
    cases c with
    | true => simp only [if_true] at h1 ⊢; exact ⟨Y, env, G1, P, er.ext wg x1, w1, h1, fun d G' v' H' p w' x' r => k d G' v' H' p w' (x1.trans x') r, kx.step x1⟩
    | false => simp only [Bool.false_eq_true, if_false] at h1 ⊢; exact ⟨Y, env, G1, P, er.ext wg x1, w1, h1, fun d G' v' H' p w' x' r => k d G' v' H' p w' (x1.trans x') r, kx.step x1⟩, kx⟩⟩

/-! ### argument lists, displays, calls of what is known -/
def wNil : DA := fun _ _ G Q => Q [] G
def wCons (wa : DE) (wr : DA) : DA := fun Y env G Q => wa Y env G fun d G1 => wr Y env G1 fun ds G2 => Q (d :: ds) G2
variable {es : List Expr} {wr : DA}
theorem qa_nil : QA X W [] wNil := ⟨PA.wk pa_nil fun σ H Q ⟨Y, env, G, P, er, wg, h, k, kx⟩ => k _ _ _ _ h wg Ext.refl .nil⟩
theorem qa_cons (ha : QE X W e wa) (hr : QA X W es wr) (hs : starEach (e :: es) X.env = (false, eval e X.env) :: starEach es X.env := by rfl) : QA X W (e :: es) (wCons wa wr) :=
  ⟨PA.wk (pa_cons ha.pe hr.pa hs) fun σ H Q ⟨Y, env, G, P, er, wg, h, k, kx⟩ => ⟨Y, env, G, _, er, wg, h, fun d G1 v H1 h1 w1 x1 r1 =>
    ⟨Y, env, G1, _, er.ext wg x1, w1, h1, fun ds G2 vs H2 h2 w2 x2 r2 => k _ _ _ _ h2 w2 (x1.trans x2) (.cons (r1.ext w1 x2) r2), kx.step x1⟩, kx⟩⟩
def wTup (wr : DA) : DE := fun Y env G Q => wr Y env G fun ds G1 => ds.length ≤ sizeLine ∧ Q (.tup ds) G1
def wLst (wr : DA) : DE := fun Y env G Q => wr Y env G fun ds G1 => ds.length ≤ sizeLine ∧ ∀ p, G1 p = none → Q (.ref p) (gup G1 p (.lst ds))
theorem q_tup {x1} (h : QA X W es wr) : QE X W (.Tuple es x1 pos) (wTup wr) :=
  ⟨PE.wk (pe_tup h.pa) fun σ H Q ⟨Y, env, G, P, er, wg, h, k, kx⟩ => ⟨Y, env, G, _, er, wg, h, fun ds G1 vs H1 h1 w1 x1 r1 =>
    ⟨by rw [r1.len]; exact h1.1, fun p np => k _ _ _ _ h1.2 (w1.new np) (x1.trans (Ext.new np)) (VR.newT w1 np r1)⟩, kx⟩⟩
theorem q_lst (h : QA X W es wr) : QE X W (.List es pos) (wLst wr) :=
  ⟨PE.wk (pe_lst h.pa) fun σ H Q ⟨Y, env, G, P, er, wg, h, k, kx⟩ => ⟨Y, env, G, _, er, wg, h, fun ds G1 vs H1 h1 w1 x1 r1 =>
    ⟨by rw [r1.len]; exact h1.1, fun p np => k _ _ _ _ (h1.2 p (w1.non np)) (w1.newL np r1) (x1.trans (Ext.newC np)) (.ref p)⟩, kx⟩⟩
abbrev DC := List DV → Gh → (DV → Gh → Prop) → Prop
def liftC (K : PySem.W.Frag) (r : DC) : List V → Hp → VK → Prop := fun xs H Q => ∃ ds G P, VRs K H xs ds ∧ WG K G H ∧ r ds G P ∧ ∀ d G' v H', P d G' → WG K G' H' → Ext G H G' H' → VR K H' v d → Q v H'
def CallD (X : Cx) (f : Value) (r : DC) : Prop := CallR X f (liftC X.K r)
def wCB (r : DC) (wr : DA) : DE := fun Y env G Q => wr Y env G fun ds G1 => r ds G1 Q
theorem cb_parts {r : DC} {σ : L2.St} {H : Hp} {Q : VK} (h : TEl X.K W (wCB r wr) σ H Q) : tCB (liftC X.K r) (TAl X.K W wr) σ H Q := by
  obtain ⟨Y, env, G, P, er, wg, h, k, kx⟩ := h
  exact ⟨Y, env, G, _, er, wg, h, fun ds G1 vs H1 h1 w1 x1 r1 => ⟨ds, G1, P, r1, w1, h1, fun d G' v H' p w' x' r' => k d G' v H' p w' (x1.trans x') r'⟩, kx⟩
theorem q_callB {id : String} {x : Str} {p : Pos} {r : DC} (hc : CallD X (.builtin id) r) (hm : X.mg x = none) (ha : QA X W (e :: es) wr) (hv : bootBuiltins x = some (.builtin id) := by decide +kernel) (hg : Gl X x := by rfl) (hn : x ≠ "__name__" := by decide) (hdb : (x == ("__debug__" : Str)) = false := by decide)
    (he : starEach (e :: es) X.env = (false, eval e X.env) :: starEach es X.env := by rfl) (hpl : (backTo pos (starEach es X.env)).any (·.1) = false := by rfl) : QE X W (.Call (.Name x p) (e :: es) [] pos) (wCB r wr) :=
  ⟨PE.wk (pe_callB hc hg hm hv ha.pa hn hdb he hpl) fun _ _ _ h => cb_parts h⟩
theorem q_callTy {T : String} {x : Str} {p : Pos} {r : DC} (hc : CallD X (.type T) r) (hm : X.mg x = none) (ha : QA X W (e :: es) wr) (hv : bootBuiltins x = some (.type T) := by decide +kernel) (hg : Gl X x := by rfl) (hn : x ≠ "__name__" := by decide) (hdb : (x == ("__debug__" : Str)) = false := by decide)
    (he : starEach (e :: es) X.env = (false, eval e X.env) :: starEach es X.env := by rfl) (hpl : (backTo pos (starEach es X.env)).any (·.1) = false := by rfl) : QE X W (.Call (.Name x p) (e :: es) [] pos) (wCB r wr) :=
  ⟨PE.wk (pe_callTy hc hg hm hv ha.pa hn hdb he hpl) fun _ _ _ h => cb_parts h⟩

/-! ### small statements -/
variable {w u : DS}
def wNext : DS := fun D env G => D.nx env G
def wSeq (t u : DS) : DS := fun D env G => t { D with nx := u D } env G
theorem seq_parts {D : Ends} {σ : L2.St} {H : Hp} {t u : DS} (h : TSl X.K W (wSeq t u) D σ H) : tSeq (TSl X.K W t) (TSl X.K W u) D σ H := by
  obtain ⟨env, G, De, er, wg, h, le⟩ := h
  exact ⟨env, G, _, er, wg, h, fun env' G' σ' H' p e' w' x' => ⟨env', G', De, e', w', p, le.step x'⟩, le.bk, le.ct, le.rt, le.ex⟩
theorem qss_nil : QSs X W [] wNext := ⟨PSs.wk pss_nil fun D σ H ⟨env, G, De, er, wg, h, le⟩ => le.nx _ _ _ _ h er wg Ext.refl⟩
theorem qss_cons (h1 : QS X W st w) (h2 : QSs X W sts u) : QSs X W (st :: sts) (wSeq w u) := ⟨PSs.wk (pss_cons h1.ps h2.pss) fun _ _ _ h => seq_parts h⟩
theorem qss_one (h1 : QS X W st w) : QSs X W [st] w := ⟨pss_one h1.ps⟩
theorem qs_pass : QS X W (.Pass pos) wNext := ⟨PS.wk ps_pass fun D σ H ⟨env, G, De, er, wg, h, le⟩ => le.nx _ _ _ _ h er wg Ext.refl⟩
def wBreak : DS := fun D env G => D.bk env G
def wCont : DS := fun D env G => D.ct env G
theorem qs_break : QS X W (.Break pos) wBreak := ⟨PS.wk ps_break fun D σ H ⟨env, G, De, er, wg, h, le⟩ => le.bk _ _ _ _ h er wg Ext.refl⟩
theorem qs_continue : QS X W (.Continue pos) wCont := ⟨PS.wk ps_continue fun D σ H ⟨env, G, De, er, wg, h, le⟩ => le.ct _ _ _ _ h er wg Ext.refl⟩
/-- an expression's exceptions, as the statement wants them -/
theorem LeE.xle {D : Ends} {De : DEnds} {G : Gh} {H : Hp} {σ : L2.St} {env : Dv} (le : LeE X.K W G H De D) (wg : WG X.K G H) (er : ER X.K H σ env) : XLe X.K G H (fun C fs G' => De.ex C fs env G') fun c d => W c d σ :=
  fun C fs G' d H' y e w' x' => le.ex C fs env G' σ d H' y e (er.ext wg x') w' x'
def wExpr (we : DE) : DS := fun D env G => we (fun C fs G' => D.ex C fs env G') env G fun _ G1 => D.nx env G1
def wRet (we : DE) : DS := fun D env G => we (fun C fs G' => D.ex C fs env G') env G D.rt
theorem qs_expr (he : QE X W e wa) (hs : swapsWith e none pos.line X.env = pure false := by rfl) : QS X W (.Expr e pos) (wExpr wa) :=
  ⟨PS.wk (ps_expr he.pe hs) fun D σ H ⟨env, G, De, er, wg, h, le⟩ => ⟨_, env, G, _, er, wg, h, fun d G' v H' p w' x' r => le.nx _ _ _ _ p (er.ext wg x') w' x', le.xle wg er⟩⟩
theorem qs_ret (he : QE X W e wa) : QS X W (.Return (some e) pos) (wRet wa) :=
  ⟨PS.wk (ps_ret he.pe) fun D σ H ⟨env, G, De, er, wg, h, le⟩ => ⟨_, env, G, _, er, wg, h, fun d G' v H' p w' x' r => le.rt _ _ _ _ p r w' x', le.xle wg er⟩⟩
def wRetN : DS := fun D _ G => D.rt .non G
theorem qs_retN : QS X W (.Return none pos) wRetN := ⟨PS.wk ps_retN fun D σ H ⟨env, G, De, er, wg, h, le⟩ => le.rt _ _ _ _ h .non wg Ext.refl⟩
def wIfS (c : DT) (t u : DS) : DS := fun D env G => c (fun C fs G' => D.ex C fs env G') env G fun b G1 => if b = true then t D env G1 else u D env G1
theorem qs_if {as bs : List Stmt} (hc : QT X W c ta) (ha : QSs X W as w) (hb : QSs X W bs u) : QS X W (.If c as bs pos) (wIfS ta w u) :=
  ⟨PS.wk (ps_if hc.pt ha.pss hb.pss) fun D σ H ⟨env, G, De, er, wg, h, le⟩ => ⟨_, env, G, _, er, wg, h, fun b G' H' p w' x' => by
    cases b with
    | true => simp only [if_true] at p ⊢; exact ⟨env, G', De, er.ext wg x', w', p, le.step x'⟩
    | false => simp only [Bool.false_eq_true, if_false] at p ⊢; exact ⟨env, G', De, er.ext wg x', w', p, le.step x'⟩, le.xle wg er⟩⟩
def wSet (i : Nat) (we : DE) : DS := fun D env G => we (fun C fs G' => D.ex C fs env G') env G fun d G1 => D.nx (env.set i (some d)) G1
theorem qs_set (i : Nat) {x : Str} {pos' : Pos} (hN : X.N.Nodup) (he : QE X W e wa) (hi : X.N[i]? = some x := by rfl) (hx : Loc X.env.scope x := by first | exact Or.inl rfl | exact Or.inr rfl) (hs : swapsWith e (some (.Name x pos')) pos.line X.env = pure false := by rfl)
    (hf : X.fn x = true ∨ X.env.scope.names.lookup x = some .local := by first | exact .inl rfl | exact .inr rfl) : QS X W (.Assign [.Name x pos'] e pos) (wSet i wa) :=
  ⟨PS.wk (ps_set (i := i) hN hi hx he.pe hs hf) fun D σ H ⟨env, G, De, er, wg, h, le⟩ => ⟨_, env, G, _, er, wg, h, fun d G' v H' p w' x' r => le.nx _ _ _ _ p ((er.ext wg x').set r i) w' x', le.xle wg er⟩⟩
end
end DL

namespace DL
open PySem PySem.Spec L2

/-! ### targets -/
abbrev DG := DV → Dv → Gh → (Dv → Gh → Prop) → Prop
abbrev DGs := List DV → Dv → Gh → (Dv → Gh → Prop) → Prop
def TGl (K : PySem.W.Frag) (g : DG) : TG := fun v σ H Q => ∃ d env G P, VR K H v d ∧ ER K H σ env ∧ WG K G H ∧ g d env G P ∧ ∀ env' G' σ' H', P env' G' → ER K H' σ' env' → WG K G' H' → Ext G H G' H' → Q σ' H'
def TGsl (K : PySem.W.Frag) (g : DGs) : TGs := fun v σ H Q => ∃ d env G P, VRs K H v d ∧ ER K H σ env ∧ WG K G H ∧ g d env G P ∧ ∀ env' G' σ' H', P env' G' → ER K H' σ' env' → WG K G' H' → Ext G H G' H' → Q σ' H'
structure QG (X : Cx) (tg : Expr) (t : TG) (g : DG) : Prop where
  pg : PG X tg t
  sim : ∀ v σ H Q, TGl X.K g v σ H Q → t v σ H Q
structure QGs (X : Cx) (tg : List Expr) (t : TGs) (g : DGs) : Prop where
  pg : PGs X tg t
  sim : ∀ v σ H Q, TGsl X.K g v σ H Q → t v σ H Q
/-- nothing but these slots is changed -/
def Keeps (vs : List Nat) (t : TG) : Prop := ∀ v σ H Q, t v σ H Q → t v σ H fun σ' H' => Q σ' H' ∧ wipe σ' vs = wipe σ vs
def KeepsS (vs : List Nat) (t : TGs) : Prop := ∀ v σ H Q, t v σ H Q → t v σ H fun σ' H' => Q σ' H' ∧ wipe σ' vs = wipe σ vs
def wgName (i : Nat) : DG := fun d env G Q => Q (env.set i (some d)) G
def wgNil : DGs := fun ds env G Q => match ds with | [] => Q env G | _ => False
def wgCons (g : DG) (gs : DGs) : DGs := fun ds env G Q => match ds with | d :: r => g d env G fun env1 G1 => gs r env1 G1 Q | _ => False
def wgTup (gs : DGs) : DG := fun d env G Q => match d with | .tup ds => gs ds env G Q | _ => False
theorem set_wipe {σ : L2.St} {i : Nat} {o : Option V} : ∀ {vs : List Nat}, i ∈ vs → wipe (σ.set i o) vs = wipe σ vs
  | [], h => by simp at h
  | v :: vs, h => by
    show (wipe (σ.set i o) vs).set v none = (wipe σ vs).set v none
    by_cases hv : i ∈ vs
    · rw [set_wipe hv]
    · have e : i = v := by simpa [hv] using h
      subst e
      have step : ∀ ws : List Nat, i ∉ ws → wipe (σ.set i o) ws = (wipe σ ws).set i o := by
        intro ws
        induction ws with
        | nil => intro _; rfl
        | cons w ws ih =>
          intro hn
          have hw : i ≠ w := fun q => hn (by simp [q])
          show (wipe (σ.set i o) ws).set w none = ((wipe σ ws).set w none).set i o
          rw [ih fun q => hn (List.mem_cons_of_mem _ q), List.set_comm _ _ hw]
      rw [step vs hv, List.set_set]
theorem wipe_get {σ : L2.St} {j : Nat} : ∀ vs : List Nat, (wipe σ vs)[j]? = if j ∈ vs then (if j < σ.length then some none else none) else σ[j]?
  | [] => by simp [wipe]
  | v :: vs => by
    have ih := wipe_get (σ := σ) (j := j) vs
    have hl := wipe_length σ vs
    show ((wipe σ vs).set v none)[j]? = _
    by_cases hj : v = j
    · subst hj
      by_cases h : v < σ.length
      · rw [List.getElem?_set_self (by omega)]
        simp [h]
      · rw [List.getElem?_eq_none (by simp; omega)]
        simp [h]
    · rw [List.getElem?_set_ne hj, ih]
      have : j ≠ v := fun q => hj q.symm
      simp [this]
theorem wipe_wipe {σ : L2.St} (vs : List Nat) : wipe (wipe σ vs) vs = wipe σ vs := by
  apply List.ext_getElem?
  intro j
  rw [wipe_get, wipe_get, wipe_length]
  split <;> simp_all
section
variable {X : Cx} {W : WX} {e : Expr} {st : Stmt} {sts : List Stmt} {es : List Expr} {pos : Pos} {wa wb : DE} {w u : DS}
theorem qg_name (i : Nat) {x : Str} (hN : X.N.Nodup) (hi : X.N[i]? = some x := by rfl) (hx : Loc X.env.scope x := by first | exact Or.inl rfl | exact Or.inr rfl) (hf : X.fn x = true ∨ X.env.scope.names.lookup x = some .local := by first | exact .inl rfl | exact .inr rfl) :
    QG X (.Name x pos) (gName i) (wgName i) :=
  ⟨pg_name hN hi hx hf, fun v σ H Q ⟨d, env, G, P, r, er, wg, h, k⟩ => k _ _ _ _ h (er.set r i) wg Ext.refl⟩
theorem keeps_name {vs : List Nat} {i : Nat} (h : i ∈ vs) : Keeps vs (gName i) := fun v σ H Q q => ⟨q, set_wipe h⟩
theorem qgs_nil : QGs X [] gNil wgNil := ⟨pgs_nil, fun v σ H Q ⟨d, env, G, P, r, er, wg, h, k⟩ => by
  cases d with
  | nil => cases r; exact ⟨rfl, k _ _ _ _ h er wg Ext.refl⟩
  | cons => exact h.elim⟩
theorem qgs_cons {tg : Expr} {tgs : List Expr} {t : TG} {ts : TGs} {g : DG} {gs : DGs} (h1 : QG X tg t g) (h2 : QGs X tgs ts gs) (hs : (assignEach (tg :: tgs) X.env).map (·.2) = assign tg X.env :: (assignEach tgs X.env).map (·.2) := by rfl) : QGs X (tg :: tgs) (gCons t ts) (wgCons g gs) :=
  ⟨pgs_cons h1.pg h2.pg hs, fun v σ H Q ⟨d, env, G, P, r, er, wg, h, k⟩ => by
    cases d with
    | nil => exact h.elim
    | cons d ds =>
      cases r with
      | cons r1 r2 =>
        exact ⟨_, _, rfl, h1.sim _ _ _ _ ⟨d, env, G, _, r1, er, wg, h, fun env' G' σ' H' p e' w' x' => h2.sim _ _ _ _ ⟨ds, env', G', P, r2.ext wg x', e', w', p, fun a b c q p2 e2 w2 x2 => k a b c q p2 e2 w2 (x'.trans x2)⟩⟩⟩⟩
theorem keeps_nil {vs : List Nat} : KeepsS vs gNil := fun v σ H Q ⟨h, q⟩ => ⟨h, q, rfl⟩
/-- what a target may be asked twice -/
def MonoG (t : TG) : Prop := ∀ v σ H Q Q', t v σ H Q → (∀ σ' H', Q σ' H' → Q' σ' H') → t v σ H Q'
def MonoGs (t : TGs) : Prop := ∀ v σ H Q Q', t v σ H Q → (∀ σ' H', Q σ' H' → Q' σ' H') → t v σ H Q'
theorem mono_name {i : Nat} : MonoG (gName i) := fun v σ H Q Q' h k => k _ _ h
theorem mono_nil : MonoGs gNil := fun v σ H Q Q' ⟨h, q⟩ k => ⟨h, k _ _ q⟩
theorem mono_cons {t : TG} {ts : TGs} (h1 : MonoG t) (h2 : MonoGs ts) : MonoGs (gCons t ts) := fun v σ H Q Q' ⟨a, r, e, h⟩ k => ⟨a, r, e, h1 _ _ _ _ _ h fun _ _ q => h2 _ _ _ _ _ q k⟩
theorem mono_tup {K : PySem.W.Frag} {n : Nat} {ts : TGs} (h2 : MonoGs ts) : MonoG (gTup K n ts) := fun v σ H Q Q' ⟨a, xs, e, s, l, h⟩ k => ⟨a, xs, e, s, l, h2 _ _ _ _ _ h k⟩
theorem keeps_cons {vs : List Nat} {t : TG} {ts : TGs} (m1 : MonoG t) (m2 : MonoGs ts) (h1 : Keeps vs t) (h2 : KeepsS vs ts) : KeepsS vs (gCons t ts) := fun v σ H Q ⟨a, r, e, h⟩ =>
  ⟨a, r, e, m1 _ _ _ _ _ (h1 _ _ _ _ h) fun σ' H' ⟨q, e1⟩ => m2 _ _ _ _ _ (h2 _ _ _ _ q) fun σ2 H2 ⟨q2, e2⟩ => ⟨q2, e2.trans e1⟩⟩
theorem keeps_tup {vs : List Nat} {K : PySem.W.Frag} {n : Nat} {ts : TGs} (h2 : KeepsS vs ts) : Keeps vs (gTup K n ts) := fun v σ H Q ⟨a, xs, e, s, l, h⟩ => ⟨a, xs, e, s, l, h2 _ _ _ _ h⟩
theorem qg_tup {tgs : List Expr} {k : Nat} {ts : TGs} {gs : DGs} {n : Nat} (hc : X.calm = true) (h : QGs X tgs ts gs) (hl : ∀ ds env G P, gs ds env G P → ds.length = n) (he : PG X (.Tuple tgs k pos) (gTup X.K n ts)) : QG X (.Tuple tgs k pos) (gTup X.K n ts) (wgTup gs) :=
  ⟨he, fun v σ H Q ⟨d, env, G, P, r, er, wg, hh, kk⟩ => by
    cases d <;> first | exact hh.elim | skip
    cases r with
    | tup sq rs => exact ⟨_, _, rfl, SqT.of sq, by rw [rs.len]; exact hl _ _ _ _ hh, h.sim _ _ _ _ ⟨_, env, G, P, rs, er, wg, hh, kk⟩⟩⟩

/-! ### plain stores -/
def wAsg (we : DE) (g : DG) : DS := fun D env G => we (fun C fs G' => D.ex C fs env G') env G fun d G1 => g d env G1 D.nx
theorem qs_asg {tg : Expr} {t : TG} {g : DG} (he : QE X W e wa) (hg : QG X tg t g) (hs : swapsWithSole [tg] e pos.line X.env = pure false := by rfl) (hw : swappedStores [tg] e X.env = pure none := by rfl) (h1 : (assignEach [tg] X.env).map (·.2) = [assign tg X.env] := by rfl) : QS X W (.Assign [tg] e pos) (wAsg wa g) :=
  ⟨PS.wk (ps_asg he.pe hg.pg hs hw h1) fun D σ H ⟨env, G, De, er, wg, h, le⟩ => ⟨_, env, G, _, er, wg, h, fun d G' v H' p w' x' r =>
    hg.sim _ _ _ _ ⟨d, env, G', De.nx, r, er.ext wg x', w', p, fun env2 G2 σ2 H2 p2 e2 w2 x2 => le.nx _ _ _ _ p2 e2 w2 (x'.trans x2)⟩, le.xle wg er⟩⟩
/-- o[i] = v -/
abbrev D3 := DV → DV → DV → Gh → (Gh → Prop) → Prop
def lift3 (K : PySem.W.Frag) (r : D3) : TSet := fun o i v H Q => ∃ dv dx dy G P, VR K H o dv ∧ VR K H i dx ∧ VR K H v dy ∧ WG K G H ∧ r dv dx dy G P ∧ ∀ G' H', P G' → WG K G' H' → Ext G H G' H' → Q H'
def SetD (X : Cx) (r : D3) : Prop := PSet X (lift3 X.K r)
def wgSub (wo wi : DE) (r : D3) : DG := fun d env G Q => wo (fun _ _ _ => False) env G fun o G1 => wi (fun _ _ _ => False) env G1 fun i G2 => r o i d G2 fun G3 => Q env G3
abbrev W0 : WX := fun _ _ _ _ => False
theorem xle0 {K : PySem.W.Frag} {G : Gh} {H : Hp} {W : Value → Option Addr → Hp → Prop} : XLe K G H (fun _ _ _ => False) W := fun _ _ _ _ _ h => h.elim
theorem qg_sub {o i : Expr} {wo wi : DE} {r : D3} (ho : QE X W o wo) (hi : QE X W i wi) (hs : SetD X r) (hp : PG X (.Subscript o i pos) (gSub (TEl X.K W wo) (TEl X.K W wi) (lift3 X.K r))) : QG X (.Subscript o i pos) (gSub (TEl X.K W wo) (TEl X.K W wi) (lift3 X.K r)) (wgSub wo wi r) :=
  ⟨hp, fun v σ H Q ⟨d, env, G, P, rv, er, wg, h, k⟩ => ⟨_, env, G, _, er, wg, h, fun x G1 vx H1 h1 w1 x1 r1 => ⟨_, env, G1, _, er.ext wg x1, w1, h1, fun y G2 vy H2 h2 w2 x2 r2 =>
    ⟨x, y, d, G2, _, r1.ext w1 x2, r2, rv.ext wg (x1.trans x2), w2, h2, fun G3 H3 p3 w3 x3 => k _ _ _ _ p3 (er.ext wg ((x1.trans x2).trans x3)) w3 ((x1.trans x2).trans x3)⟩, xle0⟩, xle0⟩⟩

/-! ### what is walked -/
abbrev DI := DX → Dv → Gh → (List DV → (Gh → Prop) → Gh → Prop) → Prop
structure ItD (K : PySem.W.Frag) (J : It) (items : List DV) (stay : Gh → Prop) (G0 : Gh) (H0 : Hp) : Prop where
  go : ∀ i H G d, WG K G H → Ext G0 H0 G H → stay G → items[i]? = some d → J.go i H ∧ ∀ x H', J.yld i H x H' → WG K G H' ∧ Ext G H G H' ∧ VR K H' x d
  stop : ∀ i H G, WG K G H → Ext G0 H0 G H → stay G → items.length = i → J.stop i H
def TIl (K : PySem.W.Frag) (W : WX) (wi : DI) : TI := fun σ H R => ∃ (Y : DX) (env : Dv) (G : Gh) (P : List DV → (Gh → Prop) → Gh → Prop), ER K H σ env ∧ WG K G H ∧ wi Y env G P ∧
  (∀ items stay G1 H1 J, P items stay G1 → WG K G1 H1 → Ext G H G1 H1 → ItD K J items stay G1 H1 → R J H1) ∧ XLe K G H Y fun c d => W c d σ
structure QI (X : Cx) (W : WX) (tg iter : Expr) (wi : DI) : Prop where
  pi : PI X tg iter (TIl X.K W wi)
theorem PI.wk {tg iter : Expr} {t t' : TI} (h : PI X tg iter t) (i : ∀ σ H R, t' σ H R → t σ H R) : PI X tg iter t' := ⟨fun a b c d q I z => h.run a b c d q I (i _ _ _ z)⟩
def forL (stay : Gh → Prop) (g : DG) (wb : DS) (D : DEnds) : List DV → Dv → Gh → Prop
  | [], env, G => stay G ∧ D.nx env G
  | x :: r, env, G => stay G ∧ g x env G fun env1 G1 => wb { D with nx := forL stay g wb D r, ct := forL stay g wb D r, bk := D.nx } env1 G1
def wFor (wi : DI) (g : DG) (wb : DS) : DS := fun D env G => wi (fun C fs G' => D.ex C fs env G') env G fun items stay G1 => forL stay g wb D items env G1
theorem drop_cons {α : Type} {l : List α} {i : Nat} {x : α} {r : List α} (h : l.drop i = x :: r) : l[i]? = some x ∧ l.drop (i + 1) = r ∧ i < l.length := by
  have hl : i < l.length := by
    have := congrArg List.length h
    rw [List.length_drop, List.length_cons] at this
    omega
  rw [List.drop_eq_getElem_cons hl] at h
  injection h with h1 h2
  exact ⟨by rw [List.getElem?_eq_getElem hl, h1], h2, hl⟩
theorem qs_for {tg iter : Expr} {body : List Stmt} {t : TG} {wi : DI} {g : DG} {wl : DS} (hp : PassesOwn (model X.prog X.w) X.A X.env X.xe) (hc : X.calm = true) (hi : QI X W tg iter wi) (hg : QG X tg t g) (hb : QSs X W body wl)
    (hs : ∀ x, foldedSetIterable iter X.env x = pure x := by intro _; rfl) : QS X W (.For tg iter body [] pos) (wFor wi g wl) := by
  refine ⟨PS.wk (ps_for hp hc hi.pi hg.pg hb.pss hs) ?_⟩
  rintro D σ H ⟨env, G, De, er, wg, h, le⟩
  refine ⟨_, env, G, _, er, wg, h, fun items stay G1 H1 J p w1 x1 it => ?_, le.xle wg er⟩
  refine ⟨fun i m σ' H' => ∃ env' G', m = items.length - i ∧ i ≤ items.length ∧ ER X.K H' σ' env' ∧ WG X.K G' H' ∧ Ext G1 H1 G' H' ∧ forL stay g wl De (items.drop i) env' G', ⟨_, env, G1, rfl, Nat.zero_le _, er.ext wg x1, w1, Ext.refl, by simpa using p⟩, ?_⟩
  rintro i m σ' H' ⟨env', G', rfl, hle, er', w', x', f⟩
  cases q : items.drop i with
  | nil =>
    rw [q] at f
    have hl : items.length = i := Nat.le_antisymm (List.drop_eq_nil_iff.mp q) hle
    exact .inl ⟨it.stop i H' G' w' x' f.1 hl, le.nx _ _ _ _ f.2 er' w' (x1.trans x')⟩
  | cons d r =>
    rw [q] at f
    obtain ⟨hd, hr, hl⟩ := drop_cons q
    obtain ⟨jg, jy⟩ := it.go i H' G' d w' x' f.1 hd
    refine .inr ⟨jg, fun σ2 H2 => ∃ env2 G2, ER X.K H2 σ2 env2 ∧ WG X.K G2 H2 ∧ Ext G1 H1 G2 H2 ∧ forL stay g wl De r env2 G2, fun σ2 H2 ⟨env2, G2, e2, w2, x2, f2⟩ => ⟨items.length - (i + 1), by omega, env2, G2, rfl, hl, e2, w2, x2, by rw [hr]; exact f2⟩, fun y H2 hy => ?_⟩
    obtain ⟨w2, x2, rv⟩ := jy y H2 hy
    refine hg.sim _ _ _ _ ⟨d, env', G', _, rv, er'.ext w' x2, w2, f.2, fun env3 G3 σ3 H3 p3 e3 w3 x3 => ?_⟩
    have t3 := (x'.trans x2).trans x3
    exact ⟨env3, G3, _, e3, w3, p3, fun a b c d z e4 w4 x4 => ⟨a, b, e4, w4, t3.trans x4, z⟩, fun a b c d z e4 w4 x4 => le.nx _ _ _ _ z e4 w4 ((x1.trans t3).trans x4),
      fun a b c d z e4 w4 x4 => ⟨a, b, e4, w4, t3.trans x4, z⟩, fun a b c d z r4 w4 x4 => le.rt _ _ _ _ z r4 w4 ((x1.trans t3).trans x4), fun C fs a b c d H4 z e4 r4 w4 x4 => le.ex _ _ _ _ _ _ _ z e4 r4 w4 ((x1.trans t3).trans x4)⟩
/-- a loop by what holds between two turns -/
theorem forL_inv {stay : Gh → Prop} {g : DG} {wl : DS} {De : DEnds} {items : List DV} {env : Dv} {G : Gh} (Inv : Nat → Dv → Gh → Prop) (h0 : Inv 0 env G) (hs : ∀ i env G, i ≤ items.length → Inv i env G → stay G)
    (ht : ∀ i d env G (K : Dv → Gh → Prop), items[i]? = some d → i < items.length → Inv i env G → (∀ e g, Inv (i + 1) e g → K e g) → g d env G fun env1 G1 => wl { De with nx := K, ct := K, bk := De.nx } env1 G1)
    (he : ∀ env G, Inv items.length env G → De.nx env G) : forL stay g wl De items env G := by
  have key : ∀ k i env G, items.length - i = k → i ≤ items.length → Inv i env G → forL stay g wl De (items.drop i) env G := by
    intro k
    induction k with
    | zero =>
      intro i env G hk hi h
      have e : i = items.length := by omega
      subst e
      rw [List.drop_length]
      exact ⟨hs _ _ _ hi h, he _ _ h⟩
    | succ k ih =>
      intro i env G hk hi h
      have hl : i < items.length := by omega
      rw [List.drop_eq_getElem_cons hl]
      exact ⟨hs _ _ _ hi h, ht i _ env G _ (List.getElem?_eq_getElem hl) hl h fun e g p => ih (i + 1) e g (by omega) hl p⟩
  exact key _ 0 env G rfl (Nat.zero_le _) h0

/-! ### while -/
/-- a while by what holds ahead of each test, and a number that falls -/
def wWhile (c : DT) (wb : DS) : DS := fun D env G => ∃ (Inv : Nat → Dv → Gh → Prop), (∃ m, Inv m env G) ∧ ∀ m env G, Inv m env G →
  c (fun C fs G' => D.ex C fs env G') env G fun b G1 => if b = true then wb { D with nx := fun e g => ∃ m', m' < m ∧ Inv m' e g, ct := fun e g => ∃ m', m' < m ∧ Inv m' e g, bk := D.nx } env G1 else D.nx env G1
theorem qs_while {c : Expr} {body : List Stmt} {ta : DT} {wl : DS} (hp : PassesOwn (model X.prog X.w) X.A X.env X.xe) (hc : QT X W c ta) (hb : QSs X W body wl) : QS X W (.While c body [] pos) (wWhile ta wl) := by
  refine ⟨PS.wk (ps_while hp hc.pt hb.pss) ?_⟩
  rintro D σ H ⟨env, G, De, er, wg, ⟨Iv, ⟨m, i0⟩, step⟩, le⟩
  refine ⟨fun m σ' H' => ∃ env' G', ER X.K H' σ' env' ∧ WG X.K G' H' ∧ Ext G H G' H' ∧ Iv m env' G', ⟨m, env, G, er, wg, Ext.refl, i0⟩, ?_⟩
  rintro m σ' H' ⟨env', G', er', w', x', i'⟩
  refine ⟨_, env', G', _, er', w', step m env' G' i', fun b G2 H2 p w2 x2 => ?_, (le.step x').xle w' er'⟩
  have t2 := x'.trans x2
  cases b with
  | true =>
    simp only [if_true] at p ⊢
    exact ⟨fun σ3 H3 => ∃ m', m' < m ∧ ∃ env3 G3, ER X.K H3 σ3 env3 ∧ WG X.K G3 H3 ∧ Ext G H G3 H3 ∧ Iv m' env3 G3, fun σ3 H3 ⟨m', hm, z⟩ => ⟨m', hm, z⟩, env', G2, _, er'.ext w' x2, w2, p,
      fun a b c d ⟨m', hm, z⟩ e4 w4 x4 => ⟨m', hm, a, b, e4, w4, t2.trans x4, z⟩, fun a b c d z e4 w4 x4 => le.nx _ _ _ _ z e4 w4 (t2.trans x4), fun a b c d ⟨m', hm, z⟩ e4 w4 x4 => ⟨m', hm, a, b, e4, w4, t2.trans x4, z⟩,
      fun a b c d z r4 w4 x4 => le.rt _ _ _ _ z r4 w4 (t2.trans x4), fun C fs a b c d H4 z e4 r4 w4 x4 => le.ex _ _ _ _ _ _ _ z e4 r4 w4 (t2.trans x4)⟩
  | false =>
    simp only [Bool.false_eq_true, if_false] at p ⊢
    exact le.nx _ _ _ _ p (er'.ext w' x2) w2 t2

/-! ### comprehensions -/
structure QTs (X : Cx) (W : WX) (ifs : List Expr) (w : DT) : Prop where
  pts : PTs X ifs (TTl X.K W w)
def wYes : DT := fun _ _ G Q => Q true G
theorem qts_nil : QTs X W [] wYes := ⟨⟨fun a b c d q I ⟨Y, env, G, P, er, wg, h, k, kx⟩ => pts_nil.run a b c d q I (k _ _ _ h wg Ext.refl)⟩⟩
theorem qts_one {c : Expr} {t : DT} (h : QT X W c t) : QTs X W [c] t := ⟨pts_one h.pt⟩
def lcL (stay : Gh → Prop) (g : DG) (tt : DT) (te : DE) (env : Dv) (Q : DV → Gh → Prop) : List DV → List DV → Gh → Prop
  | [], acc, G => stay G ∧ ∀ p, G p = none → Q (.ref p) (gup G p (.lst acc))
  | x :: r, acc, G => stay G ∧ g x env G fun env1 G1 => tt (fun _ _ _ => False) env1 G1 fun b G2 => if b = true then te (fun _ _ _ => False) env1 G2 fun y G3 => acc.length < sizeLine ∧ lcL stay g tt te env Q r (acc ++ [y]) G3 else lcL stay g tt te env Q r acc G2
/-- a comprehension by what holds between two turns -/
theorem lcL_inv {stay : Gh → Prop} {g : DG} {tt : DT} {te : DE} {env : Dv} {Q : DV → Gh → Prop} {items : List DV} {G : Gh} (Inv : Nat → List DV → Gh → Prop) (h0 : Inv 0 [] G) (hs : ∀ i acc G, i ≤ items.length → Inv i acc G → stay G)
    (ht : ∀ i d acc G (K : List DV → Gh → Prop), items[i]? = some d → i < items.length → Inv i acc G → (∀ a g, Inv (i + 1) a g → K a g) →
      g d env G fun env1 G1 => tt (fun _ _ _ => False) env1 G1 fun b G2 => if b = true then te (fun _ _ _ => False) env1 G2 fun y G3 => acc.length < sizeLine ∧ K (acc ++ [y]) G3 else K acc G2)
    (he : ∀ acc G, Inv items.length acc G → ∀ p, G p = none → Q (.ref p) (gup G p (.lst acc))) : lcL stay g tt te env Q items [] G := by
  have key : ∀ k i acc G, items.length - i = k → i ≤ items.length → Inv i acc G → lcL stay g tt te env Q (items.drop i) acc G := by
    intro k
    induction k with
    | zero =>
      intro i acc G hk hi h
      have e : i = items.length := by omega
      subst e
      rw [List.drop_length]
      exact ⟨hs _ _ _ hi h, he _ _ h⟩
    | succ k ih =>
      intro i acc G hk hi h
      have hl : i < items.length := by omega
      rw [List.drop_eq_getElem_cons hl]
      exact ⟨hs _ _ _ hi h, ht i _ acc G _ (List.getElem?_eq_getElem hl) hl h fun e g p => ih (i + 1) e g (by omega) hl p⟩
  exact key _ 0 [] G rfl (Nat.zero_le _) h0
structure GOk (K : PySem.W.Frag) (vs : List Nat) (t : TG) (g : DG) : Prop where
  sim : ∀ v σ H Q, TGl K g v σ H Q → t v σ H Q
  kp : Keeps vs t
  mo : MonoG t
structure GsOk (K : PySem.W.Frag) (vs : List Nat) (n : Nat) (t : TGs) (g : DGs) : Prop where
  sim : ∀ v σ H Q, TGsl K g v σ H Q → t v σ H Q
  kp : KeepsS vs t
  mo : MonoGs t
  len : ∀ ds env G P, g ds env G P → ds.length = n
theorem gok_name {K : PySem.W.Frag} {vs : List Nat} {i : Nat} (h : i ∈ vs := by decide) : GOk K vs (gName i) (wgName i) := ⟨fun v σ H Q ⟨d, env, G, P, r, er, wg, h, k⟩ => k _ _ _ _ h (er.set r i) wg Ext.refl, keeps_name h, mono_name⟩
theorem gsok_nil {K : PySem.W.Frag} {vs : List Nat} : GsOk K vs 0 gNil wgNil := ⟨fun v σ H Q ⟨d, env, G, P, r, er, wg, h, k⟩ => by
  cases d with
  | nil => cases r; exact ⟨rfl, k _ _ _ _ h er wg Ext.refl⟩
  | cons => exact h.elim, keeps_nil, mono_nil, fun ds env G P h => by cases ds with | nil => rfl | cons => exact h.elim⟩
theorem gsok_cons {K : PySem.W.Frag} {vs : List Nat} {n : Nat} {t : TG} {ts : TGs} {g : DG} {gs : DGs} (h1 : GOk K vs t g) (h2 : GsOk K vs n ts gs) (mg : ∀ d env G P, g d env G P → ∃ e g', P e g') : GsOk K vs (n + 1) (gCons t ts) (wgCons g gs) :=
  ⟨fun v σ H Q ⟨d, env, G, P, r, er, wg, h, k⟩ => by
    cases d with
    | nil => exact h.elim
    | cons d ds =>
      cases r with
      | cons r1 r2 =>
        exact ⟨_, _, rfl, h1.sim _ _ _ _ ⟨d, env, G, _, r1, er, wg, h, fun env' G' σ' H' p e' w' x' => h2.sim _ _ _ _ ⟨ds, env', G', P, r2.ext wg x', e', w', p, fun a b c q p2 e2 w2 x2 => k a b c q p2 e2 w2 (x'.trans x2)⟩⟩⟩,
    keeps_cons h1.mo h2.mo h1.kp h2.kp, mono_cons h1.mo h2.mo, fun ds env G P h => by
      cases ds with
      | nil => exact h.elim
      | cons d ds => obtain ⟨e, g', q⟩ := mg _ _ _ _ h; simp [h2.len _ _ _ _ q]⟩
theorem live_name {i : Nat} : ∀ d env G (P : Dv → Gh → Prop), wgName i d env G P → ∃ e g', P e g' := fun _ _ _ _ h => ⟨_, _, h⟩
theorem live_nil : ∀ d env G (P : Dv → Gh → Prop), wgNil d env G P → ∃ e g', P e g' := fun d _ _ _ h => by cases d with | nil => exact ⟨_, _, h⟩ | cons => exact h.elim
theorem live_cons {g : DG} {gs : DGs} (h1 : ∀ d env G (P : Dv → Gh → Prop), g d env G P → ∃ e g', P e g') (h2 : ∀ d env G (P : Dv → Gh → Prop), gs d env G P → ∃ e g', P e g') : ∀ d env G (P : Dv → Gh → Prop), wgCons g gs d env G P → ∃ e g', P e g' := fun d _ _ _ h => by
  cases d with
  | nil => exact h.elim
  | cons d ds => obtain ⟨e, g', q⟩ := h1 _ _ _ _ h; exact h2 _ _ _ _ q
theorem live_tup {gs : DGs} (h2 : ∀ d env G (P : Dv → Gh → Prop), gs d env G P → ∃ e g', P e g') : ∀ d env G (P : Dv → Gh → Prop), wgTup gs d env G P → ∃ e g', P e g' := fun d _ _ _ h => by
  cases d <;> first | exact h.elim | exact h2 _ _ _ _ h
theorem gok_tup {K : PySem.W.Frag} {vs : List Nat} {n : Nat} {ts : TGs} {gs : DGs} (h : GsOk K vs n ts gs) : GOk K vs (gTup K n ts) (wgTup gs) :=
  ⟨fun v σ H Q ⟨d, env, G, P, r, er, wg, hh, kk⟩ => by
    cases d <;> first | exact hh.elim | skip
    cases r with
    | tup sq rs => exact ⟨_, _, rfl, SqT.of sq, by rw [rs.len]; exact h.len _ _ _ _ hh, h.sim _ _ _ _ ⟨_, env, G, P, rs, er, wg, hh, kk⟩⟩, keeps_tup h.kp, mono_tup h.mo⟩
def wLc (vs : List Nat) (wi : DI) (g : DG) (tt : DT) (te : DE) : DE := fun Y env G Q => wi Y env G fun items stay G1 => lcL stay g tt te (wipeD env vs) Q items [] G1
theorem lc_parts {K : PySem.W.Frag} {vs : List Nat} {wi : DI} {t : TG} {g : DG} {tt : DT} {te : DE} (go : GOk K vs t g) {σ : L2.St} {H : Hp} {Q : VK} (h : TEl K W (wLc vs wi g tt te) σ H Q) :
    tLc (TIl K W wi) t (TTl K W0 tt) (TEl K W0 te) vs σ H Q := by
  obtain ⟨Y, env, G, P, er, wg, h, k, kx⟩ := h
  refine ⟨Y, env, G, _, er, wg, h, fun items stay G1 H1 J p w1 x1 it D hD => ?_, kx⟩
  refine ⟨fun i m H' => ∃ G' acc ad, m = items.length - i ∧ i ≤ items.length ∧ H' D = some (.lst acc) ∧ VRs K H' acc ad ∧ WG K G' H' ∧ G' D = none ∧ Ext G1 H1 G' H' ∧ lcL stay g tt te (wipeD env vs) P (items.drop i) ad G',
    ⟨_, G1, [], [], rfl, Nat.zero_le _, upd_same, .nil, w1.new hD, w1.non hD, Ext.new hD, by simpa using p⟩, ?_⟩
  rintro i m H' ⟨G', acc, ad, rfl, hle, eD, ra, w', nD, x', f⟩
  cases q : items.drop i with
  | nil =>
    rw [q] at f
    have hl : items.length = i := Nat.le_antisymm (List.drop_eq_nil_iff.mp q) hle
    refine .inl ⟨it.stop i H' G' w' x' f.1 hl, k _ _ _ _ (f.2 D nD) (fun a c e => ?_) (fun a o e n => ?_) (.ref D)⟩
    · by_cases ha : a = D
      · subst ha
        rw [gup_same] at e; cases e
        exact ⟨acc, eD, ra⟩
      · rw [gup_ne ha] at e
        exact w' a c e
    · obtain ⟨e2, n2⟩ := (x1.trans x') a o e n
      obtain ⟨e3, _⟩ := x1 a o e n
      have ha : a ≠ D := by rintro rfl; rw [hD] at e3; cases e3
      exact ⟨e2, by rw [gup_ne ha]; exact n2⟩
  | cons d r =>
    rw [q] at f
    obtain ⟨hd, hr, hl⟩ := drop_cons q
    obtain ⟨jg, jy⟩ := it.go i H' G' d w' x' f.1 hd
    refine .inr ⟨jg, fun H2 => ∃ G2 acc2 ad2, H2 D = some (.lst acc2) ∧ VRs K H2 acc2 ad2 ∧ WG K G2 H2 ∧ G2 D = none ∧ Ext G1 H1 G2 H2 ∧ lcL stay g tt te (wipeD env vs) P r ad2 G2,
      fun H2 ⟨G2, acc2, ad2, a1, a2, a3, a4, a5, a6⟩ => ⟨items.length - (i + 1), by omega, G2, acc2, ad2, rfl, hl, a1, a2, a3, a4, a5, by rw [hr]; exact a6⟩, fun y H2 hy => ?_⟩
    obtain ⟨w2, x2, rv⟩ := jy y H2 hy
    obtain ⟨eD2, nD2⟩ := x2 D _ eD nD
    have ew : ER K H' σ env := er.ext wg (x1.trans x')
    refine go.mo _ _ _ _ _ (go.kp _ _ _ _ (go.sim _ _ _ _ ⟨d, wipeD env vs, G', _, rv, (ew.wipe vs).ext w' x2, w2, f.2, fun env3 G3 σ3 H3 p3 e3 w3 x3 => (?_ : TTl K W0 tt σ3 H3 _)⟩)) fun σ3 H3 ⟨q3, e3⟩ => ⟨e3.trans (wipe_wipe vs), q3⟩
    refine ⟨_, env3, G3, _, e3, w3, p3, fun b G4 H4 p4 w4 x4 => ?_, xle0⟩
    have t4 := (x2.trans x3).trans x4
    obtain ⟨eD4, nD4⟩ := t4 D _ eD nD
    cases b with
    | false =>
      simp only [Bool.false_eq_true, if_false] at p4 ⊢
      exact ⟨G4, acc, ad, eD4, ra.ext w' t4, w4, nD4, x'.trans t4, p4⟩
    | true =>
      simp only [if_true] at p4 ⊢
      refine ⟨_, env3, G4, _, e3.ext w3 x4, w4, p4, fun z G5 vz H5 p5 w5 x5 r5 => ?_, xle0⟩
      have t5 := t4.trans x5
      obtain ⟨eD5, nD5⟩ := t5 D _ eD nD
      have ra5 := ra.ext w' t5
      -- the new list is a cell for a moment
      have wp : WG K (gup G5 D (.lst ad)) H5 := fun a c e => by
        by_cases ha : a = D
        · subst ha
          rw [gup_same] at e; cases e
          exact ⟨acc, eD5, ra5⟩
        · rw [gup_ne ha] at e
          exact w5 a c e
      have r6 : VRs K H5 (acc ++ [vz]) (ad ++ [z]) := ra5.app (.one r5)
      have xp : Ext (gup G5 D (.lst ad)) H5 (gup (gup G5 D (.lst ad)) D (.lst (ad ++ [z]))) (upd H5 D (.lst (acc ++ [vz]))) := Ext.setC gup_same
      refine ⟨acc, eD5, by rw [ra.len]; exact p5.1, G5, acc ++ [vz], ad ++ [z], upd_same, r6.ext wp xp, ?_, nD5, fun a o e n => ?_, p5.2⟩
      · refine (wp.setL gup_same r6).less fun a c e => ?_
        have ha : a ≠ D := by rintro rfl; rw [nD5] at e; cases e
        rw [gup_ne ha, gup_ne ha]; exact e
      · obtain ⟨e6, n6⟩ := (x'.trans t5) a o e n
        have ha : a ≠ D := by rintro rfl; rw [hD] at e; cases e
        exact ⟨by rw [upd_ne ha]; exact e6, n6⟩
theorem q_lc {elt tg iter : Expr} {ifs : List Expr} {scope : Scope} (own : List (Str × Nat)) {wi : DI} {t : TG} {g : DG} {tt : DT} {te : DE} (hc : X.calm = true) (hN : X.N.Nodup) (hi : QI X W tg iter wi) (ok : blkC X.N X.env.scope scope own = true)
    (hg : ∀ (s : Shared) (H : Hp) (C : Addr) (cl : List (Str × Addr)) (fp : List Addr), PG (X.blk s H scope (compEnvC scope cl C X.env) fp) tg t) (go : GOk X.K (own.map (·.2)) t g)
    (ht : ∀ (s : Shared) (H : Hp) (C : Addr) (cl : List (Str × Addr)) (fp : List Addr), QTs (X.blk s H scope (compEnvC scope cl C X.env) fp) W0 ifs tt)
    (he : ∀ (s : Shared) (H : Hp) (C : Addr) (cl : List (Str × Addr)) (fp : List Addr), QE (X.blk s H scope (compEnvC scope cl C X.env) fp) W0 elt te) (hs : ∀ x, foldedSetIterable iter X.env x = pure x := by intro _; rfl) :
    QE X W (.ListComp elt [⟨tg, iter, ifs, 0⟩] scope pos) (wLc (own.map (·.2)) wi g tt te) :=
  ⟨PE.wk (pe_lc hc hN hi.pi (blkOk_by ok) hg (fun a b c d f => (ht a b c d f).pts) (fun a b c d f => (he a b c d f).pe) hs) fun σ H Q h => lc_parts go h⟩
end
end DL

namespace DL
open PySem PySem.Spec L2
open PyProof.Rows hiding St

/-! ### what an error leaves: its class, its dict; no context, but of the one class that is raised while another error is handled -/
def Loose (mg : Str → Option Value) (c : Value) : Prop := mg "NoFault" = some c
abbrev loosely (mg : Str → Option Value) (W : WX) : WX := fun c d σ H => Loose mg c ∧ W c d σ H
structure Takes (X : Cx) (W : WX) : Prop where
  n : L2N.Takes X W
  c : L2.Takes X (loosely X.mg W)
def CXm (P : Program) (w : World) (mg : Str → Option Value) : CXT := fun outer H s E u s' => L2N.CX P w outer H s E u s' ∨ L2.CX P w outer H s (fun c d H' => Loose mg c ∧ E c d H') u s'
theorem takes0 {X : Cx} : Takes X (fun _ _ _ _ => False) := ⟨fun _ _ z => by
  obtain ⟨_, _, _, _, _, _, _, _, _, _, _, _, _, _, _, _, n⟩ := z
  exact n.elim, fun _ _ z => by
  obtain ⟨_, _, _, _, _, _, _, _, _, _, _, _, _, _, _, _, n⟩ := z
  exact n.2.elim⟩
theorem passAt {X : Cx} {W : WX} (tk : Takes X W) (σ : L2.St) : PassesAt (CXm X.prog X.w X.mg) X σ (WE W σ) := fun pins H s e s' I c => by
  rcases c with c | c
  · exact L2N.passAt tk.n σ pins H s e s' I c
  · exact L2.passAt tk.c σ pins H s e s' I c
theorem takes_of {X : Cx} {E : XK} (hs : X.stack = X.env :: X.outer) (hf : X.env.frame = some X.env.locals) (hex : X.ex = []) {E₁ : Value → Shared → Prop}
    (hx : X.xe = fun e s' => wpAny (model X.prog X.w) X.A (leaving X.env e) (fun _ s'' => CXm X.prog X.w X.mg X.outer X.H_0 X.s_0 E e s'') E₁ s') : Takes X (fun cls d _ H => E cls d H) := by
  refine ⟨fun u s' x => ?_, fun u s' x => ?_⟩
  · rw [hx]
    exact wpAny_mono (L2N.XE.leave (E := E) hs hf hex (fun _ _ _ _ h => h) x) (fun _ _ q => .inl q) fun _ _ q => q
  · rw [hx]
    exact wpAny_mono (L2.XE.leave (E := fun c d H => Loose X.mg c ∧ E c d H) hs hf hex (fun _ _ _ _ h => h) x) (fun _ _ q => .inr q) fun _ _ q => q
/-! ### defs: their promises at the data level; no object is being shown meanwhile -/
abbrev DF := List DV → Gh → (DV → Gh → Prop) → DX → Prop
def liftF (K : PySem.W.Frag) (d : DF) : Sp := fun vs H Q E => ∃ ds G P Y, VRs K H vs ds ∧ WG K G H ∧ d ds G P Y ∧
  (∀ r G' v H', P r G' → WG K G' H' → Ext G H G' H' → VR K H' v r → Q v H') ∧ XLe K G H Y E
structure FG (P : Program) (w : World) (K : PySem.W.Frag) (mg : Str → Option Value) (base : Heap) (k : Nat) (f : Addr) (fd : FuncData) (ps : List Str) (d : DF) : Prop where
  len : ∀ ds G Q Y, d ds G Q Y → ds.length = ps.length
  run : ∀ (A : Around) (outer : List Env) (s : Shared) (H : Hp) (args : Args) (us : List Value) (vs : List V) (Q : VK) (E : XK), A.guards = some [] → Room k A → Env0 P w K mg base A outer s H →
    BindsTo s fd args (ps.zip us) → Vals vs us → liftF K d vs H Q E → codeAny (model P w) A (.call (.ref f) args) (CR (CXm P w mg) outer P w H s Q E) s
theorem FG.up {P : Program} {w : World} {K : PySem.W.Frag} {mg : Str → Option Value} {base : Heap} {j k : Nat} {f : Addr} {fd : FuncData} {ps : List Str} {d : DF} (F : FG P w K mg base j f fd ps d) (h : j ≤ k) : FG P w K mg base k f fd ps d :=
  ⟨F.len, fun A o s H a us vs Q E hg hr => F.run A o s H a us vs Q E hg (hr.mono h)⟩
section
variable {X : Cx} {W : WX} {k : Nat} {f : Addr} {fd : FuncData} {ps : List Str} {d : DF} {x : Str} {p pos : Pos} {e : Expr} {es : List Expr} {wr : DA}
/-- one call -/
theorem run_call {pins : List (Addr × Obj)} {σ : L2.St} {H : Hp} {s : Shared} {Q : VK} {us : List Value} {vs : List V} (F : FG X.prog X.w X.K X.mg X.base k f fd ps d) (hg : X.A.guards = some []) (hr : Room k X.A) (hb : Binds X.K fd ps [])
    (tk : Takes X W) (I : Inv X pins σ H s) (r : Vals vs us) (h : liftF X.K d vs H Q (WE W σ)) : wpAny (model X.prog X.w) X.A (call (.ref f) us) (EP X pins σ Q) X.xe s := by
  have hl : us.length = ps.length := by
    obtain ⟨ds, G, P, Y, rv, _, hd, _⟩ := h
    rw [← r.length, rv.len, F.len _ _ _ _ hd]
  have bb := hb s us I.kIn (by rw [List.append_nil]; exact hl)
  rw [List.append_nil] at bb
  refine wpAny_call (codeAny_mono (F.run X.A X.stack s H ⟨us, []⟩ us vs Q (WE W σ) hg hr I.env0 bb r h) ?_)
  intro res s' hres
  match res, hres with
  | .error er, hres => exact passAt tk σ pins H s er s' I hres
  | .ok (.ret u), hres => exact I.after hres
  | .ok .next, hres => exact hres.elim
  | .ok .brk, hres => exact hres.elim
  | .ok .cont, hres => exact hres.elim
def wCall (d : DF) (wr : DA) : DE := fun Y env G Q => wr Y env G fun ds G1 => d ds G1 Q Y
theorem q_call (F : FG X.prog X.w X.K X.mg X.base k f fd ps d) (hgd : X.A.guards = some []) (hr : Room k X.A) (hm : X.mg x = some (.ref f)) (hk : PySem.W.keepIn X.K (.ref f) = true) (hb : Binds X.K fd ps []) (tk : Takes X W)
    (ha : QA X W (e :: es) wr) (hg : Gl X x := by rfl) (hdb : (x == ("__debug__" : Str)) = false := by decide) (he : starEach (e :: es) X.env = (false, eval e X.env) :: starEach es X.env := by rfl) (hpl : (backTo pos (starEach es X.env)).any (·.1) = false := by rfl) :
    QE X W (.Call (.Name x p) (e :: es) [] pos) (wCall d wr) := by
  refine ⟨⟨?_⟩⟩
  rintro pins s σ H Q I ⟨Y, env, G, P, er, wg, h, kq, kx⟩
  refine wpAny_Call_Name_kw (ld_glob I hg hm ?_ hdb)
  refine PySem.W.callWith_K (h₀ := X.base) I.ok.mod.kin hk ?_ he hpl
  refine thn (ha.pa.run pos pins s σ H (fun vs H1 => liftF X.K d vs H1 Q (WE W σ)) I ⟨Y, env, G, _, er, wg, h, fun ds G1 vs H1 h1 w1 x1 r1 => ?_, kx⟩) ?_
  · exact ⟨ds, G1, P, Y, r1, w1, h1, fun r G' v H' q w' x' r' => kq r G' v H' q w' (x1.trans x') r', kx.step x1⟩
  · rintro us s1 ⟨vs, H1, I1, r, q⟩
    exact ⟨I1.kIn, run_call F hgd hr hb tk I1 r q⟩
theorem q_call0 (F : FG X.prog X.w X.K X.mg X.base k f fd ps d) (hgd : X.A.guards = some []) (hr : Room k X.A) (hm : X.mg x = some (.ref f)) (hk : PySem.W.keepIn X.K (.ref f) = true) (hb : Binds X.K fd ps []) (tk : Takes X W)
    (hg : Gl X x := by rfl) (hdb : (x == ("__debug__" : Str)) = false := by decide) : QE X W (.Call (.Name x p) [] [] pos) (wCall d wNil) := by
  refine ⟨⟨?_⟩⟩
  rintro pins s σ H Q I ⟨Y, env, G, P, er, wg, h, kq, kx⟩
  refine wpAny_Call_Name_kw (ld_glob I hg hm ?_ hdb)
  exact PySem.W.callWith_K0 I.kIn hk (run_call (us := []) (vs := []) F hgd hr hb tk I .nil ⟨[], G, P, Y, .nil, wg, h, kq, kx⟩)
end

/-! ### a def's body -/
section
variable {P : Program} {w : World} {K : PySem.W.Frag} {mg : Str → Option Value} {base : Heap}
/-- what a body's ends are: it comes to its end, or hands back -/
def bodyEnds (Q : DV → Gh → Prop) (Y : DX) : DEnds := { nx := fun _ G => Q .non G, rt := Q, ex := fun C fs _ G => Y C fs G }
def start0 (n : Nat) (ds : List DV) : Dv := ds.map some ++ List.replicate (n - ds.length) none
/-- the wish of a def's body about exceptions -/
abbrev WD (E : XK) : WX := fun c d _ H => E c d H
theorem fg_of {x qual : Str} {st : Stmt} {f : Addr} {fd : FuncData} {N ps : List Str} {k : Nat} {d : DF} {wb : DS} (F : Fun K x qual st f fd) (S : FnScope N ps (defScope st)) (len : ∀ ds G Q Y, d ds G Q Y → ds.length = ps.length)
    (hbody : ∀ (cdv : Value) (A : Around) (outer : List Env) (s : Shared) (H : Hp) (E : XK), (A.deeper (envOfC qual (defScope st) s.heap.objs.size f cdv)).guards = some [] → Room k (A.deeper (envOfC qual (defScope st) s.heap.objs.size f cdv)) →
      QSs (cxOf (CXm P w mg) P w K mg base N qual (defScope st) f cdv A outer s H E) (WD E) (defBody st) wb)
    (hq : ∀ ds G Q Y, d ds G Q Y → wb (bodyEnds Q Y) (start0 N.length ds) G) : FG P w K mg base (k + 1) f fd ps d := by
  obtain ⟨oc, od, kV, doc, pm, an, cdv, ct, osl, rfl, lk, hcd⟩ := F.ex
  refine ⟨len, ?_⟩
  intro A outer s H args us vs Q E hgd hr e0 hb r hsp
  obtain ⟨ds, G, Pq, Y, rv, wg, hd, kq, kx⟩ := hsp
  have hl : vs.length = ps.length := rv.len.trans (len _ _ _ _ hd)
  have inK : K.In s.heap := e0.mod.kin.keeps fun b o q => (e0.bs b o q).1
  have nolim : s.heap.NoLimit := e0.mod.nolimit.keeps fun b o q => (e0.bs b o q).1
  have named : ∀ y ∈ ps.zip us, (defScope st).names.lookup y.1 = some .local ∨ ((defScope st).names.lookup y.1 = some .cell ∧ ((cellsFrom (s.heap.objs.size + 1) (defScope st).names []).lookup y.1).isSome = true) := by
    intro y hy
    have hm : y.1 ∈ ps := (List.of_mem_zip (show (y.1, y.2) ∈ ps.zip us from hy)).1
    exact (S.par y.1 hm).imp id fun q => ⟨q, PySem.W.cellsFrom_some _ _ _ (.inl q)⟩
  refine codeAny_call_function hr.depth (inK _ _ lk) rfl S.co S.gen rfl (PySem.W.codeRec_of inK hcd) (hb _ _ _ _ ?_)
  refine wpAny_newFunctionEnv_cells S.kind named ?_
  intro env henv s1 ic
  subst henv
  refine ⟨nolim.keeps ic.toInCall.keep, codeAny_func ?_⟩
  have body := hbody cdv A outer s H E hgd (hr.deeper _)
  have I := inv_start (CX := CXm P w mg) (E := E) S hr.hd e0 hl r ic
  refine wpAny_mono (body.pss.run [] s1 (start N vs) H { nx := fun _ H' => Q .non H', rt := Q } I ?_) ?_ fun _ _ z => z
  · refine ⟨start0 N.length ds, G, bodyEnds Pq Y, ?_, wg, hq _ _ _ _ hd, ?_⟩
    · show ER K H (vs.map some ++ List.replicate (N.length - vs.length) none) _
      rw [rv.len]
      exact ER.start rv _
    · exact ⟨fun env G' σ H' q er wg' x' => kq _ _ _ _ q wg' x' .non, fun _ _ _ _ z => z.elim, fun _ _ _ _ z => z.elim, fun r' G' v H' q r wg' x' => kq _ _ _ _ q wg' x' r,
        fun C fs env G' σ dd H' q e er wg' x' => kx C fs G' dd H' q e wg' x'⟩
  · intro fl s' hs
    match fl, hs with
    | .ret u, ⟨v, σ', H', J, rv', q⟩ => exact ⟨v, H', J.os, J.bare, J.base, J.hok, rv', q⟩
    | .next, ⟨σ', H', J, q⟩ => exact ⟨V.non, H', J.os, J.bare, J.base, J.hok, rfl, q⟩
    | .brk, ⟨_, _, _, q⟩ => exact q.elim
    | .cont, ⟨_, _, _, q⟩ => exact q.elim
end

/-! ### the law's own call -/
/-- what a law promises: of a list of at most 63 ints it tells True -/
def lawD : DF := fun ds G Q _ => ∃ ns : List Int, ds = [.ro (ns.map DV.int)] ∧ ns.length ≤ 63 ∧ (G = fun _ => none) ∧ ∀ G', Q (.bl true) G'
section
variable {P : Program} {w : World} {K : PySem.W.Frag} {mg mb : Str → Option Value} {k : Nat} {fa a : Addr} {fd : FuncData} {x : Str} {s1 : Shared} {vs : List Value} {ns : List Int}
theorem law_enter (inK : K.In s1.heap) (gl : s1.heap.Ns mainGlobals mg) (bl : s1.heap.Ns builtinsNs mb) (blv : ∀ x : Str, x ≠ "__name__" → mb x = bootBuiltins x) (nolim : s1.heap.NoLimit) (nog : s1.gens = #[])
    (at_ : s1.heap.get? a = some { cls := .type "list", data := .seq vs.toArray }) (hints : PyProof.Rows.IntsAre vs ns) (few : ns.length ≤ 63) (room : Room k callerA)
    (F : ∀ base : Heap, K.In base → base.Ns mainGlobals mg → FG P w K mg base k fa fd [x] lawD) (binds : ∀ (s : Shared) (u : Value), BindsTo s fd ⟨[u], []⟩ [(x, u)]) :
    codeAny (model P w) callerA (.call (.ref fa) ⟨[.ref a], []⟩) (fun r s' => r = .ok (.ret (.bool true)) ∧ OldK s1.heap s'.heap ∧ s'.os = s1.os ∧ AllBare s'.gens) s1 := by
  have line : ns.length ≤ sizeLine := Nat.le_trans few (by decide)
  have vr := vals_ints hints
  have cnt := hints.length
  have sat : ∃ H : Hp, (∀ b u, H b = some u → b = a ∧ u = .frz { cls := .type "list", data := .seq vs.toArray } (.lst (ns.map V.int)) ∧ K.lookup a = none) ∧ RoL K H a (ns.map V.int) := by
    cases q : K.lookup a with
    | none =>
      refine ⟨fun b => if b = a then some (.frz { cls := .type "list", data := .seq vs.toArray } (.lst (ns.map V.int))) else none, fun b u e => ?_, .inl ⟨{ cls := .type "list", data := .seq vs.toArray }, if_pos rfl⟩⟩
      by_cases hb : b = a
      · simp only [hb, if_true] at e
        exact ⟨hb, (Option.some.inj e).symm, rfl⟩
      · simp [hb] at e
    | some o =>
      have same := inK a o q
      rw [at_] at same
      cases same
      refine ⟨fun _ => none, fun b u e => (nomatch e), .inr (.inr ⟨_, vs.toArray, _, q, rfl, rfl, rfl, ?_, ?_⟩)⟩
      · rw [List.size_toArray, cnt]; exact line
      · simpa using vr
  obtain ⟨H, only, ro⟩ := sat
  have hok : HOk P w H s1.heap := by
    intro b u e
    obtain ⟨rfl, rfl, _⟩ := only b u e
    exact ⟨at_, by rw [List.length_map]; exact line, vs, _, vr, at_⟩
  have notDict : ∀ {b : Addr} {o : Obj} {es : Array DictEntry} {n : Nat}, s1.heap.get? b = some o → o.data = .dict es n → H b = none := by
    intro b o es n e d
    cases q : H b with
    | none => rfl
    | some u =>
      obtain ⟨rfl, _, _⟩ := only b u q
      rw [at_] at e; cases e
      cases d
  have nsb : ∀ {b : Addr} {m : Str → Option Value}, s1.heap.Ns b m → (hidT s1.heap H).Ns b m := by
    rintro b m ⟨o, es, n, e, d, r⟩
    exact ⟨o, es, n, hidT_get e (notDict e d), d, r⟩
  have inB : K.In (hidT s1.heap H) := by
    intro b o e
    refine hidT_get (inK b o e) ?_
    cases q : H b with
    | none => rfl
    | some u =>
      obtain ⟨rfl, _, z⟩ := only b u q
      rw [z] at e; cases e
  have md : Mod K mg (hidT s1.heap H) := by
    refine ⟨inB, nsb gl, ⟨mb, nsb bl, blv⟩, ?_⟩
    obtain ⟨mc, l1, l2⟩ := nolim
    exact ⟨mc, nsb l1, l2⟩
  have env0 : Env0 P w K mg (hidT s1.heap H) callerA [] s1 H := by
    refine ⟨rfl, md, fun b o e => of_hidT e, Nat.le_of_eq (hidT_size _ _), trivial, fun b hb => ?_, hok, .of_eq nog⟩
    exact absurd (show b ∈ ([] : List Addr) from hb) (by simp)
  have wg : WG K (fun _ => none) H := fun a c e => (nomatch e)
  have sp : liftF K lawD [.ref a] H (fun v _ => v = .bl true) fun _ _ _ => False := by
    refine ⟨[.ro (ns.map DV.int)], fun _ => none, fun d _ => d = .bl true, fun _ _ _ => False, .cons (.ro ro (VRs.ints ns)) .nil, wg, ⟨ns, rfl, few, rfl, fun _ => rfl⟩, ?_, xle0⟩
    rintro r G' v H' rfl _ _ rv
    cases rv
    rfl
  refine codeAny_mono ((F _ inB (nsb gl)).run callerA [] s1 H ⟨[.ref a], []⟩ [.ref a] [.ref a] _ _ rfl room env0 (binds s1 (.ref a)) (.cons rfl .nil) sp) ?_
  intro res s' hres
  match res, hres with
  | .error er, hres =>
    rcases hres with ⟨_, _, _, _, _, _, _, _, _, _, _, _, z⟩ | ⟨_, _, _, _, _, _, _, _, _, _, _, _, _, z⟩
    · exact z.elim
    · exact z.elim
  | .ok .next, hres => exact hres.elim
  | .ok .brk, hres => exact hres.elim
  | .ok .cont, hres => exact hres.elim
  | .ok (.ret u), ⟨v, H', os, bare, un, hok', rv, q⟩ =>
    have q' : v = .bl true := q
    subst q'
    cases (show u = Value.bool true from rv)
    refine ⟨rfl, OldK.of_keep fun b o e => ?_, os, bare⟩
    cases z : H b with
    | none => exact un.keep b o e z (fun y => absurd (show b ∈ ([] : List Addr) from y) (by simp)) (by simp)
    | some y =>
      obtain ⟨rfl, rfl, _⟩ := only b y z
      have z2 := un.frzs b _ _ z
      obtain ⟨e1, _⟩ := hok' b _ z2
      rw [at_] at e; cases e
      exact e1
end
/-- the goal behind the head -/
theorem law_walk {l : PySem.W.OpenLaw} {k : Nat} {q : Program} {loose : List Str} {XP : (Str → Option Value) → Heap → Prop} {YP : World → Heap → Prop} {d : DefRec} {K : Params → PySem.W.Frag} {x : Str}
    (hn : l.most = some 63) (hdf : d.params.defaults = []) (hr : Room k callerA) (hY : ∀ (w : World) (h : Heap), YP w h → (K w.params).In h)
    (F : ∀ (w : World) (mg : Str → Option Value) (fa : Addr) (h : Heap), (K w.params).In h → h.Ns mainGlobals mg → mg d.name = some (.ref fa) →
      ∃ fd : FuncData, (∀ (s : Shared) (u : Value), BindsTo s fd ⟨[u], []⟩ [(x, u)]) ∧ ∀ base : Heap, (K w.params).In base → base.Ns mainGlobals mg → FG l.prog w (K w.params) mg base k fa fd [x] lawD) :
    PySem.W.WalkO q loose XP YP l.row.toRowW d [] (fun f vs => PySem.call f vs) := by
  refine Att.attach_call hn hdf ?_
  intro w s₀ s₁ mg mb fa o pm cd doc a vs ns G Y ho hd hcd hmg hobj hints hlen hg
  have inK := hY w _ Y
  obtain ⟨fd, bd, hF⟩ := F w mg fa _ inK G.T.g hmg
  exact law_enter inK G.T.g G.T.b G.T.builtins G.T.nolimit hg hobj hints hlen hr hF bd
end DL

namespace DL
open PySem PySem.Spec L2
open PyProof.Rows hiding St

/-! ### reading data off the heap -/
mutual
inductive DR (G : Gh) : DV → PyData → Prop
  | non : DR G .non .none
  | bl (b : Bool) : DR G (.bl b) (.bool b)
  | int (i : Int) : DR G (.int i) (.int i)
  | str (x : Str) : DR G (.str x) (.str x)
  | tup {l : List DV} {ds : List PyData} : DRs G l ds → DR G (.tup l) (.tuple ds)
  | ro {l : List DV} {ds : List PyData} : DRs G l ds → DR G (.ro l) (.list ds)
  | ref {a : Addr} {l : List DV} {ds : List PyData} : G a = some (.lst l) → DRs G l ds → DR G (.ref a) (.list ds)
inductive DRs (G : Gh) : List DV → List PyData → Prop
  | nil : DRs G [] []
  | cons {d : DV} {l : List DV} {e : PyData} {ds : List PyData} : DR G d e → DRs G l ds → DRs G (d :: l) (e :: ds)
end
section
variable {K : PySem.W.Frag} {H : Hp} {G : Gh}
mutual
theorem DR.dp (w : WG K G H) : ∀ {e : PyData} {d : DV} {v : V}, DR G d e → VR K H v d → Dp K H v e
  | .none, _, _, h, r => by cases h; cases r; exact .non
  | .bool b, _, _, h, r => by cases h; cases r; exact .bl b
  | .int i, _, _, h, r => by cases h; cases r; exact .int i
  | .str x, _, _, h, r => by cases h; cases r; exact .str x
  | .tuple ds, _, _, h, r => by
    cases h with
    | tup hs => cases r with
      | tup sq rs => exact .tup (SqT.of sq) (DRs.dp w hs rs)
  | .list ds, _, _, h, r => by
    cases h with
    | ro hs => cases r with
      | ro sq rs => exact .lst sq.sq (DRs.dp w hs rs)
    | ref e hs =>
      cases r
      obtain ⟨xs, e2, rs⟩ := w _ _ e
      exact .lst (SqL.of e2) (DRs.dp w hs rs)
  | .dict _, _, _, h, _ => by cases h
theorem DRs.dp (w : WG K G H) : ∀ {es : List PyData} {ds : List DV} {vs : List V}, DRs G ds es → VRs K H vs ds → DpAll K H vs es
  | [], _, _, h, r => by cases h; cases r; exact .nil
  | e :: es, _, _, h, r => by
    cases h with
    | cons h1 h2 => cases r with
      | cons r1 r2 => exact .cons (DR.dp w h1 r1) (DRs.dp w h2 r2)
end
end
/-- values without addresses -/
def DV.pure : DV → Bool
  | .ref _ => false
  | .ty _ => false
  | .exc .. => false
  | .kt _ => false
  | .tup l => l.attach.all fun ⟨d, _⟩ => d.pure
  | .ro l => l.attach.all fun ⟨d, _⟩ => d.pure
  | _ => true
def DV.pd : DV → PyData
  | .non => .none
  | .bl b => .bool b
  | .int i => .int i
  | .str s => .str s
  | .tup l => .tuple (l.attach.map fun ⟨d, _⟩ => d.pd)
  | .ro l => .list (l.attach.map fun ⟨d, _⟩ => d.pd)
  | .ref _ => .none
  | .ty _ => .none
  | .exc .. => .none
  | .kt _ => .none
@[simp] theorem pd_non : DV.non.pd = .none := by simp [DV.pd]
@[simp] theorem pd_bl {b : Bool} : (DV.bl b).pd = .bool b := by simp [DV.pd]
@[simp] theorem pd_int {i : Int} : (DV.int i).pd = .int i := by simp [DV.pd]
@[simp] theorem pd_str {i : Str} : (DV.str i).pd = .str i := by simp [DV.pd]
@[simp] theorem pd_tup {l : List DV} : (DV.tup l).pd = .tuple (l.map DV.pd) := by simp [DV.pd]
@[simp] theorem pd_ro {l : List DV} : (DV.ro l).pd = .list (l.map DV.pd) := by simp [DV.pd]
@[simp] theorem pure_non : DV.non.pure = true := by simp [DV.pure]
@[simp] theorem pure_bl {b : Bool} : (DV.bl b).pure = true := by simp [DV.pure]
@[simp] theorem pure_int {i : Int} : (DV.int i).pure = true := by simp [DV.pure]
@[simp] theorem pure_str {i : Str} : (DV.str i).pure = true := by simp [DV.pure]
@[simp] theorem pure_tup {l : List DV} : (DV.tup l).pure = l.all DV.pure := by simp [DV.pure]
@[simp] theorem pure_ro {l : List DV} : (DV.ro l).pure = l.all DV.pure := by simp [DV.pure]
theorem dr_all {G : Gh} : ∀ {l : List DV}, (∀ d ∈ l, DR G d d.pd) → DRs G l (l.map DV.pd)
  | [], _ => .nil
  | d :: l, h => .cons (h d (by simp)) (dr_all fun x hx => h x (by simp [hx]))
theorem dr_pure {G : Gh} (d : DV) (h : d.pure = true) : DR G d d.pd := by
  match d, h with
  | .non, _ => simp; exact .non
  | .bl b, _ => simp; exact .bl b
  | .int i, _ => simp; exact .int i
  | .str s, _ => simp; exact .str s
  | .tup l, h =>
    simp only [pure_tup, List.all_eq_true] at h
    rw [pd_tup]
    exact .tup (dr_all fun x hx => dr_pure x (h x hx))
  | .ro l, h =>
    simp only [pure_ro, List.all_eq_true] at h
    rw [pd_ro]
    exact .ro (dr_all fun x hx => dr_pure x (h x hx))
  | .ref _, h => simp [DV.pure] at h
  | .ty _, h => simp [DV.pure] at h
  | .exc .., h => simp [DV.pure] at h
  | .kt _, h => simp [DV.pure] at h
termination_by sizeOf d
decreasing_by all_goals (have := List.sizeOf_lt_of_mem hx; simp_wf; omega)
theorem drs_pure {G : Gh} {l : List DV} (h : l.all DV.pure = true) : DRs G l (l.map DV.pd) := dr_all fun d hd => dr_pure d (List.all_eq_true.mp h d hd)

/-! ### arithmetic and comparisons -/
section
variable {X : Cx}
/-- the end of an operation that makes nothing new -/
theorem op_end {K : PySem.W.Frag} {H : Hp} {G : Gh} {P : DV → Gh → Prop} {Q : VK} (wg : WG K G H) (k : ∀ d G' v H', P d G' → WG K G' H' → Ext G H G' H' → VR K H' v d → Q v H') {d : DV} {v : V} (h : P d G) (r : VR K H v d) : Q v H :=
  k d G v H h wg Ext.refl r
def dAdd : D2 := fun x y G Q => match x, y with
  | .int i, .int j => Q (.int (i + j)) G
  | .str a, .str b => a.length + b.length ≤ sizeLine ∧ Q (.str (a ++ b)) G
  | .tup a, .tup b => a.length + b.length ≤ sizeLine ∧ Q (.tup (a ++ b)) G
  | .ref a, .ref b => ∃ l m, G a = some (.lst l) ∧ G b = some (.lst m) ∧ l.length + m.length ≤ sizeLine ∧ ∀ p, G p = none → Q (.ref p) (gup G p (.lst (l ++ m)))
  | _, _ => False
theorem o_add : OpD X (binaryOp .Add) dAdd := by
  rintro pins s σ H x y v u Q I rx ry ⟨dx, dy, G, P, vx, vy, wg, h, k⟩
  match dx, dy, vx, vy, h with
  | .int i, .int j, .int _, .int _, h => exact op_add pins s σ H _ _ v u Q I rx ry ⟨i, j, rfl, rfl, op_end wg k h (.int _)⟩
  | .str a, .str b, .str _, .str _, h => exact op_add_str pins s σ H _ _ v u Q I rx ry ⟨a, b, rfl, rfl, h.1, op_end wg k h.2 (.str _)⟩
  | .tup a, .tup b, .tup sa ra, .tup sb rb, ⟨h1, h2⟩ =>
    refine op_catA pins s σ H _ _ v u Q I rx ry ⟨_, _, _, _, rfl, rfl, SqT.of sa, SqT.of sb, by rw [ra.len, rb.len]; exact h1, fun e => ?_, fun _ e => ?_, fun _ _ p np => ?_⟩
    · subst e
      cases ra
      exact op_end wg k h2 (.tup sb rb)
    · subst e
      cases rb
      rw [List.append_nil] at h2
      exact op_end wg k h2 (.tup sa ra)
    · exact k _ _ _ _ h2 (wg.new np) (Ext.new np) (VR.newT wg np (ra.app rb))
  | .ref a, .ref b, .ref _, .ref _, ⟨l, m, ga, gb, hl, h⟩ =>
    obtain ⟨xs, ha, ra⟩ := wg _ _ ga
    obtain ⟨ys, hb, rb⟩ := wg _ _ gb
    refine op_cat pins s σ H _ _ v u Q I rx ry ⟨a, b, xs, ys, rfl, rfl, ha, hb, by rw [ra.len, rb.len]; exact hl, fun p np => ?_⟩
    exact k _ _ _ _ (h p (wg.non np)) (wg.newL np (ra.app rb)) (Ext.newC np) (.ref p)
def dSub : D2 := fun x y G Q => match x, y with
  | .int i, .int j => Q (.int (i - j)) G
  | _, _ => False
theorem o_sub : OpD X (binaryOp .Sub) dSub := by
  rintro pins s σ H x y v u Q I rx ry ⟨dx, dy, G, P, vx, vy, wg, h, k⟩
  match dx, dy, vx, vy, h with
  | .int i, .int j, .int _, .int _, h => exact op_sub pins s σ H _ _ v u Q I rx ry ⟨i, j, rfl, rfl, op_end wg k h (.int _)⟩
/-- products that the machine takes -/
def MulOk (i j : Int) : Prop := i.natAbs.log2 + j.natAbs.log2 < 1000000
theorem MulOk.of {i j : Int} {a b : Nat} (ha : i.natAbs < 2 ^ a) (hb : j.natAbs < 2 ^ b) (h0 : 0 < a) (h1 : 0 < b) (h : a + b ≤ 1000000) : MulOk i j := wide_mul ha hb h0 h1 h
def dMul : D2 := fun x y G Q => match x, y with
  | .int i, .int j => MulOk i j ∧ Q (.int (i * j)) G
  | .ref a, .int n => ∃ l, G a = some (.lst l) ∧ -(2 ^ 63) ≤ n ∧ n < 2 ^ 63 ∧ l.length * n.toNat ≤ sizeLine ∧ ∀ p, G p = none → Q (.ref p) (gup G p (.lst (List.replicate n.toNat l).flatten))
  | _, _ => False
theorem VRs.reps {K : PySem.W.Frag} {H : Hp} {xs : List V} {l : List DV} (r : VRs K H xs l) : ∀ n : Nat, VRs K H (List.replicate n xs).flatten (List.replicate n l).flatten
  | 0 => .nil
  | n + 1 => by
    rw [List.replicate_succ, List.replicate_succ, List.flatten_cons, List.flatten_cons]
    exact r.app (r.reps n)
theorem o_mul : OpD X (binaryOp .Mult) dMul := by
  rintro pins s σ H x y v u Q I rx ry ⟨dx, dy, G, P, vx, vy, wg, h, k⟩
  match dx, dy, vx, vy, h with
  | .int i, .int j, .int _, .int _, h => exact op_mulW pins s σ H _ _ v u Q I rx ry ⟨i, j, rfl, rfl, h.1, op_end wg k h.2 (.int _)⟩
  | .ref a, .int n, .ref _, .int _, ⟨l, ga, n1, n2, hl, h⟩ =>
    obtain ⟨xs, ha, ra⟩ := wg _ _ ga
    refine op_rep pins s σ H _ _ v u Q I rx ry ⟨a, n, xs, rfl, rfl, ha, n1, n2, by rw [ra.len]; exact hl, fun p np => ?_⟩
    exact k _ _ _ _ (h p (wg.non np)) (wg.newL np (ra.reps _)) (Ext.newC np) (.ref p)
def dFdiv : D2 := fun x y G Q => match x, y with
  | .int i, .int j => (0 < j ∧ j.natAbs.log2 < 9000) ∧ Q (.int (i / j)) G
  | _, _ => False
theorem o_fdiv : OpD X (binaryOp .FloorDiv) dFdiv := by
  rintro pins s σ H x y v u Q I rx ry ⟨dx, dy, G, P, vx, vy, wg, h, k⟩
  match dx, dy, vx, vy, h with
  | .int i, .int j, .int _, .int _, h => exact op_fdivW pins s σ H _ _ v u Q I rx ry ⟨i, j, rfl, rfl, h.1, op_end wg k h.2 (.int _)⟩
def dMod : D2 := fun x y G Q => match x, y with
  | .int i, .int j => 0 < j ∧ Q (.int (i % j)) G
  | _, _ => False
theorem o_mod : OpD X (binaryOp .Mod) dMod := by
  rintro pins s σ H x y v u Q I rx ry ⟨dx, dy, G, P, vx, vy, wg, h, k⟩
  match dx, dy, vx, vy, h with
  | .int i, .int j, .int _, .int _, h => exact op_mod pins s σ H _ _ v u Q I rx ry ⟨i, j, rfl, rfl, h.1, op_end wg k h.2 (.int _)⟩
def dPow : D2 := fun x y G Q => match x, y with
  | .int i, .int j => (0 ≤ j ∧ j ≤ 1000000 ∧ i.natAbs < 2 ^ 64) ∧ Q (.int (i ^ j.toNat)) G
  | _, _ => False
theorem o_pow : OpD X (binaryOp .Pow) dPow := by
  rintro pins s σ H x y v u Q I rx ry ⟨dx, dy, G, P, vx, vy, wg, h, k⟩
  match dx, dy, vx, vy, h with
  | .int i, .int j, .int _, .int _, h => exact op_pow pins s σ H _ _ v u Q I rx ry ⟨i, j, rfl, rfl, h.1, op_end wg k h.2 (.int _)⟩
/-- comparisons of ints -/
def dCmp (p : Int → Int → Bool) : D2 := fun x y G Q => match x, y with
  | .int i, .int j => Q (.bl (p i j)) G
  | _, _ => False
theorem o_cmp {f : Value → Value → Sem Value} {p : Int → Int → Bool} (o : OpR X f (rI0 fun i j => .bl (p i j))) : OpD X f (dCmp p) := by
  rintro pins s σ H x y v u Q I rx ry ⟨dx, dy, G, P, vx, vy, wg, h, k⟩
  match dx, dy, vx, vy, h with
  | .int i, .int j, .int _, .int _, h => exact o pins s σ H _ _ v u Q I rx ry ⟨i, j, rfl, rfl, op_end wg k h (.bl _)⟩
def dLt : D2 := dCmp fun i j => decide (i < j)
def dLe : D2 := dCmp fun i j => decide (i ≤ j)
def dGt : D2 := dCmp fun i j => decide (j < i)
def dGe : D2 := dCmp fun i j => decide (j ≤ i)
theorem o_lt : OpD X (compareOp .Lt) dLt := o_cmp op_lt
theorem o_le : OpD X (compareOp .LtE) dLe := o_cmp op_le
theorem o_gt : OpD X (compareOp .Gt) dGt := o_cmp op_gt
theorem o_ge : OpD X (compareOp .GtE) dGe := o_cmp op_ge
theorem dec_int {i j : Int} : decide (V.int i = V.int j) = decide (i = j) := by simp
theorem dec_str {i j : Str} : decide (V.str i = V.str j) = decide (i = j) := by simp
theorem dec_bl {i j : Bool} : decide (V.bl i = V.bl j) = decide (i = j) := by simp
/-- equality: numbers, texts, truths, None of one kind at once; else by what is read -/
def dEq (neg : Bool) : D2 := fun x y G Q => match x, y with
  | .int i, .int j => Q (.bl (neg ^^ decide (i = j))) G
  | .str a, .str b => Q (.bl (neg ^^ decide (a = b))) G
  | .bl a, .bl b => Q (.bl (neg ^^ decide (a = b))) G
  | x, y => ∃ d e, DR G x d ∧ DR G y e ∧ SeqAt.shaped d = true ∧ SeqAt.shaped e = true ∧ Q (.bl (neg ^^ PyData.eqv d e)) G
theorem o_eq (hu : X.A.units + 64 < cLine) : OpD X (compareOp .Eq) (dEq false) := by
  rintro pins s σ H x y v u Q I rx ry ⟨dx, dy, G, P, vx, vy, wg, h, k⟩
  have gen : (∃ d e, DR G dx d ∧ DR G dy e ∧ SeqAt.shaped d = true ∧ SeqAt.shaped e = true ∧ P (.bl (false ^^ PyData.eqv d e)) G) → wpAny (model X.prog X.w) X.A (compareOp .Eq v u) (EP X pins σ Q) X.xe s := by
    rintro ⟨d, e, hd, he, sd, se, q⟩
    exact op_eqD hu pins s σ H x y v u Q I rx ry ⟨d, e, hd.dp wg vx, he.dp wg vy, sd, se, op_end wg k q (by rw [Bool.false_xor]; exact .bl _)⟩
  unfold dEq at h
  split at h
  · cases vx; cases vy
    exact op_eq pins s σ H _ _ v u Q I rx ry ⟨rfl, op_end wg k h (by rw [Bool.false_xor, dec_int]; exact .bl _)⟩
  · cases vx; cases vy
    exact op_eq pins s σ H _ _ v u Q I rx ry ⟨rfl, op_end wg k h (by rw [Bool.false_xor, dec_str]; exact .bl _)⟩
  · cases vx; cases vy
    exact op_eq pins s σ H _ _ v u Q I rx ry ⟨rfl, op_end wg k h (by rw [Bool.false_xor, dec_bl]; exact .bl _)⟩
  · exact gen h
theorem o_ne (hu : X.A.units + 64 < cLine) : OpD X (compareOp .NotEq) (dEq true) := by
  rintro pins s σ H x y v u Q I rx ry ⟨dx, dy, G, P, vx, vy, wg, h, k⟩
  have gen : (∃ d e, DR G dx d ∧ DR G dy e ∧ SeqAt.shaped d = true ∧ SeqAt.shaped e = true ∧ P (.bl (true ^^ PyData.eqv d e)) G) → wpAny (model X.prog X.w) X.A (compareOp .NotEq v u) (EP X pins σ Q) X.xe s := by
    rintro ⟨d, e, hd, he, sd, se, q⟩
    exact op_neD hu pins s σ H x y v u Q I rx ry ⟨d, e, hd.dp wg vx, he.dp wg vy, sd, se, op_end wg k q (by rw [Bool.true_xor]; exact .bl _)⟩
  unfold dEq at h
  split at h
  · cases vx; cases vy
    exact op_ne pins s σ H _ _ v u Q I rx ry ⟨rfl, op_end wg k h (by rw [Bool.true_xor, dec_int]; exact .bl _)⟩
  · cases vx; cases vy
    exact op_ne pins s σ H _ _ v u Q I rx ry ⟨rfl, op_end wg k h (by rw [Bool.true_xor, dec_str]; exact .bl _)⟩
  · cases vx; cases vy
    exact op_ne pins s σ H _ _ v u Q I rx ry ⟨rfl, op_end wg k h (by rw [Bool.true_xor, dec_bl]; exact .bl _)⟩
  · exact gen h
def DV.isNon : DV → Bool
  | .non => true
  | _ => false
def dIsN (neg : Bool) : D2 := fun x y G Q => match y with
  | .non => Q (.bl (neg ^^ x.isNon)) G
  | _ => False
theorem VR.isN {K : PySem.W.Frag} {H : Hp} {v : V} {d : DV} (r : VR K H v d) : decide (v = .non) = d.isNon := by
  cases r <;> simp [DV.isNon]
theorem o_is : OpD X (compareOp .Is) (dIsN false) := by
  rintro pins s σ H x y v u Q I rx ry ⟨dx, dy, G, P, vx, vy, wg, h, k⟩
  cases dy <;> first | exact h.elim | skip
  cases vy
  exact op_isN pins s σ H _ _ v u Q I rx ry ⟨rfl, op_end wg k h (by rw [vx.isN, Bool.false_xor]; exact .bl _)⟩
theorem o_isnot : OpD X (compareOp .IsNot) (dIsN true) := by
  rintro pins s σ H x y v u Q I rx ry ⟨dx, dy, G, P, vx, vy, wg, h, k⟩
  cases dy <;> first | exact h.elim | skip
  cases vy
  exact op_notN pins s σ H _ _ v u Q I rx ry ⟨rfl, op_end wg k h (by rw [vx.isN, Bool.true_xor]; exact .bl _)⟩
/-- membership: among flat items -/
def DV.flat : DV → Bool
  | .non | .bl _ | .int _ | .str _ => true
  | _ => false
def DV.same : DV → DV → Bool
  | .non, .non => true
  | .bl a, .bl b => a == b
  | .bl a, .int b => (if a then 1 else 0) == b
  | .int a, .bl b => a == (if b then 1 else 0)
  | .int a, .int b => a == b
  | .str a, .str b => a == b
  | _, _ => false
theorem VR.flatV {K : PySem.W.Frag} {H : Hp} {v : V} {d : DV} (r : VR K H v d) (f : d.flat = true) : L2.flatV v = true := by
  cases r <;> first | rfl | exact absurd f Bool.false_ne_true
theorem VR.same {K : PySem.W.Frag} {H : Hp} {v u : V} {d e : DV} (r : VR K H v d) (q : VR K H u e) (f : d.flat = true) (g : e.flat = true) : L2.eqV v u = d.same e := by
  cases r <;> cases q <;> first | rfl | exact absurd f Bool.false_ne_true | exact absurd g Bool.false_ne_true
theorem VRs.flatV {K : PySem.W.Frag} {H : Hp} : ∀ {vs : List V} {ds : List DV}, VRs K H vs ds → ds.all DV.flat = true → vs.all L2.flatV = true
  | _, _, .nil, _ => rfl
  | _, _, .cons r t, f => by
    rw [List.all_cons, Bool.and_eq_true] at f
    rw [List.all_cons, r.flatV f.1, VRs.flatV t f.2]; rfl
theorem VRs.inV {K : PySem.W.Frag} {H : Hp} {v : V} {d : DV} (r : VR K H v d) (f : d.flat = true) : ∀ {vs : List V} {ds : List DV}, VRs K H vs ds → ds.all DV.flat = true → L2.inV v vs = ds.any fun e => e.same d
  | _, _, .nil, _ => rfl
  | _, _, .cons q t, g => by
    rw [List.all_cons, Bool.and_eq_true] at g
    have ih := VRs.inV r f t g.2
    unfold L2.inV at ih ⊢
    rw [List.any_cons, List.any_cons, ih, q.same r g.1 f]
def dIn (neg : Bool) : D2 := fun x y G Q => match y with
  | .kt l => x.flat = true ∧ l.all DV.flat = true ∧ Q (.bl (neg ^^ l.any fun e => e.same x)) G
  | .tup l => x.flat = true ∧ l.all DV.flat = true ∧ Q (.bl (neg ^^ l.any fun e => e.same x)) G
  | .ref a => ∃ l, G a = some (.lst l) ∧ x.flat = true ∧ l.all DV.flat = true ∧ Q (.bl (neg ^^ l.any fun e => e.same x)) G
  | .str z => ∃ c, x = .str ⟨#[c]⟩ ∧ Q (.bl (neg ^^ decide (c ∈ z.cps.toList))) G
  | _ => False
theorem SqT.kn {K : PySem.W.Frag} {H : Hp} {a : Addr} {xs : List V} (h : SqT K (fun _ => none) a xs) : SqT K H a xs := by
  rcases h with (h | ⟨o, h⟩) | h
  · cases h
  · cases h
  · exact .inr h
theorem o_in : OpD X (compareOp .In) (dIn false) := by
  rintro pins s σ H x y v u Q I rx ry ⟨dx, dy, G, P, vx, vy, wg, h, k⟩
  match dy, vy, h with
  | .kt l, .kt sq rs, ⟨f, g, h⟩ => exact op_in_seq pins s σ H _ _ v u Q I rx ry ⟨_, _, rfl, .inr sq.sq, vx.flatV f, rs.flatV g, op_end wg k h (by rw [if_neg Bool.false_ne_true, VRs.inV vx f rs g, Bool.false_xor]; exact .bl _)⟩
  | .tup l, .tup sq rs, ⟨f, g, h⟩ => exact op_in_seq pins s σ H _ _ v u Q I rx ry ⟨_, _, rfl, .inr (SqT.of sq), vx.flatV f, rs.flatV g, op_end wg k h (by rw [if_neg Bool.false_ne_true, VRs.inV vx f rs g, Bool.false_xor]; exact .bl _)⟩
  | .ref a, .ref _, ⟨l, e, f, g, h⟩ =>
    obtain ⟨xs, e2, rs⟩ := wg _ _ e
    exact op_in_seq pins s σ H _ _ v u Q I rx ry ⟨_, _, rfl, .inl (SqL.of e2), vx.flatV f, rs.flatV g, op_end wg k h (by rw [if_neg Bool.false_ne_true, VRs.inV vx f rs g, Bool.false_xor]; exact .bl _)⟩
  | .str z, .str _, ⟨c, e, hq⟩ =>
    subst e
    cases vx
    exact op_in_sign pins s σ H _ _ v u Q I rx ry ⟨c, z, rfl, rfl, op_end wg k hq (by rw [Bool.false_xor]; exact .bl _)⟩
theorem o_notin : OpD X (compareOp .NotIn) (dIn true) := by
  rintro pins s σ H x y v u Q I rx ry ⟨dx, dy, G, P, vx, vy, wg, h, k⟩
  match dy, vy, h with
  | .kt l, .kt sq rs, ⟨f, g, h⟩ => exact op_notIn_seq pins s σ H _ _ v u Q I rx ry ⟨_, _, rfl, .inr sq.sq, vx.flatV f, rs.flatV g, op_end wg k h (by rw [if_pos rfl, VRs.inV vx f rs g, Bool.true_xor]; exact .bl _)⟩
  | .tup l, .tup sq rs, ⟨f, g, h⟩ => exact op_notIn_seq pins s σ H _ _ v u Q I rx ry ⟨_, _, rfl, .inr (SqT.of sq), vx.flatV f, rs.flatV g, op_end wg k h (by rw [if_pos rfl, VRs.inV vx f rs g, Bool.true_xor]; exact .bl _)⟩
  | .ref a, .ref _, ⟨l, e, f, g, h⟩ =>
    obtain ⟨xs, e2, rs⟩ := wg _ _ e
    exact op_notIn_seq pins s σ H _ _ v u Q I rx ry ⟨_, _, rfl, .inl (SqL.of e2), vx.flatV f, rs.flatV g, op_end wg k h (by rw [if_pos rfl, VRs.inV vx f rs g, Bool.true_xor]; exact .bl _)⟩
  | .str z, .str _, ⟨c, e, hq⟩ =>
    subst e
    cases vx
    exact op_notIn_sign pins s σ H _ _ v u Q I rx ry ⟨c, z, rfl, rfl, op_end wg k hq (by rw [Bool.true_xor]; exact .bl _)⟩
/-- -a -/
def wNeg (wa : DE) : DE := fun Y env G Q => wa Y env G fun x G1 => match x with | .int i => Q (.int (-i)) G1 | _ => False
theorem q_neg {W : WX} {a : Expr} {wa : DE} {pos : Pos} (ha : QE X W a wa) : QE X W (.UnaryOp .USub a pos) (wNeg wa) :=
  ⟨PE.wk (pe_un un_neg ha.pe) fun σ H Q ⟨Y, env, G, P, er, wg, h, k, kx⟩ => ⟨Y, env, G, _, er, wg, h, fun d G1 v H1 h1 w1 x1 r => by
    cases d <;> first | exact h1.elim | skip
    cases r
    exact ⟨_, rfl, k _ _ _ _ h1 w1 x1 (.int _)⟩, kx⟩⟩
end
end DL

namespace DL
open PySem PySem.Spec L2
open PyProof.Rows hiding St

/-! ### places, slices -/
theorem VRs.atI {K : PySem.W.Frag} {H : Hp} {vs : List V} {ds : List DV} {i : Int} {d : DV} (r : VRs K H vs ds) (h : L2.atI ds i = some d) : ∃ v, L2.atI vs i = some v ∧ VR K H v d := by
  unfold L2.atI at h ⊢
  rw [r.len]
  cases q : ixN ds.length i with
  | none => rw [q] at h; cases h
  | some j =>
    rw [q] at h
    obtain ⟨v, e, rv⟩ := r.get (i := j) h
    exact ⟨v, e, rv⟩
def IxD (X : Cx) (r : D2) : Prop := IxR X (lift2 X.K r)
section
variable {X : Cx} {W : WX} {a b e o : Expr} {es : List Expr} {wa wb : DE} {wr : DA} {pos p2 : Pos}
theorem q_ix {r : D2} (hr : IxD X r) (ha : QE X W a wa) (hb : QE X W b wb) (hs : PlainIx b := by exact fun _ _ => rfl) : QE X W (.Subscript a b pos) (wOp r wa wb) :=
  ⟨PE.wk (pe_ix hr ha.pe hb.pe hs) fun _ _ _ h => two_parts h⟩
def dIx : D2 := fun x y G Q => match x, y with
  | .tup l, .int i => ∃ d, atI l i = some d ∧ Q d G
  | .ro l, .int i => ∃ d, atI l i = some d ∧ Q d G
  | .ref a, .int i => ∃ l d, G a = some (.lst l) ∧ atI l i = some d ∧ Q d G
  | .str z, .int i => z.length ≤ sizeLine ∧ ∃ c, atI z.cps.toList i = some c ∧ Q (.str ⟨#[c]⟩) G
  | _, _ => False
theorem o_ix : IxD X dIx := by
  rintro value slice pins s σ H x y v u Q I rx ry ⟨dx, dy, G, P, vx, vy, wg, h, k⟩ hs
  match dx, dy, vx, vy, h with
  | .tup l, .int i, .tup sq rs, .int _, ⟨d, e, h⟩ =>
    obtain ⟨w, e2, r⟩ := rs.atI e
    exact ix_tup value slice pins s σ H _ _ v u Q I rx ry ⟨_, _, i, w, rfl, rfl, (SqT.of sq), e2, op_end wg k h r⟩ hs
  | .ro l, .int i, .ro sq rs, .int _, ⟨d, e, h⟩ =>
    obtain ⟨w, e2, r⟩ := rs.atI e
    exact ix_list value slice pins s σ H _ _ v u Q I rx ry ⟨_, _, i, w, rfl, rfl, sq.sq, e2, op_end wg k h r⟩ hs
  | .ref a, .int i, .ref _, .int _, ⟨l, d, ga, e, h⟩ =>
    obtain ⟨xs, ha, rs⟩ := wg _ _ ga
    obtain ⟨w, e2, r⟩ := rs.atI e
    exact ix_list value slice pins s σ H _ _ v u Q I rx ry ⟨_, _, i, w, rfl, rfl, SqL.of ha, e2, op_end wg k h r⟩ hs
  | .str z, .int i, .str _, .int _, ⟨hz, c, e, h⟩ => exact ix_str value slice pins s σ H _ _ v u Q I rx ry ⟨z, i, c, rfl, rfl, hz, e, op_end wg k h (.str _)⟩ hs
/-- the items lo .. hi -/
def cutL {α : Type} (xs : List α) (lo hi : Option Int) : List α := (xs.drop (HT.sIx xs.length 0 lo)).take (HT.sIx xs.length xs.length hi - HT.sIx xs.length 0 lo)
theorem VRs.cut {K : PySem.W.Frag} {H : Hp} {vs : List V} {ds : List DV} (r : VRs K H vs ds) (lo hi : Option Int) : VRs K H (cutV vs lo hi) (cutL ds lo hi) := by
  unfold cutV cutL
  rw [r.len]
  exact (r.drop _).take _
theorem cutL_whole {α : Type} {xs : List α} {lo hi : Option Int} (h : HT.sIx xs.length 0 lo = 0 ∧ HT.sIx xs.length xs.length hi = xs.length) : cutL xs lo hi = xs := by
  unfold cutL
  rw [h.1, h.2, List.drop_zero, Nat.sub_zero, List.take_length]
abbrev DO := DX → Dv → Gh → (Option Int → Gh → Prop) → Prop
def TOl (K : PySem.W.Frag) (W : WX) (w : DO) : TO := fun σ H Q => ∃ (Y : DX) (env : Dv) (G : Gh) (P : Option Int → Gh → Prop), ER K H σ env ∧ WG K G H ∧ w Y env G P ∧
  (∀ i G' H', P i G' → WG K G' H' → Ext G H G' H' → Q i H') ∧ XLe K G H Y fun c d => W c d σ
structure QO (X : Cx) (W : WX) (e : Option Expr) (w : DO) : Prop where
  po : PO X e (TOl X.K W w)
theorem PO.wk {e : Option Expr} {t t' : TO} (h : PO X e t) (i : ∀ σ H Q, t' σ H Q → t σ H Q) : PO X e t' := ⟨fun a b c d q I z => h.run a b c d q I (i _ _ _ z)⟩
def wNoPart : DO := fun _ _ G Q => Q none G
def wPart (w : DE) : DO := fun Y env G Q => w Y env G fun d G1 => match d with | .int i => Q (some i) G1 | _ => False
theorem qo_none : QO X W none wNoPart := ⟨PO.wk po_none fun σ H Q ⟨Y, env, G, P, er, wg, h, k, kx⟩ => k _ _ _ h wg Ext.refl⟩
theorem qo_some (h : QE X W e wa) : QO X W (some e) (wPart wa) := ⟨PO.wk (po_some h.pe) fun σ H Q ⟨Y, env, G, P, er, wg, h, k, kx⟩ => ⟨Y, env, G, _, er, wg, h, fun d G1 v H1 h1 w1 x1 r => by
  cases d <;> first | exact h1.elim | skip
  cases r
  exact ⟨_, rfl, k _ _ _ h1 w1 x1⟩, kx⟩⟩
abbrev DSl := DV → Option Int → Option Int → Gh → (DV → Gh → Prop) → Prop
def liftS (K : PySem.W.Frag) (r : DSl) : V → Option Int → Option Int → Hp → VK → Prop := fun x lo hi H Q => ∃ dx G P, VR K H x dx ∧ WG K G H ∧ r dx lo hi G P ∧ ∀ d G' v H', P d G' → WG K G' H' → Ext G H G' H' → VR K H' v d → Q v H'
def SlD (X : Cx) (r : DSl) : Prop := SlR X (liftS X.K r)
def wSl (r : DSl) (we : DE) (wl wh : DO) : DE := fun Y env G Q => we Y env G fun x G1 => wl Y env G1 fun l G2 => wh Y env G2 fun u G3 => r x l u G3 Q
theorem q_slice {r : DSl} {lo hi : Option Expr} {wl wh : DO} (hr : SlD X r) (he : QE X W e wa) (hl : QO X W lo wl) (hu : QO X W hi wh) : QE X W (.Subscript e (.Slice lo hi none p2) pos) (wSl r wa wl wh) :=
  ⟨PE.wk (pe_slice hr he.pe hl.po hu.po) fun σ H Q ⟨Y, env, G, P, er, wg, h, k, kx⟩ => ⟨Y, env, G, _, er, wg, h, fun x G1 v H1 h1 w1 x1 r1 => ⟨Y, env, G1, _, er.ext wg x1, w1, h1, fun l G2 H2 h2 w2 x2 =>
    ⟨Y, env, G2, _, (er.ext wg x1).ext w1 x2, w2, h2, fun u G3 H3 h3 w3 x3 => ⟨x, G3, P, r1.ext w1 (x2.trans x3), w3, h3, fun d G' v' H' p w' x' r' => k d G' v' H' p w' (((x1.trans x2).trans x3).trans x') r'⟩, kx.step (x1.trans x2)⟩, kx.step x1⟩, kx⟩⟩
def dSl : DSl := fun x lo hi G Q => match x with
  | .tup l => Q (.tup (cutL l lo hi)) G
  | .ro l => ∀ p, G p = none → Q (.ref p) (gup G p (.lst (cutL l lo hi)))
  | .ref a => ∃ l, G a = some (.lst l) ∧ ∀ p, G p = none → Q (.ref p) (gup G p (.lst (cutL l lo hi)))
  | .str z => z.length ≤ sizeLine ∧ Q (.str (cutS z lo hi)) G
  | _ => False
theorem o_sl : SlD X dSl := by
  rintro pins s σ H x v vl vu lo hi sl Q I rx hs pl pu ⟨dx, G, P, vx, wg, h, k⟩
  match dx, vx, h with
  | .tup l, .tup sq rs, h =>
    refine sl_tupA pins s σ H _ v vl vu lo hi sl Q I rx hs pl pu ⟨_, _, rfl, (SqT.of sq), fun hw => ?_, fun _ p np => ?_⟩
    · rw [rs.len] at hw
      have h' : P (.tup l) G := by rw [← cutL_whole hw]; exact h
      exact op_end wg k h' (.tup sq rs)
    · exact k _ _ _ _ h (wg.new np) (Ext.new np) (VR.newT wg np (rs.cut lo hi))
  | .ro l, .ro sq rs, h => exact sl_list pins s σ H _ v vl vu lo hi sl Q I rx hs pl pu ⟨_, _, rfl, sq.sq, fun p np => k _ _ _ _ (h p (wg.non np)) (wg.newL np (rs.cut lo hi)) (Ext.newC np) (.ref p)⟩
  | .ref a, .ref _, ⟨l, ga, h⟩ =>
    obtain ⟨xs, ha, rs⟩ := wg _ _ ga
    exact sl_list pins s σ H _ v vl vu lo hi sl Q I rx hs pl pu ⟨_, _, rfl, SqL.of ha, fun p np => k _ _ _ _ (h p (wg.non np)) (wg.newL np (rs.cut lo hi)) (Ext.newC np) (.ref p)⟩
  | .str z, .str _, ⟨hz, h⟩ => exact sl_str pins s σ H _ v vl vu lo hi sl Q I rx hs pl pu ⟨z, rfl, hz, op_end wg k h (.str _)⟩

/-! ### stores into lists -/
def dSet : D3 := fun o i v G Q => match o, i with
  | .ref a, .int k => ∃ l j, G a = some (.lst l) ∧ ixN l.length k = some j ∧ Q (gup G a (.lst (l.set j v)))
  | _, _ => False
theorem o_set : SetD X dSet := by
  rintro pins s σ H o i v ov iv u Q I ro ri rv ⟨dv, dx, dy, G, P, vo, vi, vv, wg, h, k⟩
  match dv, dx, vo, vi, h with
  | .ref a, .int n, .ref _, .int _, ⟨l, j, ga, hj, h⟩ =>
    obtain ⟨xs, ha, rs⟩ := wg _ _ ga
    refine set_list pins s σ H _ _ v ov iv u Q I ro ri rv ⟨a, xs, n, j, rfl, rfl, ha, by rw [rs.len]; exact hj, ?_⟩
    exact k _ _ h (wg.setL ga (rs.set vv j)) (Ext.setC ga)

/-! ### methods of lists, tuples, texts -/
abbrev DM := DV → List DV → Gh → (DV → Gh → Prop) → Prop
def liftM (K : PySem.W.Frag) (r : DM) : V → List V → Hp → VK → Prop := fun x xs H Q => ∃ dx ds G P, VR K H x dx ∧ VRs K H xs ds ∧ WG K G H ∧ r dx ds G P ∧ ∀ d G' v H', P d G' → WG K G' H' → Ext G H G' H' → VR K H' v d → Q v H'
def MtD (X : Cx) (id : String) (r : DM) : Prop := MtR X id (liftM X.K r)
/-- a list by its address, a text -/
def tyD (T : String) (d : DV) (G : Gh) : Prop := match d with
  | .ref a => (T = "list" ∧ ∃ l, G a = some (.lst l)) ∨ (T = "dict" ∧ ((∃ l, G a = some (.dic l)) ∨ ∃ l, G a = some (.dt l)))
  | .ro _ => T = "list"
  | .str _ => T = "str"
  | _ => False
theorem tyD.ok {K : PySem.W.Frag} {H : Hp} {G : Gh} {T : String} {d : DV} {v : V} (h : tyD T d G) (wg : WG K G H) (r : VR K H v d) : tyV K T v H := by
  cases r <;> first | exact h.elim | skip
  · exact h
  · rcases h with ⟨rfl, l, e⟩ | ⟨rfl, ⟨l, e⟩ | ⟨l, e⟩⟩
    · obtain ⟨xs, e2, _⟩ := wg _ _ e
      exact .inl ⟨rfl, _, SqL.of e2⟩
    · obtain ⟨xs, e2, _⟩ := wg _ _ e
      exact .inr (.inr (.inl ⟨rfl, .inl ⟨_, e2⟩⟩))
    · obtain ⟨xs, e2, _⟩ := wg _ _ e
      exact .inr (.inr (.inl ⟨rfl, .inr ⟨_, e2⟩⟩))
  · rename_i rl _
    exact .inl ⟨h, _, rl.sq⟩
def wBM (T : String) (r : DM) (wo : DE) (wr : DA) : DE := fun Y env G Q => wo Y env G fun x G1 => tyD T x G1 ∧ wr Y env G1 fun xs G2 => r x xs G2 Q
theorem q_bm {name : Str} {apos cpos : Pos} {T id : String} {r : DM} (pa : PlainAttrs T) (slot : Slot T name id) (hty : typeOf (.builtin id) = pure (.type "method_descriptor")) (hm : MtD X id r) (ho : QE X W o wa) (ha : QA X W (e :: es) wr)
    (hbase : attributeBase o name X.env (eval o X.env) = eval o X.env := by rfl)
    (hfew : ((backTo cpos (starEach (e :: es) X.env)).all (fun x => !x.1) && (backToKw cpos (keywordEach [] X.env)).all (fun x => x.1.isSome) && decide ((e :: es).length + ([] : List Keyword).length + (if ([] : List Keyword).isEmpty then 0 else 1) < 30)) = true := by rfl)
    (hline : (apos.endLine == cpos.line) = true := by rfl) (hs : starEach (e :: es) X.env = (false, eval e X.env) :: starEach es X.env := by rfl) (hplain : (backTo cpos (starEach es X.env)).any (·.1) = false := by rfl) :
    QE X W (.Call (.Attribute o name apos) (e :: es) [] cpos) (wBM T r wa wr) :=
  ⟨PE.wk (pe_bm pa slot hty hm ho.pe ha.pa hbase hfew hline hs hplain) fun σ H Q ⟨Y, env, G, P, er, wg, h, k, kx⟩ => ⟨Y, env, G, _, er, wg, h, fun x G1 v H1 ⟨t1, h1⟩ w1 x1 r1 =>
    ⟨t1.ok w1 r1, Y, env, G1, _, er.ext wg x1, w1, h1, fun ds G2 vs H2 h2 w2 x2 r2 => ⟨x, ds, G2, P, r1.ext w1 x2, r2, w2, h2, fun d G' v' H' p w' x' r' => k d G' v' H' p w' ((x1.trans x2).trans x') r'⟩, kx.step x1⟩, kx⟩⟩
def wBM0 (T : String) (r : DM) (wo : DE) : DE := fun Y env G Q => wo Y env G fun x G1 => tyD T x G1 ∧ r x [] G1 Q
theorem q_bm0 {name : Str} {apos cpos : Pos} {T id : String} {r : DM} (pa : PlainAttrs T) (slot : Slot T name id) (hty : typeOf (.builtin id) = pure (.type "method_descriptor")) (hm : MtD X id r) (ho : QE X W o wa)
    (hbase : attributeBase o name X.env (eval o X.env) = eval o X.env := by rfl) (hline : (apos.endLine == cpos.line) = true := by rfl) : QE X W (.Call (.Attribute o name apos) [] [] cpos) (wBM0 T r wa) :=
  ⟨PE.wk (pe_bm0 pa slot hty hm ho.pe hbase hline) fun σ H Q ⟨Y, env, G, P, er, wg, h, k, kx⟩ => ⟨Y, env, G, _, er, wg, h, fun x G1 v H1 ⟨t1, h1⟩ w1 x1 r1 =>
    ⟨t1.ok w1 r1, x, [], G1, P, r1, .nil, w1, h1, fun d G' v' H' p w' x' r' => k d G' v' H' p w' (x1.trans x') r'⟩, kx⟩⟩
def dAppend : DM := fun x ds G Q => match x, ds with
  | .ref a, [d] => ∃ l, G a = some (.lst l) ∧ l.length < sizeLine ∧ Q .non (gup G a (.lst (l ++ [d])))
  | _, _ => False
theorem m_append : MtD X "list.append" dAppend := by
  rintro pins s σ H x xs v us Q I rx rs ⟨dx, ds, G, P, vx, vs, wg, h, k⟩
  match dx, ds, vx, vs, h with
  | .ref a, [d], .ref _, .cons r .nil, ⟨l, ga, hl, h⟩ =>
    obtain ⟨ys, ha, ra⟩ := wg _ _ ga
    exact mt_append pins s σ H _ _ v us Q I rx rs ⟨a, ys, _, rfl, rfl, ha, by rw [ra.len]; exact hl, k _ _ _ _ h (wg.setL ga (ra.app (.one r))) (Ext.setC ga) .non⟩
def dExtend : DM := fun x ds G Q => match x, ds with
  | .ref a, [.ref b] => ∃ l m, G a = some (.lst l) ∧ G b = some (.lst m) ∧ l.length + m.length ≤ sizeLine ∧ Q .non (gup G a (.lst (l ++ m)))
  | _, _ => False
theorem m_extend : MtD X "list.extend" dExtend := by
  rintro pins s σ H x xs v us Q I rx rs ⟨dx, ds, G, P, vx, vs, wg, h, k⟩
  match dx, ds, vx, vs, h with
  | .ref a, [.ref b], .ref _, .cons (.ref _) .nil, ⟨l, m, ga, gb, hl, h⟩ =>
    obtain ⟨ys, ha, ra⟩ := wg _ _ ga
    obtain ⟨zs, hb, rb⟩ := wg _ _ gb
    exact mt_extend pins s σ H _ _ v us Q I rx rs ⟨a, b, ys, zs, rfl, rfl, ha, hb, by rw [ra.len, rb.len]; exact hl, k _ _ _ _ h (wg.setL ga (ra.app rb)) (Ext.setC ga) .non⟩
def dReverse : DM := fun x ds G Q => match x, ds with
  | .ref a, [] => ∃ l, G a = some (.lst l) ∧ Q .non (gup G a (.lst l.reverse))
  | _, _ => False
theorem m_reverse : MtD X "list.reverse" dReverse := by
  rintro pins s σ H x xs v us Q I rx rs ⟨dx, ds, G, P, vx, vs, wg, h, k⟩
  match dx, ds, vx, vs, h with
  | .ref a, [], .ref _, .nil, ⟨l, ga, h⟩ =>
    obtain ⟨ys, ha, ra⟩ := wg _ _ ga
    exact mt_reverse pins s σ H _ _ v us Q I rx rs ⟨a, ys, rfl, rfl, ha, k _ _ _ _ h (wg.setL ga ra.rev) (Ext.setC ga) .non⟩
def dPop : DM := fun x ds G Q => match x, ds with
  | .ref a, [] => ∃ l d, G a = some (.lst l) ∧ l[l.length - 1]? = some d ∧ Q d (gup G a (.lst l.dropLast))
  | .ref a, [.int i] => ∃ l n d, G a = some (.lst l) ∧ -(2 ^ 63) ≤ i ∧ i < 2 ^ 63 ∧ seqIndex? i l.length = some n ∧ l[n]? = some d ∧ Q d (gup G a (.lst (l.eraseIdx n)))
  | _, _ => False
theorem m_pop : MtD X "list.pop" dPop := by
  rintro pins s σ H x xs v us Q I rx rs ⟨dx, ds, G, P, vx, vs, wg, h, k⟩
  match dx, ds, vx, vs, h with
  | .ref a, [], .ref _, .nil, ⟨l, d, ga, hd, h⟩ =>
    obtain ⟨ys, ha, ra⟩ := wg _ _ ga
    rw [← ra.len] at hd
    obtain ⟨w, e, r⟩ := ra.get hd
    exact mt_pop pins s σ H _ _ v us Q I rx rs ⟨a, ys, w, rfl, rfl, ha, e, k _ _ _ _ h (wg.setL ga ra.dropLast) (Ext.setC ga) (r.ext wg (Ext.setC (c' := .lst []) ga))⟩
  | .ref a, [.int i], .ref _, .cons (.int _) .nil, ⟨l, n, d, ga, i1, i2, hn, hd, h⟩ =>
    obtain ⟨ys, ha, ra⟩ := wg _ _ ga
    obtain ⟨w, e, r⟩ := ra.get hd
    exact mt_popAt pins s σ H _ _ v us Q I rx rs ⟨a, ys, i, n, w, rfl, rfl, ha, i1, i2, by rw [ra.len]; exact hn, e, k _ _ _ _ h (wg.setL ga (ra.eraseIdx n)) (Ext.setC ga) (r.ext wg (Ext.setC (c' := .lst []) ga))⟩

/-! ### built-in functions -/
def lenD (d : DV) (G : Gh) (Q : Nat → Prop) : Prop := match d with
  | .tup l => Q l.length
  | .ro l => Q l.length
  | .str z => z.length ≤ sizeLine ∧ Q z.length
  | .ref a => ∃ l, G a = some (.lst l) ∧ Q l.length
  | _ => False
def dLen : DC := fun ds G Q => match ds with
  | [d] => lenD d G fun n => Q (.int n) G
  | _ => False
theorem c_len : CallD X (.builtin "len") dLen := by
  rintro pins s σ H xs us Q I rs ⟨ds, G, P, vs, wg, h, k⟩
  cases vs with
  | nil => exact h.elim
  | cons r t =>
    cases t with
    | cons => exact h.elim
    | nil =>
      cases r <;> first | exact h.elim | skip
      · exact call_len pins s σ H _ us Q I rs ⟨_, _, rfl, ⟨h.1, rfl⟩, op_end wg k h.2 (.int _)⟩
      · obtain ⟨l, ga, h⟩ := h
        obtain ⟨ys, ha, r⟩ := wg _ _ ga
        exact call_len pins s σ H _ us Q I rs ⟨_, l.length, rfl, .inl ⟨_, SqL.of ha, r.len.symm⟩, op_end wg k h (.int _)⟩
      · rename_i sq r
        exact call_len pins s σ H _ us Q I rs ⟨_, _, rfl, .inr ⟨_, (SqT.of sq), r.len.symm⟩, op_end wg k h (.int _)⟩
      · rename_i sq r
        exact call_len pins s σ H _ us Q I rs ⟨_, _, rfl, .inl ⟨_, sq.sq, r.len.symm⟩, op_end wg k h (.int _)⟩
/-- a list's items -/
def itemsD (d : DV) (G : Gh) (Q : List DV → Prop) : Prop := match d with
  | .ro l => Q l
  | .ref a => ∃ l, G a = some (.lst l) ∧ Q l
  | _ => False
theorem itemsD.sq {K : PySem.W.Frag} {H : Hp} {G : Gh} {d : DV} {v : V} {Q : List DV → Prop} (wg : WG K G H) (r : VR K H v d) (h : itemsD d G Q) : ∃ a xs l, v = .ref a ∧ SqL K H a xs ∧ VRs K H xs l ∧ Q l := by
  cases r <;> first | exact h.elim | skip
  · obtain ⟨l, e, q⟩ := h
    obtain ⟨xs, e2, rr⟩ := wg _ _ e
    exact ⟨_, xs, l, rfl, SqL.of e2, rr, q⟩
  · rename_i rl rr
    exact ⟨_, _, _, rfl, rl.sq, rr, h⟩
/-! sum, max, min of a tuple -/
namespace TupRaw
variable {prog : Program} {w : World} {A : Around} {E : Value → Shared → Prop} {s : Shared} {l : Addr} {its : List Value} {ns : List Int} {Q : Value → Shared → Prop}
theorem iterT {xs : Array Value} {Q : Value → Shared → Prop} (hl : s.heap.IsTuple l xs)
    (h : ∀ s₂ : Shared, s₂ = { s with heap := s.heap.push { cls := .type "tuple_iterator", data := .fields #[.ref l, .int 0 0] } } →
      (s₂.heap.IsTupleIter s.heap.objs.size l 0 ∧ s₂.heap.IsTuple l xs) → (∀ b ∈ [s.heap.objs.size, l], b < s₂.heap.objs.size) → l ≠ s.heap.objs.size → Q (.ref s.heap.objs.size) s₂) :
    wpAny (model prog w) A (pyIter (.ref l)) Q E s := by
  have hlt : l < s.heap.objs.size := by obtain ⟨_, e, _⟩ := hl; exact Heap.lt_size e
  refine wpAny_pyIter_tuple hl (h _ rfl ⟨⟨_, Heap.get?_push_size _ rfl, rfl, rfl⟩, ?_⟩ (fun b hb => ?_) (Nat.ne_of_lt hlt))
  · obtain ⟨o, ho, r⟩ := hl
    exact ⟨o, Heap.get?_push_of_some _ ho, r⟩
  show b < (s.heap.push _).objs.size
  rw [Heap.size_push]
  rcases List.mem_cons.mp hb with rfl | hb
  · exact Nat.lt_succ_self _
  · rcases List.mem_cons.mp hb with rfl | hb
    · exact Nat.lt_succ_of_lt hlt
    · cases hb
theorem oldT {h' : Heap} (hk : ∀ b o, b ∉ [s.heap.objs.size] → (s.heap.push { cls := .type "tuple_iterator", data := .fields #[.ref l, .int 0 0] }).get? b = some o → h'.get? b = some o) :
    ∀ b o, s.heap.get? b = some o → h'.get? b = some o := fun b o e => by
  refine hk b o (fun hm => ?_) (Heap.get?_push_of_some _ e)
  rcases List.mem_cons.mp hm with e1 | hm
  · exact absurd (e1 ▸ Heap.lt_size e) (Nat.lt_irrefl _)
  · cases hm
theorem sumT {xs : Array (Int × Tok)} (hh : A.handled = none) (hl : s.heap.IsTuple l (intItems xs))
    (h : ∀ h' tk t', (∀ b o, s.heap.get? b = some o → h'.get? b = some o) → Q (.int (preSum (numAt xs) xs.size) t') { s with heap := h', toks := tk }) :
    wpAny (model prog w) A (call (.builtin "sum") [.ref l]) Q E s := by
  refine call_sum_walkG (iterT hl fun s₂ e st hfp hlI => ?_)
  subst e
  refine ⟨_, _, _, _, _, _, numAt xs, rfl, Walks.tuple (A := A.in1) hh _ l hlI (intItems xs), st, hfp, (fun _ _ => intItems_at), fun h' tk t' hk => ?_⟩
  have := h h' tk t' (oldT hk)
  simpa [intItems] using this
theorem maxT {xs : Array (Int × Tok)} (hh : A.handled = none) (hl : s.heap.IsTuple l (intItems xs)) (hne : 0 < xs.size)
    (h : ∀ v h' tk, (intItems xs)[argBest (fun i j => decide (numAt xs i > numAt xs j)) (xs.size - 1)]? = some v → (∀ b o, s.heap.get? b = some o → h'.get? b = some o) → Q v { s with heap := h', toks := tk }) :
    wpAny (model prog w) A (call (.builtin "max") [.ref l]) Q E s := by
  refine call_max_walk (iterT hl fun s₂ e st hfp hlI => ?_)
  subst e
  refine ⟨_, _, _, _, _, _, _, rfl, Walks.tuple (A := A.in1) hh _ l hlI (intItems xs), st, hfp, by simpa [intItems] using hne, CmpOf.ints_gt (numAt xs) (fun _ _ => intItems_at), fun v h' tk hP hk => ?_⟩
  exact h v h' tk (by simpa [intItems] using hP) (oldT hk)
theorem minT {xs : Array (Int × Tok)} (hh : A.handled = none) (hl : s.heap.IsTuple l (intItems xs)) (hne : 0 < xs.size)
    (h : ∀ v h' tk, (intItems xs)[argBest (fun i j => decide (numAt xs i < numAt xs j)) (xs.size - 1)]? = some v → (∀ b o, s.heap.get? b = some o → h'.get? b = some o) → Q v { s with heap := h', toks := tk }) :
    wpAny (model prog w) A (call (.builtin "min") [.ref l]) Q E s := by
  refine call_min_walk (iterT hl fun s₂ e st hfp hlI => ?_)
  subst e
  refine ⟨_, _, _, _, _, _, _, rfl, Walks.tuple (A := A.in1) hh _ l hlI (intItems xs), st, hfp, by simpa [intItems] using hne, CmpOf.ints_lt (numAt xs) (fun _ _ => intItems_at), fun v h' tk hP hk => ?_⟩
  exact h v h' tk (by simpa [intItems] using hP) (oldT hk)
theorem sum_rawT (hh : A.handled = none) (hl : s.heap.IsTuple l its.toArray) (hi : IntsAre its ns)
    (h : ∀ h' tk t', (∀ b o, s.heap.get? b = some o → h'.get? b = some o) → Q (.int ns.sum t') { s with heap := h', toks := tk }) : wpAny (model prog w) A (call (.builtin "sum") [.ref l]) Q E s := by
  obtain ⟨xs, e⟩ := hi.allInts.items
  have hn : numsOf (intItems xs).toList = ns := by rw [← e]; exact hi.numsOf
  rw [nums_intItems] at hn
  rw [e] at hl
  refine sumT hh hl fun h' tk t' hk => ?_
  have := h h' tk t' hk
  rw [preSum_eq, List.take_of_length_le (by simp), hn]; exact this
theorem max_rawT (hh : A.handled = none) (hl : s.heap.IsTuple l its.toArray) (hi : IntsAre its ns) (hne : 0 < ns.length)
    (h : ∀ h' tk M t', (∀ b o, s.heap.get? b = some o → h'.get? b = some o) → M ∈ ns → (∀ a, a ∈ ns → a ≤ M) → Q (.int M t') { s with heap := h', toks := tk }) : wpAny (model prog w) A (call (.builtin "max") [.ref l]) Q E s := by
  obtain ⟨xs, e⟩ := hi.allInts.items
  have hn : numsOf (intItems xs).toList = ns := by rw [← e]; exact hi.numsOf
  rw [nums_intItems] at hn
  subst hn
  rw [e] at hl
  have hsz : 0 < xs.size := by simpa using hne
  refine maxT hh hl hsz fun v h' tk hv hk => ?_
  obtain ⟨t, rfl⟩ := intItems_at hv
  obtain ⟨h1, h2⟩ := argBest_gt (numAt xs) (xs.size - 1)
  refine h h' tk _ t hk ?_ fun a ha => ?_
  · rw [numAt_eq]; exact PySem.getD_mem (by rw [List.length_map, Array.length_toList]; omega)
  · obtain ⟨j, hj, rfl⟩ := mem_getD ha
    rw [List.length_map, Array.length_toList] at hj
    rw [← numAt_eq]; exact h2 j (by omega)
theorem min_rawT (hh : A.handled = none) (hl : s.heap.IsTuple l its.toArray) (hi : IntsAre its ns) (hne : 0 < ns.length)
    (h : ∀ h' tk M t', (∀ b o, s.heap.get? b = some o → h'.get? b = some o) → M ∈ ns → (∀ a, a ∈ ns → M ≤ a) → Q (.int M t') { s with heap := h', toks := tk }) : wpAny (model prog w) A (call (.builtin "min") [.ref l]) Q E s := by
  obtain ⟨xs, e⟩ := hi.allInts.items
  have hn : numsOf (intItems xs).toList = ns := by rw [← e]; exact hi.numsOf
  rw [nums_intItems] at hn
  subst hn
  rw [e] at hl
  have hsz : 0 < xs.size := by simpa using hne
  refine minT hh hl hsz fun v h' tk hv hk => ?_
  obtain ⟨t, rfl⟩ := intItems_at hv
  obtain ⟨h1, h2⟩ := argBest_lt (numAt xs) (xs.size - 1)
  refine h h' tk _ t hk ?_ fun a ha => ?_
  · rw [numAt_eq]; exact PySem.getD_mem (by rw [List.length_map, Array.length_toList]; omega)
  · obtain ⟨j, hj, rfl⟩ := mem_getD ha
    rw [List.length_map, Array.length_toList] at hj
    rw [← numAt_eq]; exact h2 j (by omega)
theorem cr_sumT {X : Cx} (hc : X.calm = true) : CallR X (.builtin "sum") (fun vs H Q => ∃ (a : Addr) (ns : List Int), vs = [V.ref a] ∧ SqT X.K H a (ns.map V.int) ∧ Q (.int ns.sum) H) := by
  intro pins s σ H vs us Q I r h
  obtain ⟨a, ns, rfl, hs, q⟩ := h
  obtain ⟨its, rv, hl, _⟩ := I.tuple hs
  rw [Vals.ref1 r]
  exact sum_rawT (I.ok.hd hc) hl rv.ints fun h' tk t' hk => ⟨.int _, H, I.kept hk, ⟨_, rfl⟩, q⟩
theorem cr_maxT {X : Cx} (hc : X.calm = true) : CallR X (.builtin "max") (fun vs H Q => ∃ (a : Addr) (ns : List Int), vs = [V.ref a] ∧ SqT X.K H a (ns.map V.int) ∧ 0 < ns.length ∧ ∀ m, m ∈ ns → (∀ y, y ∈ ns → y ≤ m) → Q (.int m) H) := by
  intro pins s σ H vs us Q I r h
  obtain ⟨a, ns, rfl, hs, hne, q⟩ := h
  obtain ⟨its, rv, hl, _⟩ := I.tuple hs
  rw [Vals.ref1 r]
  exact max_rawT (I.ok.hd hc) hl rv.ints hne fun h' tk m t' hk h1 h2 => ⟨.int _, H, I.kept hk, ⟨_, rfl⟩, q m h1 h2⟩
theorem cr_minT {X : Cx} (hc : X.calm = true) : CallR X (.builtin "min") (fun vs H Q => ∃ (a : Addr) (ns : List Int), vs = [V.ref a] ∧ SqT X.K H a (ns.map V.int) ∧ 0 < ns.length ∧ ∀ m, m ∈ ns → (∀ y, y ∈ ns → m ≤ y) → Q (.int m) H) := by
  intro pins s σ H vs us Q I r h
  obtain ⟨a, ns, rfl, hs, hne, q⟩ := h
  obtain ⟨its, rv, hl, _⟩ := I.tuple hs
  rw [Vals.ref1 r]
  exact min_rawT (I.ok.hd hc) hl rv.ints hne fun h' tk m t' hk h1 h2 => ⟨.int _, H, I.kept hk, ⟨_, rfl⟩, q m h1 h2⟩
end TupRaw
def itemsT (d : DV) (G : Gh) (Q : List DV → Prop) : Prop := match d with
  | .ro l => Q l
  | .tup l => Q l
  | .ref a => ∃ l, G a = some (.lst l) ∧ Q l
  | _ => False
theorem itemsT.sq {K : PySem.W.Frag} {H : Hp} {G : Gh} {d : DV} {v : V} {Q : List DV → Prop} (wg : WG K G H) (r : VR K H v d) (h : itemsT d G Q) : ∃ a xs l, v = .ref a ∧ (SqL K H a xs ∨ SqT K H a xs) ∧ VRs K H xs l ∧ Q l := by
  cases r <;> first | exact h.elim | skip
  · obtain ⟨l, e, q⟩ := h
    obtain ⟨xs, e2, rr⟩ := wg _ _ e
    exact ⟨_, xs, l, rfl, .inl (SqL.of e2), rr, q⟩
  · rename_i sq rr
    exact ⟨_, _, _, rfl, .inr (SqT.of sq), rr, h⟩
  · rename_i rl rr
    exact ⟨_, _, _, rfl, .inl rl.sq, rr, h⟩
def dSum : DC := fun ds G Q => match ds with
  | [d] => itemsT d G fun l => ∃ ns : List Int, l = ns.map .int ∧ Q (.int ns.sum) G
  | _ => False
theorem c_sum (hc : X.calm = true) : CallD X (.builtin "sum") dSum := by
  rintro pins s σ H xs us Q I rs ⟨ds, G, P, vs, wg, h, k⟩
  match ds, vs, h with
  | [d], .cons r .nil, h =>
    obtain ⟨a, ys, l, rfl, sq, rr, ns, rfl, h⟩ := itemsT.sq wg r h
    rw [rr.ofInts] at sq
    rcases sq with sq | sq
    · exact cr_sum hc pins s σ H _ us Q I rs ⟨a, ns, rfl, sq, op_end wg k h (.int _)⟩
    · exact TupRaw.cr_sumT hc pins s σ H _ us Q I rs ⟨a, ns, rfl, sq, op_end wg k h (.int _)⟩
def dAll : DC := fun ds G Q => match ds with
  | [d] => itemsD d G fun l => ∃ bs : List Bool, l = bs.map .bl ∧ Q (.bl (bs.all id)) G
  | _ => False
theorem c_all (hc : X.calm = true) : CallD X (.builtin "all") dAll := by
  rintro pins s σ H xs us Q I rs ⟨ds, G, P, vs, wg, h, k⟩
  match ds, vs, h with
  | [d], .cons r .nil, h =>
    obtain ⟨a, ys, l, rfl, sq, rr, ns, rfl, h⟩ := itemsD.sq wg r h
    rw [rr.ofBls] at sq
    exact cr_all hc pins s σ H _ us Q I rs ⟨a, ns, rfl, sq, op_end wg k h (.bl _)⟩
def dAny : DC := fun ds G Q => match ds with
  | [d] => itemsD d G fun l => ∃ bs : List Bool, l = bs.map .bl ∧ Q (.bl (bs.any id)) G
  | _ => False
theorem c_any (hc : X.calm = true) : CallD X (.builtin "any") dAny := by
  rintro pins s σ H xs us Q I rs ⟨ds, G, P, vs, wg, h, k⟩
  match ds, vs, h with
  | [d], .cons r .nil, h =>
    obtain ⟨a, ys, l, rfl, sq, rr, ns, rfl, h⟩ := itemsD.sq wg r h
    rw [rr.ofBls] at sq
    exact cr_any hc pins s σ H _ us Q I rs ⟨a, ns, rfl, sq, op_end wg k h (.bl _)⟩
/-- max, min: of two ints, or of a list of ints -/
def dMax : DC := fun ds G Q => match ds with
  | [.int i, .int j] => Q (.int (if j > i then j else i)) G
  | [d] => itemsT d G fun l => ∃ ns : List Int, l = ns.map .int ∧ 0 < ns.length ∧ ∀ m, m ∈ ns → (∀ y, y ∈ ns → y ≤ m) → Q (.int m) G
  | _ => False
theorem c_max (hc : X.calm = true) : CallD X (.builtin "max") dMax := by
  rintro pins s σ H xs us Q I rs ⟨ds, G, P, vs, wg, h, k⟩
  cases vs with
  | nil => exact h.elim
  | cons r t =>
    cases t with
    | cons r2 t2 =>
      cases t2 with
      | cons => cases r <;> first | exact h.elim | (cases r2 <;> exact h.elim)
      | nil =>
        cases r <;> first | exact h.elim | skip
        cases r2 <;> first | exact h.elim | skip
        exact call_max2 hc pins s σ H _ us Q I rs ⟨_, _, rfl, op_end wg k h (.int _)⟩
    | nil =>
      cases r <;> first | exact h.elim | skip
      · obtain ⟨l, ga, ns, rfl, hn, h⟩ := h
        obtain ⟨ys, ha, rr⟩ := wg _ _ ga
        rw [rr.ofInts] at ha
        exact cr_max hc pins s σ H _ us Q I rs ⟨_, ns, rfl, SqL.of ha, hn, fun m h1 h2 => op_end wg k (h m h1 h2) (.int _)⟩
      · rename_i sq rr
        obtain ⟨ns, rfl, hn, h⟩ := h
        rw [rr.ofInts] at sq
        exact TupRaw.cr_maxT hc pins s σ H _ us Q I rs ⟨_, ns, rfl, (SqT.of sq), hn, fun m h1 h2 => op_end wg k (h m h1 h2) (.int _)⟩
      · rename_i sq rr
        obtain ⟨ns, rfl, hn, h⟩ := h
        rw [rr.ofInts] at sq
        exact cr_max hc pins s σ H _ us Q I rs ⟨_, ns, rfl, sq.sq, hn, fun m h1 h2 => op_end wg k (h m h1 h2) (.int _)⟩
def dMin : DC := fun ds G Q => match ds with
  | [.int i, .int j] => Q (.int (if j < i then j else i)) G
  | [d] => itemsT d G fun l => ∃ ns : List Int, l = ns.map .int ∧ 0 < ns.length ∧ ∀ m, m ∈ ns → (∀ y, y ∈ ns → m ≤ y) → Q (.int m) G
  | _ => False
theorem c_min (hc : X.calm = true) : CallD X (.builtin "min") dMin := by
  rintro pins s σ H xs us Q I rs ⟨ds, G, P, vs, wg, h, k⟩
  cases vs with
  | nil => exact h.elim
  | cons r t =>
    cases t with
    | cons r2 t2 =>
      cases t2 with
      | cons => cases r <;> first | exact h.elim | (cases r2 <;> exact h.elim)
      | nil =>
        cases r <;> first | exact h.elim | skip
        cases r2 <;> first | exact h.elim | skip
        exact call_min2 hc pins s σ H _ us Q I rs ⟨_, _, rfl, op_end wg k h (.int _)⟩
    | nil =>
      cases r <;> first | exact h.elim | skip
      · obtain ⟨l, ga, ns, rfl, hn, h⟩ := h
        obtain ⟨ys, ha, rr⟩ := wg _ _ ga
        rw [rr.ofInts] at ha
        exact cr_min hc pins s σ H _ us Q I rs ⟨_, ns, rfl, SqL.of ha, hn, fun m h1 h2 => op_end wg k (h m h1 h2) (.int _)⟩
      · rename_i sq rr
        obtain ⟨ns, rfl, hn, h⟩ := h
        rw [rr.ofInts] at sq
        exact TupRaw.cr_minT hc pins s σ H _ us Q I rs ⟨_, ns, rfl, (SqT.of sq), hn, fun m h1 h2 => op_end wg k (h m h1 h2) (.int _)⟩
      · rename_i sq rr
        obtain ⟨ns, rfl, hn, h⟩ := h
        rw [rr.ofInts] at sq
        exact cr_min hc pins s σ H _ us Q I rs ⟨_, ns, rfl, sq.sq, hn, fun m h1 h2 => op_end wg k (h m h1 h2) (.int _)⟩
def dAbs : DC := fun ds G Q => match ds with
  | [.int i] => Q (.int (if i < 0 then -i else i)) G
  | _ => False
theorem c_abs : CallD X (.builtin "abs") dAbs := by
  rintro pins s σ H xs us Q I rs ⟨ds, G, P, vs, wg, h, k⟩
  match ds, vs, h with
  | [.int i], .cons (.int _) .nil, h => exact call_abs pins s σ H _ us Q I rs ⟨i, rfl, op_end wg k h (.int _)⟩
def dInt : DC := fun ds G Q => match ds with
  | [.int i] => Q (.int i) G
  | [.bl b] => Q (.int (if b then 1 else 0)) G
  | _ => False
theorem c_int : CallD X (.type "int") dInt := by
  rintro pins s σ H xs us Q I rs ⟨ds, G, P, vs, wg, h, k⟩
  match ds, vs, h with
  | [.int i], .cons (.int _) .nil, h => exact call_int1 pins s σ H _ us Q I rs (.inl ⟨i, rfl, op_end wg k h (.int _)⟩)
  | [.bl i], .cons (.bl _) .nil, h => exact call_int1 pins s σ H _ us Q I rs (.inr ⟨i, rfl, op_end wg k h (.int _)⟩)
/-- a text's signs -/
def signsV (z : Str) : List V := z.cps.toList.map fun c => .str ⟨#[c]⟩
def signsD (z : Str) : List DV := z.cps.toList.map fun c => .str ⟨#[c]⟩
theorem signs_vr {K : PySem.W.Frag} {H : Hp} (z : Str) : VRs K H (signsV z) (signsD z) := by
  unfold signsV signsD
  induction z.cps.toList with
  | nil => exact .nil
  | cons a l ih => exact .cons (.str _) ih
theorem signs_vals {z : Str} {acc : Array Value} (h : ItemsOf (SignAt z) acc z.cps.size) : Vals (signsV z) acc.toList := by
  refine vals_of_at ?_ fun j x u hx hu => ?_
  · rw [signsV, List.length_map, Array.length_toList, Array.length_toList, h.1]
  · rw [Array.getElem?_toList] at hu
    obtain ⟨c, t, hc, rfl⟩ := h.2 j u hu
    rw [signsV, List.getElem?_map, Array.getElem?_toList, hc] at hx
    cases hx
    exact ⟨t, rfl⟩
theorem cr_tupStr {X : Cx} (hc : X.calm = true) : CallR X (.type "tuple") (fun xs H Q => ∃ z : Str, xs = [.str z] ∧ z.cps.size ≤ sizeLine ∧ ∀ p, H p = none → Q (.ref p) (upd H p (.tup (signsV z)))) := by
  intro pins s σ H vs us Q I r h
  obtain ⟨z, rfl, hz, q⟩ := h
  obtain ⟨u, rfl, t, rfl⟩ := vals1 r
  refine call_tuple_str (I.ok.hd hc) z t (fun h' tk acc hk hi => ?_) hz
  have I2 : Inv X pins σ H { s with heap := h', toks := tk } := I.kept hk
  refine ⟨.ref h'.objs.size, upd H h'.objs.size (.tup (signsV z)), I2.laid (t' := tk) (fun c o e => Heap.get?_push_of_some _ e) (Nat.le_refl _) (show ObjOk X.prog X.w _ _ _ (.tup (signsV z)) from ⟨?_, acc.toList, signs_vals hi, ?_⟩), rfl, q _ (I2.hok.fresh (Nat.le_refl _))⟩
  · rw [signsV, List.length_map, Array.length_toList]; exact hz
  · rw [Array.toArray_toList]; exact PyProof.Rows.IsTup.new _ _
theorem cr_lstStr {X : Cx} (hc : X.calm = true) : CallR X (.type "list") (fun xs H Q => ∃ z : Str, xs = [.str z] ∧ z.cps.size ≤ sizeLine ∧ ∀ p, H p = none → Q (.ref p) (upd H p (.lst (signsV z)))) := by
  intro pins s σ H vs us Q I r h
  obtain ⟨z, rfl, hz, q⟩ := h
  obtain ⟨u, rfl, t, rfl⟩ := vals1 r
  refine call_list_str (I.ok.hd hc) z t (fun h' tk acc c' hk e' hi => ?_) hz
  refine ⟨.ref s.heap.objs.size, upd H s.heap.objs.size (.lst (signsV z)), I.laid hk (Nat.le_refl _) (show ObjOk X.prog X.w _ _ _ (.lst (signsV z)) from ⟨?_, acc.toList, c', signs_vals hi, ?_⟩), rfl, q _ (I.hok.fresh (Nat.le_refl _))⟩
  · rw [signsV, List.length_map, Array.length_toList]; exact hz
  · rw [Array.toArray_toList]; exact e'
def dTuple : DC := fun ds G Q => match ds with
  | [.tup l] => Q (.tup l) G
  | [.str z] => z.cps.size ≤ sizeLine ∧ Q (.tup (signsD z)) G
  | [d] => itemsD d G fun l => Q (.tup l) G
  | _ => False
theorem c_tuple (hc : X.calm = true) : CallD X (.type "tuple") dTuple := by
  rintro pins s σ H xs us Q I rs ⟨ds, G, P, vs, wg, h, k⟩
  cases vs with
  | nil => exact h.elim
  | cons r t =>
    cases t with
    | cons => cases r <;> exact h.elim
    | nil =>
      cases r <;> first | exact h.elim | skip
      · obtain ⟨hz, h⟩ := h
        exact cr_tupStr hc pins s σ H _ us Q I rs ⟨_, rfl, hz, fun p np => k _ _ _ _ h (wg.new np) (Ext.new np) (VR.newT wg np (signs_vr _))⟩
      · obtain ⟨l, ga, h⟩ := h
        obtain ⟨ys, ha, r⟩ := wg _ _ ga
        exact call_tuple_of pins s σ H _ us Q I rs ⟨_, _, rfl, .inl ⟨SqL.of ha, fun p np => k _ _ _ _ h (wg.new np) (Ext.new np) (VR.newT wg np r)⟩⟩
      · rename_i sq r
        exact call_tuple_of pins s σ H _ us Q I rs ⟨_, _, rfl, .inr ⟨(SqT.of sq), op_end wg k h (.tup sq r)⟩⟩
      · rename_i sq r
        exact call_tuple_of pins s σ H _ us Q I rs ⟨_, _, rfl, .inl ⟨sq.sq, fun p np => k _ _ _ _ h (wg.new np) (Ext.new np) (VR.newT wg np r)⟩⟩
def dList : DC := fun ds G Q => match ds with
  | [.tup l] => ∀ p, G p = none → Q (.ref p) (gup G p (.lst l))
  | [.str z] => z.cps.size ≤ sizeLine ∧ ∀ p, G p = none → Q (.ref p) (gup G p (.lst (signsD z)))
  | [d] => itemsD d G fun l => ∀ p, G p = none → Q (.ref p) (gup G p (.lst l))
  | _ => False
theorem c_list (hc : X.calm = true) : CallD X (.type "list") dList := by
  rintro pins s σ H xs us Q I rs ⟨ds, G, P, vs, wg, h, k⟩
  cases vs with
  | nil => exact h.elim
  | cons r t =>
    cases t with
    | cons => cases r <;> exact h.elim
    | nil =>
      cases r <;> first | exact h.elim | skip
      · obtain ⟨hz, h⟩ := h
        exact cr_lstStr hc pins s σ H _ us Q I rs ⟨_, rfl, hz, fun p np => k _ _ _ _ (h p (wg.non np)) (wg.newL np (signs_vr _)) (Ext.newC np) (.ref p)⟩
      · obtain ⟨l, ga, h⟩ := h
        obtain ⟨ys, ha, r⟩ := wg _ _ ga
        exact call_list_of pins s σ H _ us Q I rs ⟨_, _, rfl, .inl (SqL.of ha), fun p np => k _ _ _ _ (h p (wg.non np)) (wg.newL np r) (Ext.newC np) (.ref p)⟩
      · rename_i sq r
        exact call_list_of pins s σ H _ us Q I rs ⟨_, _, rfl, .inr (SqT.of sq), fun p np => k _ _ _ _ (h p (wg.non np)) (wg.newL np r) (Ext.newC np) (.ref p)⟩
      · rename_i sq r
        exact call_list_of pins s σ H _ us Q I rs ⟨_, _, rfl, .inl sq.sq, fun p np => k _ _ _ _ (h p (wg.non np)) (wg.newL np r) (Ext.newC np) (.ref p)⟩
def dStr : DC := fun ds G Q => match ds with
  | [.int i] => i.natAbs.log2 < 1920 ∧ Q (.str (toString i)) G
  | [.str z] => Q (.str z) G
  | _ => False
theorem c_str : CallD X (.type "str") dStr := by
  rintro pins s σ H xs us Q I rs ⟨ds, G, P, vs, wg, h, k⟩
  match ds, vs, h with
  | [.int i], .cons (.int _) .nil, h => exact call_str_int pins s σ H _ us Q I rs ⟨i, rfl, h.1, op_end wg k h.2 (.str _)⟩
  | [.str i], .cons (.str _) .nil, h => exact SkE.call_str_str pins s σ H _ us Q I rs ⟨i, rfl, op_end wg k h (.str _)⟩
/-- isinstance of a built-in class -/
def kindD (d : DV) (G : Gh) (Q : String → Prop) : Prop := match d with
  | .non => Q "NoneType"
  | .bl _ => Q "bool"
  | .int _ => Q "int"
  | .str _ => Q "str"
  | .tup _ => Q "tuple"
  | .ro _ => Q "list"
  | .ref a => match G a with
    | some (.lst _) => Q "list"
    | some (.dic _) => Q "dict"
    | some (.dt _) => Q "dict"
    | _ => False
  | .ty _ => False
  | .exc .. => False
  | .kt _ => False
def isaB (n c : String) : Bool := n == c || (n == "bool" && c == "int")
def dIsi : DC := fun ds G Q => match ds with
  | [d, .ty c] => c ∈ ["int", "bool", "str", "tuple", "list", "dict"] ∧ kindD d G fun n => Q (.bl (isaB n c)) G
  | _ => False
theorem kit_all : ∀ n ∈ ["NoneType", "bool", "int", "str", "tuple", "list", "dict"], ∀ c ∈ ["int", "bool", "str", "tuple", "list", "dict"], ∀ K : PySem.W.Frag, PySem.W.kitOne K (.type n) (.type c) = some (isaB n c) := by
  intro n hn c hc K
  simp only [List.mem_cons, List.not_mem_nil, or_false] at hn hc
  rcases hn with rfl | rfl | rfl | rfl | rfl | rfl | rfl <;> rcases hc with rfl | rfl | rfl | rfl | rfl | rfl <;> rfl
end
end DL

namespace DL
open PySem PySem.Spec L2
open PyProof.Rows hiding St
section
variable {X : Cx} {W : WX} {tg e : Expr} {es : List Expr} {wa wb : DE} {wr : DA} {pos p p2 : Pos}

/-! ### isinstance(x, T), T built in -/
theorem kindD.ty {K : PySem.W.Frag} {H : Hp} {G : Gh} {d : DV} {v : V} {Q : String → Prop} (wg : WG K G H) (r : VR K H v d) (h : kindD d G Q) : ∃ n, n ∈ ["NoneType", "bool", "int", "str", "tuple", "list", "dict"] ∧ TyX K H v (.type n) ∧ Q n := by
  cases r <;> first | exact h.elim | skip
  · exact ⟨"NoneType", by simp, .base (.non), h⟩
  · exact ⟨"bool", by simp, .base (.bl _), h⟩
  · exact ⟨"int", by simp, .base (.int _), h⟩
  · exact ⟨"str", by simp, .base (.str _), h⟩
  · rename_i a
    have h' : (match G a with | some (.lst _) => Q "list" | some (.dic _) => Q "dict" | some (.dt _) => Q "dict" | _ => False) := h
    cases q : G a with
    | none => rw [q] at h'; exact h'.elim
    | some c =>
      rw [q] at h'
      have z := wg _ _ q
      cases c with
      | lst l => obtain ⟨xs, ha, _⟩ := z; exact ⟨"list", by simp, .base (.lst ha), h'⟩
      | dic l => obtain ⟨xs, ha, _⟩ := z; exact ⟨"dict", by simp, .base (.dK ha), h'⟩
      | dt l => obtain ⟨xs, ha, _⟩ := z; exact ⟨"dict", by simp, .base (.dT ha), h'⟩
      | ins C fs => exact h'.elim
      | fz o xs l => exact h'.elim
      | fzt o xs l => exact h'.elim
  · rename_i sq r
    exact ⟨"tuple", by simp, .base (.tup sq), h⟩
  · rename_i rl r
    refine ⟨"list", by simp, ?_, h⟩
    rcases rl with ⟨o, ha⟩ | ((ha | ⟨o, ha⟩) | ⟨o, its, n, hk, hc, _⟩)
    · exact .base (.frz ha)
    · cases ha
    · cases ha
    · exact .kList hk hc
theorem c_isi : CallD X (.builtin "isinstance") dIsi := by
  rintro pins s σ H xs us Q I rs ⟨ds, G, P, vs, wg, h, k⟩
  match ds, vs, h with
  | [d, .ty c], .cons r (.cons (.ty _) .nil), ⟨hc, h⟩ =>
    obtain ⟨n, hn, ty, q⟩ := kindD.ty wg r h
    exact call_isi pins s σ H _ us Q I rs ⟨_, .ty c, .type n, .type c, _, rfl, .ty c, ty, kit_all n hn c hc _, op_end wg k q (.bl _)⟩
/-- a built-in class by its name -/
theorem q_bty {x : Str} {n : String} {u : Value} (hm : X.mg x = none) (hv : bootBuiltins x = some u := by decide +kernel) (r : RelV (.ty n) u := by rfl) (hg : Gl X x := by rfl) (hn : x ≠ "__name__" := by decide) (hd : (x == ("__debug__" : Str)) = false := by decide) : QE X W (.Name x pos) (wC (.ty n)) :=
  q_const (pe_bltn hg hm hv r hn hd) fun _ => .ty _

/-! ### repr of data -/
/-- what repr takes: leaves of fair size, not too much of it -/
structure Fair (d : PyData) : Prop where
  short : d.leavesShort 600 = true
  light : d.bulk ≤ 27000
  show_ : d.showable = true
  lay : d.canLay0 = true
  flat : d.depth ≤ 60
theorem Fair.size {d : PyData} (f : Fair d) : d.shown.length ≤ sizeLine := by
  have h := PyData.shown_le_bulk 600 (by decide) d f.short
  have h2 := f.light
  rw [sizeLine_eq]
  have : (600 + 2) * d.bulk ≤ 602 * 27000 := Nat.mul_le_mul (by decide) h2
  omega
def dRepr : DC := fun ds G Q => match ds with
  | [d] => ∃ e, DR G d e ∧ Fair e ∧ Q (.str e.shown) G
  | _ => False
theorem c_repr (hg : X.A.guards = some []) (hu : X.A.units + 64 < cLine) : CallD X (.builtin "repr") dRepr := by
  rintro pins s σ H xs us Q I rs ⟨ds, G, P, vs, wg, h, k⟩
  match ds, vs, h with
  | [d], .cons (v := v) r .nil, ⟨e, dr, f, q⟩ =>
    have dp := dr.dp wg r
    cases rs with
    | cons ru rt =>
      cases rt
      have done : ∀ (t : Tok) (s' : Shared), L2.Inv X pins σ H s' → EP X pins σ Q (.str e.shown t) s' := fun t s' I' => ⟨.str e.shown, H, I', ⟨t, rfl⟩, op_end wg k q (.str _)⟩
      obtain ⟨as, rd⟩ := Dp.reads I e v _ dp ru
      match e, rd, f, done with
      | .none, .none, f, done => exact PySem.P.repr_of_none (done _ _ (I.tok _))
      | .bool b, .bool _, f, done => exact PySem.P.repr_of_bool (done _ _ (I.tok _))
      | .int i, .int _ t, f, done => exact PySem.P.repr_of_int (by have := f.show_; simpa [PyData.showable] using this) (done _ _ (I.tok _))
      | .str z, .str _ t, f, done => exact PySem.P.repr_of_str (done _ _ (I.tok _)) (hsz := f.size)
      | .list ds, rd@(.list _ _ _ _), f, done =>
        exact repr_of_reads' rd f.show_ (PyData.noDict_hsm (PyData.hasDict_of_canLay _ f.lay)) hg (by have := f.flat; omega) (fun _ _ e => e) (fun h' u tk hk => done u _ (I.kept (t' := tk) hk)) f.size
      | .tuple ds, rd@(.tuple _ _ _ _), f, done =>
        exact repr_of_reads' rd f.show_ (PyData.noDict_hsm (PyData.hasDict_of_canLay _ f.lay)) hg (by have := f.flat; omega) (fun _ _ e => e) (fun h' u tk hk => done u _ (I.kept (t' := tk) hk)) f.size
      | .dict ds, rd, f, done => cases dp

/-! ### what is walked -/
/-- lists, tuples, texts -/
def wiSeq (we : DE) : DI := fun Y env G R => we Y env G fun d G1 => match d with
  | .tup l => R l (fun _ => True) G1
  | .ro l => R l (fun _ => True) G1
  | .ref a => ∃ l, G1 a = some (.lst l) ∧ R l (fun G => G a = some (.lst l)) G1
  | .str z => R (z.cps.toList.map fun c => .str ⟨#[c]⟩) (fun _ => True) G1
  | _ => False
theorem itd_list {K : PySem.W.Frag} {a : Addr} {l : List DV} {G : Gh} {H : Hp} : ItD K (Itl K a) l (fun G => G a = some (.lst l)) G H where
  go := fun i H G d wg _ ga e => by
    obtain ⟨xs, ha, rs⟩ := wg _ _ ga
    obtain ⟨v, ev, rv⟩ := rs.get e
    refine ⟨⟨xs, v, SqL.of ha, ev⟩, ?_⟩
    rintro x H' ⟨rfl, hx⟩
    have := hx xs (SqL.of ha)
    rw [ev] at this; cases this
    exact ⟨wg, Ext.refl, rv⟩
  stop := fun i H G wg _ ga hl => by
    obtain ⟨xs, ha, rs⟩ := wg _ _ ga
    exact ⟨xs, SqL.of ha, by rw [rs.len]; exact Nat.le_of_eq hl⟩
theorem itd_ro {K : PySem.W.Frag} {a : Addr} {xs : List V} {l : List DV} {G : Gh} {H : Hp} (wg0 : WG K G H) (rl : RoL K H a xs) (rs : VRs K H xs l) : ItD K (Itl K a) l (fun _ => True) G H where
  go := fun i H1 G1 d wg x _ e => by
    obtain ⟨v, ev, rv⟩ := rs.get e
    have sq := (rl.ext wg0 x).sq
    refine ⟨⟨xs, v, sq, ev⟩, ?_⟩
    rintro y H' ⟨rfl, hx⟩
    have := hx xs sq
    rw [ev] at this; cases this
    exact ⟨wg, Ext.refl, rv.ext wg0 x⟩
  stop := fun i H1 G1 wg x _ hl => ⟨xs, (rl.ext wg0 x).sq, by rw [rs.len]; exact Nat.le_of_eq hl⟩
theorem itd_tup {K : PySem.W.Frag} {a : Addr} {xs : List V} {l : List DV} {G : Gh} {H : Hp} (wg0 : WG K G H) (rl : SqT K H a xs) (rs : VRs K H xs l) : ItD K (Itt K a) l (fun _ => True) G H where
  go := fun i H1 G1 d wg x _ e => by
    obtain ⟨v, ev, rv⟩ := rs.get e
    have sq := sqT_ext rl wg0 x
    refine ⟨⟨xs, v, sq, ev⟩, ?_⟩
    rintro y H' ⟨rfl, hx⟩
    have := hx xs sq
    rw [ev] at this; cases this
    exact ⟨wg, Ext.refl, rv.ext wg0 x⟩
  stop := fun i H1 G1 wg x _ hl => ⟨xs, sqT_ext rl wg0 x, by rw [rs.len]; exact Nat.le_of_eq hl⟩
theorem itd_str {K : PySem.W.Frag} {z : Str} {G : Gh} {H : Hp} : ItD K (Its z) (z.cps.toList.map fun c => .str ⟨#[c]⟩) (fun _ => True) G H where
  go := fun i H1 G1 d wg x _ e => by
    rw [List.getElem?_map] at e
    cases q : z.cps.toList[i]? with
    | none => rw [q] at e; cases e
    | some c =>
      rw [q] at e; cases e
      have hi : i < z.cps.size := by
        obtain ⟨h, _⟩ := List.getElem?_eq_some_iff.mp q
        simpa using h
      refine ⟨hi, ?_⟩
      rintro y H' ⟨rfl, c', hc, rfl⟩
      have : c' = c := by
        have q' : z.cps[i]? = some c := by simpa using q
        rw [q'] at hc; exact (Option.some.inj hc).symm
      subst this
      exact ⟨wg, Ext.refl, .str _⟩
  stop := fun i H1 G1 wg x _ hl => by
    show z.cps.size ≤ i
    exact Nat.le_of_eq (by simpa using hl)
theorem qi_seq (h : QE X W e wa) : QI X W tg e (wiSeq wa) := by
  refine ⟨⟨?_⟩⟩
  rintro pins s σ H R I ⟨Y, env, G, P, er, wg, hw, k, kx⟩
  refine thn (h.pe.run pins s σ H (fun v H1 => ∃ d G1, VR X.K H1 v d ∧ WG X.K G1 H1 ∧ Ext G H G1 H1 ∧ (match d with
    | .tup l => P l (fun _ => True) G1
    | .ro l => P l (fun _ => True) G1
    | .ref a => ∃ l, G1 a = some (.lst l) ∧ P l (fun G => G a = some (.lst l)) G1
    | .str z => P (z.cps.toList.map fun c => .str ⟨#[c]⟩) (fun _ => True) G1
    | _ => False)) I ⟨Y, env, G, _, er, wg, hw, fun d G1 v H1 h1 w1 x1 r1 => ⟨d, G1, r1, w1, x1, h1⟩, kx⟩) ?_
  rintro u s1 ⟨v, H1, I1, ru, d, G1, r1, w1, x1, h1⟩
  have seqL : ∀ {a : Addr} {xs : List V}, v = .ref a → SqL X.K H1 a xs → R (Itl X.K a) H1 → wpAny (model X.prog X.w) X.A (pyIter u) (PIE X pins σ tg R) X.xe s1 := by
    rintro a xs rfl sq q
    cases (show u = Value.ref a from ru)
    obtain ⟨its, rv, pl, hz⟩ := I1.list sq
    refine wpAny_pyIter_list pl.isList ⟨s1.heap.objs.size, [s1.heap.objs.size], _, _, H1, rfl, ?_, turn_list a _, ?_, ?_, q⟩
    · exact I1.kept (t' := s1.toks) fun b o z => Heap.get?_push_of_some _ z
    · exact ⟨_, Heap.get?_push_size _ rfl, rfl, rfl⟩
    · intro b hb
      obtain rfl : b = s1.heap.objs.size := by simpa using hb
      exact I1.fpOk (Nat.le_refl _) (I1.hok.fresh (Nat.le_refl _))
  have seqT : ∀ {a : Addr} {xs : List V}, v = .ref a → SqT X.K H1 a xs → R (Itt X.K a) H1 → wpAny (model X.prog X.w) X.A (pyIter u) (PIE X pins σ tg R) X.xe s1 := by
    rintro a xs rfl sq q
    cases (show u = Value.ref a from ru)
    obtain ⟨its, rv, pl, hz⟩ := I1.tuple sq
    refine wpAny_pyIter_tuple (show s1.heap.IsTuple a its.toArray from pl) ⟨s1.heap.objs.size, [s1.heap.objs.size], _, _, H1, rfl, ?_, turn_tuple a _, ?_, ?_, q⟩
    · exact I1.kept (t' := s1.toks) fun b o z => Heap.get?_push_of_some _ z
    · exact ⟨_, Heap.get?_push_size _ rfl, rfl, rfl⟩
    · intro b hb
      obtain rfl : b = s1.heap.objs.size := by simpa using hb
      exact I1.fpOk (Nat.le_refl _) (I1.hok.fresh (Nat.le_refl _))
  cases r1 <;> first | exact h1.elim | skip
  · rename_i z
    obtain ⟨t, rfl⟩ := (show ∃ t, u = Value.str z t from ru)
    cases ha : z.cps.all (· < 128)
    · exact wpAny_pyIter_wide ha (pi_one (tk := s1.toks) I1 _ (turn_str _ z t "str_iterator" (.inr rfl)) ⟨_, Heap.get?_push_size _ rfl, rfl, rfl⟩ (k _ _ _ _ _ h1 w1 x1 itd_str))
    · exact wpAny_pyIter_ascii ha (pi_one (tk := s1.toks) I1 _ (turn_str _ z t "str_ascii_iterator" (.inl rfl)) ⟨_, Heap.get?_push_size _ rfl, rfl, rfl⟩ (k _ _ _ _ _ h1 w1 x1 itd_str))
  · obtain ⟨l, ga, h1⟩ := h1
    obtain ⟨xs, ha, rs⟩ := w1 _ _ ga
    exact seqL rfl (SqL.of ha) (k _ _ _ _ _ h1 w1 x1 itd_list)
  · rename_i sq rs
    exact seqT rfl (SqT.of sq) (k _ _ _ _ _ h1 w1 x1 (itd_tup w1 (SqT.of sq) rs))
  · rename_i rl rs
    exact seqL rfl rl.sq (k _ _ _ _ _ h1 w1 x1 (itd_ro w1 rl rs))
/-- range(n), range(a, b) -/
def intsFrom (lo : Int) : Nat → List DV
  | 0 => []
  | n + 1 => .int lo :: intsFrom (lo + 1) n
theorem intsFrom_len (lo : Int) : ∀ n, (intsFrom lo n).length = n
  | 0 => rfl
  | n + 1 => by simp [intsFrom, intsFrom_len (lo + 1) n]
theorem intsFrom_get : ∀ (n : Nat) (lo : Int) (i : Nat), (intsFrom lo n)[i]? = if i < n then some (.int (lo + i)) else none
  | 0, lo, i => by simp [intsFrom]
  | n + 1, lo, 0 => by simp [intsFrom]
  | n + 1, lo, i + 1 => by
    rw [intsFrom, List.getElem?_cons_succ, intsFrom_get n (lo + 1) i]
    by_cases h : i < n
    · have e : lo + 1 + (i : Int) = lo + ((i + 1 : Nat) : Int) := by omega
      simp [h, e]
    · simp [h]
theorem itd_range {K : PySem.W.Frag} {lo : Int} {n : Nat} {G : Gh} {H : Hp} : ItD K (Itr lo n) (intsFrom lo n) (fun _ => True) G H where
  go := fun i H1 G1 d wg x _ e => by
    rw [intsFrom_get] at e
    split at e
    · rename_i hi
      cases e
      refine ⟨hi, ?_⟩
      rintro y H' ⟨rfl, rfl⟩
      exact ⟨wg, Ext.refl, .int _⟩
    · cases e
  stop := fun i H1 G1 wg x _ hl => by
    rw [intsFrom_len] at hl
    exact Nat.le_of_eq hl
def wiRange1 (wr : DA) : DI := fun Y env G R => wr Y env G fun ds G1 => match ds with
  | [.int j] => (-(2 ^ 62) ≤ j ∧ j < 2 ^ 62) ∧ R (intsFrom 0 j.toNat) (fun _ => True) G1
  | _ => False
def wiRange2 (wr : DA) : DI := fun Y env G R => wr Y env G fun ds G1 => match ds with
  | [.int i, .int j] => (-(2 ^ 62) ≤ i ∧ i < 2 ^ 62 ∧ -(2 ^ 62) ≤ j ∧ j < 2 ^ 62) ∧ R (intsFrom i (j - i).toNat) (fun _ => True) G1
  | _ => False
theorem qi_range1 (hm : X.mg "range" = none) (ha : QA X W [e] wr) (hg : Gl X "range" := by rfl) (hs : starEach [e] X.env = [(false, eval e X.env)] := by rfl) : QI X W tg (.Call (.Name "range" p) [e] [] pos) (wiRange1 wr) :=
  ⟨PI.wk (pi_range1 hg hm ha.pa hs) fun σ H R ⟨Y, env, G, P, er, wg, h, k, kx⟩ => ⟨Y, env, G, _, er, wg, h, fun ds G1 vs H1 h1 w1 x1 r1 => by
    cases r1 with
    | nil => exact h1.elim
    | cons r t =>
      cases t with
      | cons => cases r <;> exact h1.elim
      | nil =>
        cases r <;> first | exact h1.elim | skip
        obtain ⟨⟨j1, j2⟩, h1⟩ := h1
        exact ⟨_, rfl, j1, j2, k _ _ _ _ _ h1 w1 x1 itd_range⟩, kx⟩⟩
theorem qi_range2 {e2 : Expr} (hm : X.mg "range" = none) (ha : QA X W [e, e2] wr) (hg : Gl X "range" := by rfl) (hs : starEach [e, e2] X.env = [(false, eval e X.env), (false, eval e2 X.env)] := by rfl) (hs2 : starEach [e2] X.env = [(false, eval e2 X.env)] := by rfl) :
    QI X W tg (.Call (.Name "range" p) [e, e2] [] pos) (wiRange2 wr) :=
  ⟨PI.wk (pi_range2 hg hm ha.pa hs hs2) fun σ H R ⟨Y, env, G, P, er, wg, h, k, kx⟩ => ⟨Y, env, G, _, er, wg, h, fun ds G1 vs H1 h1 w1 x1 r1 => by
    cases r1 with
    | nil => exact h1.elim
    | cons r t =>
      cases t with
      | nil => cases r <;> exact h1.elim
      | cons r2 t =>
        cases t with
        | cons => cases r <;> first | exact h1.elim | (cases r2 <;> exact h1.elim)
        | nil =>
          cases r <;> first | exact h1.elim | skip
          cases r2 <;> first | exact h1.elim | skip
          obtain ⟨j1, h1⟩ := h1
          exact ⟨_, _, rfl, j1, k _ _ _ _ _ h1 w1 x1 itd_range⟩, kx⟩⟩
end
end DL

namespace DL
open PySem PySem.Spec L2
open PyProof.Rows hiding St

/-! ### lists and tuples alike, as sources of a walk -/
def SqB (K : PySem.W.Frag) (H : Hp) (t : Bool) (a : Addr) (xs : List V) : Prop := if t = true then SqT K H a xs else SqL K H a xs
def ItB (h : Heap) (t : Bool) (it a : Addr) (i : Nat) : Prop := if t = true then h.IsTupleIter it a i else h.IsListIter it a i
def SrcB (h : Heap) (t : Bool) (a : Addr) (its : Array Value) : Prop := if t = true then h.IsTuple a its else h.IsList a its
def itObj (t : Bool) (a : Addr) : Obj := { cls := .type (if t = true then "tuple_iterator" else "list_iterator"), data := .fields #[.ref a, .int 0 0] }
theorem drawsB {prog : Program} {w : World} {A : Around} (hh : A.handled = none) (t : Bool) (it a : Addr) (hne : a ≠ it) (its : Array Value) :
    Draws prog w A it [it, a] its.size (fun i v => its[i]? = some v) (fun i h => ItB h t it a i ∧ SrcB h t a its) := by
  cases t with
  | true => exact Draws.tuple hh it a hne its
  | false => exact Draws.list hh it a hne its
theorem beginsB (t : Bool) (a : Addr) (its : Array Value) : Begins (.ref a) (itObj t a) fun h => SrcB h t a its := by
  cases t with
  | true => exact begins_tuple a its
  | false => exact begins_list a its
theorem ItB.start {h : Heap} {t : Bool} {it a : Addr} (e : h.get? it = some (itObj t a)) : ItB h t it a 0 := by
  cases t with
  | true => exact ⟨_, e, rfl, rfl⟩
  | false => exact ⟨_, e, rfl, rfl⟩
theorem ItB.obj {h : Heap} {t : Bool} {it a : Addr} {i : Nat} (x : ItB h t it a i) : ∃ o, h.get? it = some o ∧ ∀ v, o.data ≠ .cell v := by
  cases t with
  | true => obtain ⟨o, e, _, d⟩ := (show h.IsTupleIter it a i from x); exact ⟨o, e, fun v q => by rw [d] at q; cases q⟩
  | false => obtain ⟨o, e, _, d⟩ := (show h.IsListIter it a i from x); exact ⟨o, e, fun v q => by rw [d] at q; cases q⟩
theorem ItB.at {h h' : Heap} {t : Bool} {it a : Addr} {i : Nat} (x : ItB h t it a i) (k : ∀ o, h.get? it = some o → h'.get? it = some o) : ItB h' t it a i := by
  cases t with
  | true => exact Heap.IsTupleIter.at (show h.IsTupleIter it a i from x) k
  | false => exact Heap.IsListIter.at (show h.IsListIter it a i from x) k
section
variable {X : Cx} {pins : List (Addr × Obj)} {σ : L2.St} {H : Hp} {s : Shared}
theorem srcB (I : L2.Inv X pins σ H s) {t : Bool} {a : Addr} {xs : List V} (h : SqB X.K H t a xs) : ∃ its : List Value, Vals xs its ∧ SrcB s.heap t a its.toArray ∧ xs.length ≤ sizeLine ∧ a < s.heap.objs.size := by
  cases t with
  | true =>
    obtain ⟨its, r, p, z⟩ := I.tuple (show SqT X.K H a xs from h)
    obtain ⟨o, e, _⟩ := id p
    exact ⟨its, r, p, z, Heap.lt_size e⟩
  | false =>
    obtain ⟨its, r, p, z⟩ := I.list (show SqL X.K H a xs from h)
    exact ⟨its, r, p.isList, z, p.lt⟩
theorem SqB.inj (I : L2.Inv X pins σ H s) {t : Bool} {a : Addr} {xs ys : List V} (h : SqB X.K H t a xs) (h' : SqB X.K H t a ys) : xs = ys := by
  cases t with
  | true => exact I.tuple_inj h h'
  | false => exact I.list_inj h h'
/-- one turn of an iterator of new tuples -/
theorem wt_item {E : Value → Shared → Prop} {it : Addr} {fp wr : List Addr} {n : Nat} {Pt : Nat → Array Value → Prop} {St : Nat → Heap → Prop} {Mid : Nat → Addr → Heap → Prop} {i : Nat} {elts : List Expr} {k : Nat} {pos : Pos}
    (W : WalksT X.prog X.w X.A it fp wr n Pt St Mid) (I : L2.Inv X pins σ H s) (hw : ∀ b ∈ wr, FpOk X pins H b) (hi : i < n) (st : St i s.heap) {xs : List V} (hv : ∀ vals, Pt i vals → Vals xs vals.toList) (hz : xs.length ≤ sizeLine) :
    wpAny (model X.prog X.w) X.A (pyNext (.ref it)) (fun r s1 => ∃ u, r = some u ∧
      wpAny (model X.prog X.w) X.A (letOwnedTupleGo (.Tuple elts k pos) (.ref it) u) (fun _ s2 => ∃ T, L2.Inv X pins σ (upd H T (.tup xs)) s2 ∧ u = .ref T ∧ s.heap.objs.size ≤ T ∧ St (i + 1) s2.heap) E s1) E s := by
  refine W.item i s _ E hi st fun T vals h' tk hP hT tup mid hk => ⟨_, rfl, ?_⟩
  refine W.go elts k pos i T _ _ _ mid fun h'' st2 hk2 => ⟨T, ?_, rfl, hT, st2⟩
  have tup2 : h''.IsTuple T vals := tup.at fun o e => hk2 T o (W.apart i T h' mid) e
  refine I.turnedNew (t' := tk) (ch := wr) (fun b o hb e => hk2 b o hb (hk b o hb e)) hw hT ?_
  exact ⟨hz, vals.toList, hv vals hP, tup2⟩
theorem wt_done {E : Value → Shared → Prop} {it : Addr} {fp wr : List Addr} {n : Nat} {Pt : Nat → Array Value → Prop} {St : Nat → Heap → Prop} {Mid : Nat → Addr → Heap → Prop}
    (W : WalksT X.prog X.w X.A it fp wr n Pt St Mid) (I : L2.Inv X pins σ H s) (hw : ∀ b ∈ wr, FpOk X pins H b) (st : St n s.heap) :
    wpAny (model X.prog X.w) X.A (pyNext (.ref it)) (fun r s1 => r = none ∧ L2.Inv X pins σ H s1) E s :=
  W.done s _ E st fun h' tk hk => ⟨rfl, I.turnedL (t' := tk) (ch := wr) hk hw⟩
end

/-! ### zip of two -/
def Itz2 (K : PySem.W.Frag) (t1 t2 : Bool) (a b : Addr) : It :=
  ⟨fun i H => ∃ (xs ys : List V) (x y : V), SqB K H t1 a xs ∧ SqB K H t2 b ys ∧ xs[i]? = some x ∧ ys[i]? = some y,
    fun i H v H' => ∃ T x y, v = .ref T ∧ H T = none ∧ H' = upd H T (.tup [x, y]) ∧ (∀ xs, SqB K H t1 a xs → xs[i]? = some x) ∧ ∀ ys, SqB K H t2 b ys → ys[i]? = some y,
    fun i H => ∃ xs ys : List V, SqB K H t1 a xs ∧ SqB K H t2 b ys ∧ min xs.length ys.length = i⟩
theorem min_l {a b i : Nat} (h : min a b = i) : i ≤ a ∧ i ≤ b := ⟨h ▸ Nat.min_le_left _ _, h ▸ Nat.min_le_right _ _⟩
theorem turn_z2 {P : Program} {w : World} {K : PySem.W.Frag} {elts : List Expr} {kk : Nat} {tpos : Pos} {t1 t2 : Bool} {a b : Addr} {N : Nat} (la : a < N) (lb : b < N) :
    Turn P w K (.Tuple elts kk tpos) (Itz2 K t1 t2 a b) [N + 4, N + 2, N + 3, N, N + 1] (N + 4)
      (fun i h => IsZip h (N + 4) (N + 2) (N + 3) .none ∧ IsTupOf2 h (N + 2) (.ref N) (.ref (N + 1)) ∧ (∃ x y, IsTupOf2 h (N + 3) x y) ∧ ItB h t1 N a i ∧ ItB h t2 (N + 1) b i) where
  mem := by simp
  obj := fun i h st c hc => by
    obtain ⟨hz, hTI, ⟨x, y, hTO⟩, h1, h2⟩ := st
    have e' : c = N + 4 ∨ c = N + 2 ∨ c = N + 3 ∨ c = N ∨ c = N + 1 := by simpa using hc
    rcases e' with q | q | q | q | q
    · rw [q]; exact ⟨_, hz, fun v q => nomatch q⟩
    · rw [q]; exact ⟨_, hTI, fun v q => nomatch q⟩
    · rw [q]; exact ⟨_, hTO, fun v q => nomatch q⟩
    · rw [q]; exact h1.obj
    · rw [q]; exact h2.obj
  keep := fun i h h' st k => by
    obtain ⟨hz, hTI, ⟨x, y, hTO⟩, h1, h2⟩ := st
    exact ⟨k _ (by simp) _ hz, k _ (by simp) _ hTI, ⟨x, y, k _ (by simp) _ hTO⟩, h1.at fun o q => k N (by simp) o q, h2.at fun o q => k (N + 1) (by simp) o q⟩
  item := by
    intro X hP hw hK hc i pins s σ H E I hf st hg
    subst hP hw hK
    obtain ⟨hz, hTI, hTO, h1, h2⟩ := st
    obtain ⟨xs, ys, x, y, hqx, hqy, hx, hy⟩ := hg
    obtain ⟨its, rv, p, _, _⟩ := srcB I hqx
    obtain ⟨its2, rv2, p2, _, _⟩ := srcB I hqy
    obtain ⟨u, hu, ru⟩ := rv.get hx
    obtain ⟨u2, hu2, ru2⟩ := rv2.get hy
    have S : ZipSep2 (N + 4) (N + 2) (N + 3) N (N + 1) [N, a] [N + 1, b] := zip_sep2 (N := N) (fp1 := [a]) (fp2 := [b]) (by simpa using la) (by simpa using lb)
    have D1 := drawsB (prog := X.prog) (w := X.w) (A := X.A.in1) (I.ok.hd hc) t1 N a (Nat.ne_of_lt la) its.toArray
    have D2 := drawsB (prog := X.prog) (w := X.w) (A := X.A.in1) (I.ok.hd hc) t2 (N + 1) b (Nat.ne_of_lt (Nat.lt_succ_of_lt lb)) its2.toArray
    have l1 : i < its.toArray.size := (List.getElem?_eq_some_iff.mp hu).1
    have l2 : i < its2.toArray.size := (List.getElem?_eq_some_iff.mp hu2).1
    refine thn (wt_item (elts := elts) (k := kk) (pos := tpos) (xs := [x, y]) (WalksT.zipD2 S D1 D2) I (fun c hcm => hf c ?_) (Nat.lt_min.mpr ⟨l1, l2⟩) ⟨hz, hTI, hTO, ⟨h1, p⟩, ⟨h2, p2⟩⟩ (fun vals hv => ?_) (by show 2 ≤ sizeLine; decide)) ?_
    · have e' : c = N + 4 ∨ c = N + 3 ∨ c = N ∨ c = N + 1 := by simpa using hcm
      rcases e' with q | q | q | q <;> rw [q] <;> simp
    · obtain ⟨x1, x2, e1, e2, rfl⟩ := hv
      have q1 : x1 = u := by
        have z : its[i]? = some x1 := by simpa using e1
        rw [hu] at z; exact (Option.some.inj z).symm
      have q2 : x2 = u2 := by
        have z : its2[i]? = some x2 := by simpa using e2
        rw [hu2] at z; exact (Option.some.inj z).symm
      subst q1 q2
      exact .cons ru (.cons ru2 .nil)
    · rintro r s1 ⟨v, hr, hgo⟩
      refine ⟨v, hr, thn hgo ?_⟩
      rintro _ s2 ⟨T, I2, rfl, hT, st2⟩
      have nT : H T = none := I.hok.fresh hT
      refine ⟨.ref T, _, I2, rfl, ⟨T, x, y, rfl, nT, rfl, fun l hl => by rw [SqB.inj I hl hqx]; exact hx, fun l hl => by rw [SqB.inj I hl hqy]; exact hy⟩, ?_, fun c hcm => ?_⟩
      · obtain ⟨z1, z2, z3, z4, z5⟩ := st2
        exact ⟨z1, z2, z3, z4.1, z5.1⟩
      · have hlt : c < s.heap.objs.size := by
          have e' : c = N + 4 ∨ c = N + 2 ∨ c = N + 3 ∨ c = N ∨ c = N + 1 := by simpa using hcm
          obtain ⟨_, _, hTO⟩ := hTO
          rcases e' with q | q | q | q | q
          · rw [q]; exact Heap.lt_size hz
          · rw [q]; exact Heap.lt_size hTI
          · rw [q]; exact Heap.lt_size hTO
          · rw [q]; obtain ⟨_, e1, _⟩ := h1.obj; exact Heap.lt_size e1
          · rw [q]; obtain ⟨_, e2, _⟩ := h2.obj; exact Heap.lt_size e2
        rw [upd_ne (Nat.ne_of_lt (Nat.lt_of_lt_of_le hlt hT))]
        exact (hf c hcm).1
  done := by
    intro X hP hw hK hc i pins s σ H E I hf st hg
    subst hP hw hK
    obtain ⟨hz, hTI, hTO, h1, h2⟩ := st
    obtain ⟨xs, ys, hqx, hqy, hend⟩ := hg
    obtain ⟨its, rv, p, _, _⟩ := srcB I hqx
    obtain ⟨its2, rv2, p2, _, _⟩ := srcB I hqy
    have S : ZipSep2 (N + 4) (N + 2) (N + 3) N (N + 1) [N, a] [N + 1, b] := zip_sep2 (N := N) (fp1 := [a]) (fp2 := [b]) (by simpa using la) (by simpa using lb)
    have D1 := drawsB (prog := X.prog) (w := X.w) (A := X.A.in1) (I.ok.hd hc) t1 N a (Nat.ne_of_lt la) its.toArray
    have D2 := drawsB (prog := X.prog) (w := X.w) (A := X.A.in1) (I.ok.hd hc) t2 (N + 1) b (Nat.ne_of_lt (Nat.lt_succ_of_lt lb)) its2.toArray
    have e : i = min its.toArray.size its2.toArray.size := by rw [← hend, List.size_toArray, List.size_toArray, rv.length, rv2.length]
    subst e
    refine wt_done (WalksT.zipD2 S D1 D2) I (fun c hcm => hf c ?_) ⟨hz, hTI, hTO, ⟨h1, p⟩, ⟨h2, p2⟩⟩
    have e' : c = N + 4 ∨ c = N + 3 ∨ c = N ∨ c = N + 1 := by simpa using hcm
    rcases e' with q | q | q | q <;> rw [q] <;> simp
  self := fun A i s Q E st h => wpAny_pyIter_zip st.1 h

/-- a source: a tuple, a list -/
def srcD (d : DV) (G : Gh) (Q : List DV → (Gh → Prop) → Prop) : Prop := match d with
  | .tup l => Q l fun _ => True
  | .ro l => Q l fun _ => True
  | .ref a => ∃ l, G a = some (.lst l) ∧ Q l fun G => G a = some (.lst l)
  | _ => False
/-- .. stands there -/
structure SrcOk (K : PySem.W.Frag) (t : Bool) (a : Addr) (l : List DV) (stay : Gh → Prop) (G0 : Gh) (H0 : Hp) : Prop where
  all : ∀ G H, WG K G H → Ext G0 H0 G H → stay G → ∃ xs, SqB K H t a xs ∧ VRs K H xs l
theorem srcD.ok {K : PySem.W.Frag} {H : Hp} {G : Gh} {d : DV} {v : V} {Q : List DV → (Gh → Prop) → Prop} (wg : WG K G H) (r : VR K H v d) (h : srcD d G Q) : ∃ t a l stay, v = .ref a ∧ Q l stay ∧ stay G ∧ SrcOk K t a l stay G H := by
  cases r <;> first | exact h.elim | skip
  · rename_i a
    obtain ⟨l, ga, q⟩ := h
    exact ⟨false, a, l, _, rfl, q, ga, ⟨fun G' H' w' x' e' => by
      obtain ⟨xs, ha, rs⟩ := w' _ _ e'
      exact ⟨xs, SqL.of ha, rs⟩⟩⟩
  · rename_i a xs l sq rs
    exact ⟨true, a, l, _, rfl, h, trivial, ⟨fun G' H' w' x' e' => ⟨xs, sqT_ext (SqT.of sq) wg x', rs.ext wg x'⟩⟩⟩
  · rename_i a xs l sq rs
    exact ⟨false, a, l, _, rfl, h, trivial, ⟨fun G' H' w' x' e' => ⟨xs, (sq.ext wg x').sq, rs.ext wg x'⟩⟩⟩
def zip2L : List DV → List DV → List DV
  | a :: r, b :: s => .tup [a, b] :: zip2L r s
  | _, _ => []
theorem zip2L_len : ∀ l m : List DV, (zip2L l m).length = min l.length m.length
  | [], m => by simp [zip2L]
  | a :: r, [] => by simp [zip2L]
  | a :: r, b :: s => by simp [zip2L, zip2L_len r s]
theorem zip2L_get : ∀ (l m : List DV) (i : Nat) (d : DV), (zip2L l m)[i]? = some d → ∃ x y, d = .tup [x, y] ∧ l[i]? = some x ∧ m[i]? = some y
  | [], m, i, d, h => by simp [zip2L] at h
  | a :: r, [], i, d, h => by simp [zip2L] at h
  | a :: r, b :: s, 0, d, h => by simp [zip2L] at h; exact ⟨a, b, h.symm, rfl, rfl⟩
  | a :: r, b :: s, i + 1, d, h => by
    obtain ⟨x, y, e, e1, e2⟩ := zip2L_get r s i d (by simpa [zip2L] using h)
    exact ⟨x, y, e, by simpa using e1, by simpa using e2⟩
theorem itd_z2 {K : PySem.W.Frag} {t1 t2 : Bool} {a b : Addr} {l m : List DV} {s1 s2 : Gh → Prop} {G : Gh} {H : Hp} (o1 : SrcOk K t1 a l s1 G H) (o2 : SrcOk K t2 b m s2 G H) : ItD K (Itz2 K t1 t2 a b) (zip2L l m) (fun G => s1 G ∧ s2 G) G H where
  go := fun i H1 G1 d wg x st e => by
    obtain ⟨dx, dy, rfl, ex, ey⟩ := zip2L_get l m i d e
    obtain ⟨xs, qx, rx⟩ := o1.all _ _ wg x st.1
    obtain ⟨ys, qy, ry⟩ := o2.all _ _ wg x st.2
    obtain ⟨v, ev, rv⟩ := rx.get ex
    obtain ⟨u, eu, ru⟩ := ry.get ey
    refine ⟨⟨xs, ys, v, u, qx, qy, ev, eu⟩, ?_⟩
    rintro z H' ⟨T, x', y', rfl, nT, rfl, f1, f2⟩
    have q1 := f1 xs qx
    rw [ev] at q1; cases q1
    have q2 := f2 ys qy
    rw [eu] at q2; cases q2
    exact ⟨wg.new nT, Ext.new nT, VR.newT wg nT (.cons rv (.cons ru .nil))⟩
  stop := fun i H1 G1 wg x st hl => by
    obtain ⟨xs, qx, rx⟩ := o1.all _ _ wg x st.1
    obtain ⟨ys, qy, ry⟩ := o2.all _ _ wg x st.2
    exact ⟨xs, ys, qx, qy, by rw [rx.len, ry.len, ← zip2L_len]; exact hl⟩
def wiZip2 (wr : DA) : DI := fun Y env G R => wr Y env G fun ds G1 => match ds with
  | [x, y] => srcD x G1 fun l s1 => srcD y G1 fun m s2 => R (zip2L l m) (fun G => s1 G ∧ s2 G) G1
  | _ => False
section
variable {X : Cx} {W : WX} {e e2 : Expr} {wr : DA} {pos p tpos : Pos} {elts : List Expr} {kk : Nat}
theorem qi_zip2 (hm : X.mg "zip" = none) (ha : QA X W [e, e2] wr) (hg : Gl X "zip" := by rfl) (hs : starEach [e, e2] X.env = (false, eval e X.env) :: starEach [e2] X.env := by rfl) (hpl : (backTo pos (starEach [e2] X.env)).any (·.1) = false := by rfl) :
    QI X W (.Tuple elts kk tpos) (.Call (.Name "zip" p) [e, e2] [] pos) (wiZip2 wr) := by
  refine ⟨⟨?_⟩⟩
  rintro pins s σ H R I ⟨Y, env, G, P, er, wg, hw, k, kx⟩
  refine Call_ (ld_blt I hg hm PyProof.Rows.boot_zip (PyProof.Rows.callWith_type1 (thn (ha.pa.run pos pins s σ H (fun vs H1 => ∃ ds G1, VRs X.K H1 vs ds ∧ WG X.K G1 H1 ∧ Ext G H G1 H1 ∧ (match ds with
    | [x, y] => srcD x G1 fun l s1 => srcD y G1 fun m s2 => P (zip2L l m) (fun G => s1 G ∧ s2 G) G1
    | _ => False)) I ⟨Y, env, G, _, er, wg, hw, fun ds G1 vs H1 h1 w1 x1 r1 => ⟨ds, G1, r1, w1, x1, h1⟩, kx⟩) fun us s1 ⟨vs, H1, I1, r1, ds, G1, rs, w1, x1, h1⟩ => ?_) hs hpl))
  match ds, rs, h1 with
  | [dx, dy], .cons rx (.cons ry .nil), h1 =>
    obtain ⟨t1, a, l, st1, rfl, h2, sg1, ok1⟩ := srcD.ok w1 rx h1
    obtain ⟨t2, b, m, st2, rfl, h3, sg2, ok2⟩ := srcD.ok w1 ry h2
    cases r1 with
    | cons ra rr =>
      cases rr with
      | cons rb rr =>
        cases rr
        cases ra
        cases rb
        obtain ⟨xs, qx, _⟩ := ok1.all _ _ w1 Ext.refl sg1
        obtain ⟨ys, qy, _⟩ := ok2.all _ _ w1 Ext.refl sg2
        obtain ⟨its, _, p1, _, la⟩ := srcB I1 qx
        obtain ⟨its2, _, p2, _, lb⟩ := srcB I1 qy
        refine zip_begins2 (beginsB t1 a its.toArray) (beginsB t2 b its2.toArray) p1 p2 fun h' hz hTI hTO h1 h2 hsz hk => wpAny_pyIter_zip hz ?_
        have I2 : L2.Inv X pins σ H1 { s1 with heap := h' } := I1.kept (t' := s1.toks) hk
        refine ⟨s1.heap.objs.size + 4, _, _, _, H1, rfl, I2, turn_z2 (t1 := t1) (t2 := t2) la lb, ⟨hz, hTI, ⟨_, _, hTO⟩, ItB.start h1, ItB.start h2⟩, fun c hcm => ?_, k _ _ _ _ _ h3 w1 x1 (itd_z2 ok1 ok2)⟩
        have e' : c = s1.heap.objs.size + 4 ∨ c = s1.heap.objs.size + 2 ∨ c = s1.heap.objs.size + 3 ∨ c = s1.heap.objs.size ∨ c = s1.heap.objs.size + 1 := by simpa using hcm
        have hle : s1.heap.objs.size ≤ c := by
          rcases e' with z | z | z | z | z <;> (rw [z]; first | exact Nat.le_refl _ | exact Nat.le_add_right _ _)
        exact I1.fpOk hle (I1.hok.fresh hle)
end
end DL

namespace DL
open PySem PySem.Spec L2
open PyProof.Rows hiding St

/-! ### what the printed derivations use -/
section
variable {X : Cx} {W : WX} {e : Expr} {es : List Expr} {wr : DA} {pos p spos : Pos}
/-- y = [..] on one line, y a plain local -/
theorem qs_setLc (i : Nat) {y : Str} {py : Pos} {elt tg iter : Expr} {ifs : List Expr} {scope : Scope} (own : List (Str × Nat)) {wi : DI} {t : TG} {g : DG} {tt : DT} {te : DE} (hc : X.calm = true) (hN : X.N.Nodup) (hi : QI X W tg iter wi) (ok : blkC X.N X.env.scope scope own = true)
    (hg : ∀ (s : Shared) (H : Hp) (C : Addr) (cl : List (Str × Addr)) (fp : List Addr), PG (X.blk s H scope (compEnvC scope cl C X.env) fp) tg t) (go : GOk X.K (own.map (·.2)) t g)
    (ht : ∀ (s : Shared) (H : Hp) (C : Addr) (cl : List (Str × Addr)) (fp : List Addr), QTs (X.blk s H scope (compEnvC scope cl C X.env) fp) W0 ifs tt)
    (he : ∀ (s : Shared) (H : Hp) (C : Addr) (cl : List (Str × Addr)) (fp : List Addr), QE (X.blk s H scope (compEnvC scope cl C X.env) fp) W0 elt te) (hs : ∀ x, foldedSetIterable iter X.env x = pure x := by intro _; rfl)
    (hy : X.N[i]? = some y := by rfl) (hyl : X.env.scope.names.lookup y = some .local := by rfl) (hk : X.env.scope.kind = .function := by rfl) (hl : (py.line == pos.line) = true := by rfl)
    (ha : (scope.names.any fun (n, k) => n == y && (k == .local || k == .cell)) = false := by rfl) :
    QS X W (.Assign [.Name y py] (.ListComp elt [⟨tg, iter, ifs, 0⟩] scope pos) spos) (wSet i (wLc (own.map (·.2)) wi g tt te)) :=
  ⟨PS.wk (ps_setLc (i := i) hc hN hy hyl (sw_true hk hyl hl ha) hi.pi (blkOk_by ok) hg (fun a b c d f => (ht a b c d f).pts) (fun a b c d f => (he a b c d f).pe) hs) fun D σ H ⟨env, G, De, er, wg, h, le⟩ =>
    lc_parts go ⟨_, env, G, _, er, wg, h, fun d G' v H' p w' x' r => le.nx _ _ _ _ p ((er.ext wg x').set r i) w' x', le.xle wg er⟩⟩
/-- a def that may be called by its name -/
structure Has (P : Program) (w : World) (K : PySem.W.Frag) (mg : Str → Option Value) (base : Heap) (k : Nat) (x : Str) (ps : List Str) (d : DF) : Prop where
  ex : ∃ (f : Addr) (fd : FuncData), FG P w K mg base k f fd ps d ∧ mg x = some (.ref f) ∧ PySem.W.keepIn K (.ref f) = true ∧ Binds K fd ps []
theorem q_callH {x : Str} {ps : List Str} {d : DF} {j k : Nat} (F : Has X.prog X.w X.K X.mg X.base k x ps d) (hgd : X.A.guards = some []) (hr : Room j X.A) (tk : Takes X W) (ha : QA X W (e :: es) wr) (hjk : k ≤ j := by decide)
    (hg : Gl X x := by rfl) (hdb : (x == ("__debug__" : Str)) = false := by decide) (he : starEach (e :: es) X.env = (false, eval e X.env) :: starEach es X.env := by rfl) (hpl : (backTo pos (starEach es X.env)).any (·.1) = false := by rfl) :
    QE X W (.Call (.Name x p) (e :: es) [] pos) (wCall d wr) := by
  obtain ⟨f, fd, F, m, kp, b⟩ := F.ex
  exact q_call F hgd (hr.mono hjk) m kp b tk ha hg hdb he hpl
theorem q_callH0 {x : Str} {ps : List Str} {d : DF} {j k : Nat} (F : Has X.prog X.w X.K X.mg X.base k x ps d) (hgd : X.A.guards = some []) (hr : Room j X.A) (tk : Takes X W) (hjk : k ≤ j := by decide)
    (hg : Gl X x := by rfl) (hdb : (x == ("__debug__" : Str)) = false := by decide) : QE X W (.Call (.Name x p) [] [] pos) (wCall d wNil) := by
  obtain ⟨f, fd, F, m, kp, b⟩ := F.ex
  exact q_call0 F hgd (hr.mono hjk) m kp b tk hg hdb
/-- a def at its place in the module -/
structure DefAt (K : PySem.W.Frag) (mg : Str → Option Value) (x : Str) (st : Stmt) (ps : List Str) : Prop where
  ex : ∃ (f : Addr) (fd : FuncData), L2.Fun K x x st f fd ∧ Binds K fd ps [] ∧ mg x = some (.ref f)
theorem DefAt.has {P : Program} {w : World} {K : PySem.W.Frag} {mg : Str → Option Value} {base : Heap} {k : Nat} {x : Str} {st : Stmt} {ps : List Str} {d : DF} (D : DefAt K mg x st ps) (h : ∀ f fd, L2.Fun K x x st f fd → FG P w K mg base k f fd ps d) : Has P w K mg base k x ps d := by
  obtain ⟨f, fd, F, b, m⟩ := D.ex
  exact ⟨f, fd, h f fd F, m, F.kp, b⟩
theorem qg_sub' {o i : Expr} {wo wi : DE} {r : D3} (ho : QE X W o wo) (hi : QE X W i wi) (hs : SetD X r) (ha : ∀ v, assign (.Subscript o i pos) X.env v = (do
      let ov ← holding [v] (eval o X.env)
      let iv ← holding [v, ov] (eval i X.env)
      standAt pos
      holding [v, ov, iv] (setItem ov iv v)
      release [v, ov, iv] []) := by intro _; rfl) : QG X (.Subscript o i pos) (gSub (TEl X.K W wo) (TEl X.K W wi) (lift3 X.K r)) (wgSub wo wi r) :=
  qg_sub ho hi hs (pg_sub ho.pe hi.pe hs ha)
/-- how many a target takes -/
def LenG (n : Nat) (gs : DGs) : Prop := ∀ ds env G P, gs ds env G P → ds.length = n
def LiveG (g : DG) : Prop := ∀ d env G (P : Dv → Gh → Prop), g d env G P → ∃ e g', P e g'
theorem lenG_nil : LenG 0 wgNil := fun ds env G P h => by cases ds with | nil => rfl | cons => exact h.elim
theorem lenG_cons {n : Nat} {g : DG} {gs : DGs} (l : LiveG g) (h2 : LenG n gs) : LenG (n + 1) (wgCons g gs) := fun ds env G P h => by
  cases ds with
  | nil => exact h.elim
  | cons d ds => obtain ⟨e, g', q⟩ := l _ _ _ _ h; simp [h2 _ _ _ _ q]
theorem liveG_name {i : Nat} : LiveG (wgName i) := fun _ _ _ _ h => ⟨_, _, h⟩
theorem qg_tupN {tgs : List Expr} {k : Nat} {ts : TGs} {gs : DGs} {n : Nat} (hc : X.calm = true) (h : QGs X tgs ts gs) (hl : LenG n gs) (hn : (assignEach tgs X.env).length = n := by rfl) (hst : (assignEach tgs X.env).findIdx? (·.1) = none := by rfl) :
    QG X (.Tuple tgs k pos) (gTup X.K n ts) (wgTup gs) := qg_tup hc h hl (pg_tup hc h.pg hn hst)
end
theorem room_u {k : Nat} {A : Around} (hr : Room k A) : A.units + 64 < cLine := hr.units
/-- built-in names stand for themselves -/
def BI (mg : Str → Option Value) (l : List String) : Prop := ∀ x ∈ l, mg (Str.ofString x) = none
theorem BI.at {mg : Str → Option Value} {l : List String} (h : BI mg l) (x : String) (hx : l.contains x = true := by decide) : mg (Str.ofString x) = none := h x (by simpa using hx)
end DL

namespace DL
open PySem PySem.Spec L2
open PyProof.Rows hiding St

/-! ### the readings, step by step -/
section
variable {Y : DX} {D : DEnds} {env env' : Dv} {G : Gh} {Q : DV → Gh → Prop} {T : Bool → Gh → Prop} {R : List DV → Gh → Prop} {wa wb wc : DE} {ta tb : DT} {wr : DA} {t u w : DS} {i : Nat} {d x y : DV}
def stSet (D : DEnds) (env : Dv) (i : Nat) (d : DV) (G : Gh) : Prop := D.nx (env.set i (some d)) G
theorem s_st (h : env.set i (some d) = env') (q : D.nx env' G) : stSet D env i d G := by subst h; exact q
theorem s_next (q : D.nx env G) : wNext D env G := q
theorem s_seq (q : t { D with nx := u D } env G) : wSeq t u D env G := q
theorem s_seqS (q : wSet i wa { D with nx := u D } env G) : wSeq (wSet i wa) u D env G := q
theorem s_seqA {g : DG} (q : wAsg wa g { D with nx := u D } env G) : wSeq (wAsg wa g) u D env G := q
theorem s_seqE (q : wExpr wa { D with nx := u D } env G) : wSeq (wExpr wa) u D env G := q
theorem s_join (J : Dv → Gh → Prop) (h1 : ∀ K : Dv → Gh → Prop, (∀ e g, J e g → K e g) → t { D with nx := K } env G) (h2 : ∀ e g, J e g → u D e g) : wSeq t u D env G := h1 (u D) h2
theorem s_set (q : wa (fun C fs G' => D.ex C fs env G') env G fun d G1 => stSet D env i d G1) : wSet i wa D env G := q
theorem s_ret (q : wa (fun C fs G' => D.ex C fs env G') env G D.rt) : wRet wa D env G := q
theorem s_retN (q : D.rt .non G) : wRetN D env G := q
theorem s_expr (q : wa (fun C fs G' => D.ex C fs env G') env G fun _ G1 => D.nx env G1) : wExpr wa D env G := q
theorem s_if (q : ta (fun C fs G' => D.ex C fs env G') env G fun b G1 => if b = true then t D env G1 else u D env G1) : wIfS ta t u D env G := q
theorem s_break (q : D.bk env G) : wBreak D env G := q
theorem s_cont (q : D.ct env G) : wCont D env G := q
theorem s_for {wi : DI} {g : DG} (q : wi (fun C fs G' => D.ex C fs env G') env G fun items stay G1 => forL stay g w D items env G1) : wFor wi g w D env G := q
theorem s_asg {g : DG} (q : wa (fun C fs G' => D.ex C fs env G') env G fun d G1 => g d env G1 D.nx) : wAsg wa g D env G := q
variable {K : Dv → Gh → Prop}
def gSet (env : Dv) (i : Nat) (d : DV) (G : Gh) (K : Dv → Gh → Prop) : Prop := K (env.set i (some d)) G
theorem s_gs (h : env.set i (some d) = env') (q : K env' G) : gSet env i d G K := by subst h; exact q
theorem s_gName (q : gSet env i d G K) : wgName i d env G K := q
theorem s_gNil (q : K env G) : wgNil [] env G K := q
theorem s_gCons {g : DG} {gs : DGs} {l : List DV} (q : g d env G fun env1 G1 => gs l env1 G1 K) : wgCons g gs (d :: l) env G K := q
theorem s_gTup {gs : DGs} {l : List DV} (q : gs l env G K) : wgTup gs (.tup l) env G K := q
theorem s_gSub {r : D3} (q : wa (fun _ _ _ => False) env G fun o G1 => wb (fun _ _ _ => False) env G1 fun i G2 => r o i d G2 fun G3 => K env G3) : wgSub wa wb r d env G K := q
theorem s_var (h : env[i]? = some (some d)) (q : Q d G) : wVar i Y env G Q := by unfold wVar; rw [h]; exact q
theorem s_c (q : Q d G) : wC d Y env G Q := q
theorem s_op {r : D2} (q : wa Y env G fun x G1 => wb Y env G1 fun y G2 => r x y G2 Q) : wOp r wa wb Y env G Q := q
def tBl (d : DV) (G : Gh) (T : Bool → Gh → Prop) : Prop := match d with | .bl b => T b G | _ => False
theorem s_bl {b : Bool} (q : T b G) : tBl (.bl b) G T := q
theorem s_tst (q : wa Y env G fun d G' => tBl d G' T) : wTst wa Y env G T := q
def chn (r' : D2) (wc : DE) (Y : DX) (env : Dv) (y z : DV) (G3 : Gh) (Q : DV → Gh → Prop) : Prop := match z with
  | .bl true => wc Y env G3 fun u G4 => r' y u G4 Q
  | .bl false => Q (.bl false) G3
  | _ => False
theorem s_chn {r' : D2} {b : Bool} (q : if b = true then wc Y env G (fun u G4 => r' y u G4 Q) else Q (.bl false) G) : chn r' wc Y env y (.bl b) G Q := by
  cases b <;> exact q
theorem s_chain {r r' : D2} (q : wa Y env G fun x G1 => wb Y env G1 fun y G2 => r x y G2 fun z G3 => chn r' wc Y env y z G3 Q) : wChain r r' wa wb wc Y env G Q := q
theorem s_andT (q : ta Y env G fun c G1 => if c = true then tb Y env G1 T else T false G1) : wAndT ta tb Y env G T := q
theorem s_orT (q : ta Y env G fun c G1 => if c = true then T true G1 else tb Y env G1 T) : wOrT ta tb Y env G T := q
theorem s_notT (q : ta Y env G fun c G1 => T (!c) G1) : wNotT ta Y env G T := q
def andK (wb : DE) (Y : DX) (env : Dv) (Q : DV → Gh → Prop) (x : DV) (G1 : Gh) : Prop := match x with | .bl true => wb Y env G1 Q | .bl false => Q (.bl false) G1 | _ => False
def orK (wb : DE) (Y : DX) (env : Dv) (Q : DV → Gh → Prop) (x : DV) (G1 : Gh) : Prop := match x with | .bl false => wb Y env G1 Q | .bl true => Q (.bl true) G1 | _ => False
def notK (Q : DV → Gh → Prop) (x : DV) (G1 : Gh) : Prop := match x with | .bl b => Q (.bl (!b)) G1 | _ => False
theorem s_and (q : wa Y env G (andK wb Y env Q)) : wAnd wa wb Y env G Q := q
theorem s_or (q : wa Y env G (orK wb Y env Q)) : wOr wa wb Y env G Q := q
theorem s_not (q : wa Y env G (notK Q)) : wNot wa Y env G Q := q
theorem s_andK {b : Bool} (q : if b = true then wb Y env G Q else Q (.bl false) G) : andK wb Y env Q (.bl b) G := by cases b <;> exact q
theorem s_orK {b : Bool} (q : if b = true then Q (.bl true) G else wb Y env G Q) : orK wb Y env Q (.bl b) G := by cases b <;> exact q
theorem s_notK {b : Bool} (q : Q (.bl (!b)) G) : notK Q (.bl b) G := q
theorem s_ifE (q : ta Y env G fun c G1 => if c = true then wa Y env G1 Q else wb Y env G1 Q) : wIf ta wa wb Y env G Q := q
theorem s_nil (q : R [] G) : wNil Y env G R := q
theorem s_cons (q : wa Y env G fun d G1 => wr Y env G1 fun ds G2 => R (d :: ds) G2) : wCons wa wr Y env G R := q
def mkTup (l : List DV) (G : Gh) (Q : DV → Gh → Prop) : Prop := l.length ≤ sizeLine ∧ Q (.tup l) G
def mkLst (l : List DV) (G : Gh) (Q : DV → Gh → Prop) : Prop := l.length ≤ sizeLine ∧ ∀ p, G p = none → Q (.ref p) (gup G p (.lst l))
theorem s_tup (q : wr Y env G fun l G1 => mkTup l G1 Q) : wTup wr Y env G Q := q
theorem s_lst (q : wr Y env G fun l G1 => mkLst l G1 Q) : wLst wr Y env G Q := q
theorem s_mkT {l : List DV} (h : l.length ≤ sizeLine) (q : Q (.tup l) G) : mkTup l G Q := ⟨h, q⟩
theorem s_mkL {l : List DV} (h : l.length ≤ sizeLine) (q : ∀ p, G p = none → Q (.ref p) (gup G p (.lst l))) : mkLst l G Q := ⟨h, q⟩
theorem s_cb {r : DC} (q : wr Y env G fun ds G1 => r ds G1 Q) : wCB r wr Y env G Q := q
theorem s_call {d : DF} (q : wr Y env G fun ds G1 => d ds G1 Q Y) : wCall d wr Y env G Q := q
def negK (Q : DV → Gh → Prop) (x : DV) (G1 : Gh) : Prop := match x with | .int i => Q (.int (-i)) G1 | _ => False
theorem s_neg (q : wa Y env G (negK Q)) : wNeg wa Y env G Q := q
theorem s_negK {j : Int} (q : Q (.int (-j)) G) : negK Q (.int j) G := q
variable {wl wh : DO} {O : Option Int → Gh → Prop}
theorem s_sl {r : DSl} (q : wa Y env G fun x G1 => wl Y env G1 fun l G2 => wh Y env G2 fun u G3 => r x l u G3 Q) : wSl r wa wl wh Y env G Q := q
theorem s_noPart (q : O none G) : wNoPart Y env G O := q
def partK (O : Option Int → Gh → Prop) (d : DV) (G1 : Gh) : Prop := match d with | .int i => O (some i) G1 | _ => False
theorem s_part (q : wa Y env G (partK O)) : wPart wa Y env G O := q
theorem s_partK {j : Int} (q : O (some j) G) : partK O (.int j) G := q
theorem s_bm {S : String} {r : DM} (q : wa Y env G fun x G1 => tyD S x G1 ∧ wr Y env G1 fun xs G2 => r x xs G2 Q) : wBM S r wa wr Y env G Q := q
theorem s_bm0 {S : String} {r : DM} (q : wa Y env G fun x G1 => tyD S x G1 ∧ r x [] G1 Q) : wBM0 S r wa Y env G Q := q
theorem s_tyL {a : Addr} {l : List DV} {p : Prop} (h : G a = some (.lst l)) (q : p) : tyD "list" (.ref a) G ∧ p := ⟨.inl ⟨rfl, l, h⟩, q⟩
theorem s_tyDc {a : Addr} {l : List (Key × DV)} {p : Prop} (h : G a = some (.dic l)) (q : p) : tyD "dict" (.ref a) G ∧ p := ⟨.inr ⟨rfl, .inl ⟨l, h⟩⟩, q⟩
theorem s_tyDt {a : Addr} {l : List (List Key × DV)} {p : Prop} (h : G a = some (.dt l)) (q : p) : tyD "dict" (.ref a) G ∧ p := ⟨.inr ⟨rfl, .inr ⟨l, h⟩⟩, q⟩
theorem s_tyS {z : Str} {p : Prop} (q : p) : tyD "str" (.str z) G ∧ p := ⟨rfl, q⟩
theorem s_lc {vs : List Nat} {wi : DI} {g : DG} (q : wi Y env G fun items stay G1 => lcL stay g ta wa (wipeD env vs) Q items [] G1) : wLc vs wi g ta wa Y env G Q := q
theorem s_yes (q : T true G) : wYes Y env G T := q

/-! operations -/
variable {a b : Int} {p q' : Str} {l m : List DV}
theorem s_add (q : Q (.int (a + b)) G) : dAdd (.int a) (.int b) G Q := q
theorem s_addS (h : p.length + q'.length ≤ sizeLine) (q : Q (.str (p ++ q')) G) : dAdd (.str p) (.str q') G Q := ⟨h, q⟩
theorem s_addT (h : l.length + m.length ≤ sizeLine) (q : Q (.tup (l ++ m)) G) : dAdd (.tup l) (.tup m) G Q := ⟨h, q⟩
theorem s_addL {e f : Addr} (he : G e = some (.lst l)) (hf : G f = some (.lst m)) (h : l.length + m.length ≤ sizeLine) (q : ∀ p, G p = none → Q (.ref p) (gup G p (.lst (l ++ m)))) : dAdd (.ref e) (.ref f) G Q := ⟨l, m, he, hf, h, q⟩
theorem s_sub (q : Q (.int (a - b)) G) : dSub (.int a) (.int b) G Q := q
theorem s_mul (h : MulOk a b) (q : Q (.int (a * b)) G) : dMul (.int a) (.int b) G Q := ⟨h, q⟩
theorem s_fdiv (h : 0 < b) (h2 : b.natAbs.log2 < 9000) (q : Q (.int (a / b)) G) : dFdiv (.int a) (.int b) G Q := ⟨⟨h, h2⟩, q⟩
theorem s_mod (h : 0 < b) (q : Q (.int (a % b)) G) : dMod (.int a) (.int b) G Q := ⟨h, q⟩
theorem s_pow (h : 0 ≤ b ∧ b ≤ 1000000 ∧ a.natAbs < 2 ^ 64) (q : Q (.int (a ^ b.toNat)) G) : dPow (.int a) (.int b) G Q := ⟨h, q⟩
theorem s_lt (q : Q (.bl (decide (a < b))) G) : dLt (.int a) (.int b) G Q := q
theorem s_le (q : Q (.bl (decide (a ≤ b))) G) : dLe (.int a) (.int b) G Q := q
theorem s_gt (q : Q (.bl (decide (b < a))) G) : dGt (.int a) (.int b) G Q := q
theorem s_ge (q : Q (.bl (decide (b ≤ a))) G) : dGe (.int a) (.int b) G Q := q
theorem s_eqI (q : Q (.bl (decide (a = b))) G) : dEq false (.int a) (.int b) G Q := by show Q (.bl (false ^^ _)) G; rw [Bool.false_xor]; exact q
theorem s_eqS (q : Q (.bl (decide (p = q'))) G) : dEq false (.str p) (.str q') G Q := by show Q (.bl (false ^^ _)) G; rw [Bool.false_xor]; exact q
theorem s_eqB {a b : Bool} (q : Q (.bl (decide (a = b))) G) : dEq false (.bl a) (.bl b) G Q := by show Q (.bl (false ^^ _)) G; rw [Bool.false_xor]; exact q
theorem s_neI (q : Q (.bl (!decide (a = b))) G) : dEq true (.int a) (.int b) G Q := by show Q (.bl (true ^^ _)) G; rw [Bool.true_xor]; exact q
theorem s_neS (q : Q (.bl (!decide (p = q'))) G) : dEq true (.str p) (.str q') G Q := by show Q (.bl (true ^^ _)) G; rw [Bool.true_xor]; exact q
theorem s_neB {a b : Bool} (q : Q (.bl (!decide (a = b))) G) : dEq true (.bl a) (.bl b) G Q := by show Q (.bl (true ^^ _)) G; rw [Bool.true_xor]; exact q
theorem s_is (q : Q (.bl d.isNon) G) : dIsN false d .non G Q := by show Q (.bl (false ^^ _)) G; rw [Bool.false_xor]; exact q
theorem s_isnt (q : Q (.bl (!d.isNon)) G) : dIsN true d .non G Q := by show Q (.bl (true ^^ _)) G; rw [Bool.true_xor]; exact q
theorem s_inT (h : d.flat = true) (h2 : l.all DV.flat = true) (q : Q (.bl (l.any fun e => e.same d)) G) : dIn false d (.tup l) G Q := ⟨h, h2, by rw [Bool.false_xor]; exact q⟩
theorem s_ninT (h : d.flat = true) (h2 : l.all DV.flat = true) (q : Q (.bl (!l.any fun e => e.same d)) G) : dIn true d (.tup l) G Q := ⟨h, h2, by rw [Bool.true_xor]; exact q⟩
theorem s_inL {e : Addr} (he : G e = some (.lst l)) (h : d.flat = true) (h2 : l.all DV.flat = true) (q : Q (.bl (l.any fun e => e.same d)) G) : dIn false d (.ref e) G Q := ⟨l, he, h, h2, by rw [Bool.false_xor]; exact q⟩
theorem s_ninL {e : Addr} (he : G e = some (.lst l)) (h : d.flat = true) (h2 : l.all DV.flat = true) (q : Q (.bl (!l.any fun e => e.same d)) G) : dIn true d (.ref e) G Q := ⟨l, he, h, h2, by rw [Bool.true_xor]; exact q⟩
theorem s_ixT (h : atI l a = some d) (q : Q d G) : dIx (.tup l) (.int a) G Q := ⟨d, h, q⟩
theorem s_ixR (h : atI l a = some d) (q : Q d G) : dIx (.ro l) (.int a) G Q := ⟨d, h, q⟩
theorem s_ixL {e : Addr} (he : G e = some (.lst l)) (h : atI l a = some d) (q : Q d G) : dIx (.ref e) (.int a) G Q := ⟨l, d, he, h, q⟩
theorem s_setL {e : Addr} {n : Int} {j : Nat} {U : Gh → Prop} (he : G e = some (.lst l)) (h : ixN l.length n = some j) (q : U (gup G e (.lst (l.set j d)))) : dSet (.ref e) (.int n) d G U := ⟨l, j, he, h, q⟩
theorem s_slT {lo hi : Option Int} (q : Q (.tup (cutL l lo hi)) G) : dSl (.tup l) lo hi G Q := q
theorem s_slR {lo hi : Option Int} (q : ∀ p, G p = none → Q (.ref p) (gup G p (.lst (cutL l lo hi)))) : dSl (.ro l) lo hi G Q := q
theorem s_slL {e : Addr} {lo hi : Option Int} (he : G e = some (.lst l)) (q : ∀ p, G p = none → Q (.ref p) (gup G p (.lst (cutL l lo hi)))) : dSl (.ref e) lo hi G Q := ⟨l, he, q⟩
theorem s_append {e : Addr} (he : G e = some (.lst l)) (h : l.length < sizeLine) (q : Q .non (gup G e (.lst (l ++ [d])))) : dAppend (.ref e) [d] G Q := ⟨l, he, h, q⟩
theorem s_extend {e f : Addr} (he : G e = some (.lst l)) (hf : G f = some (.lst m)) (h : l.length + m.length ≤ sizeLine) (q : Q .non (gup G e (.lst (l ++ m)))) : dExtend (.ref e) [.ref f] G Q := ⟨l, m, he, hf, h, q⟩
theorem s_reverse {e : Addr} (he : G e = some (.lst l)) (q : Q .non (gup G e (.lst l.reverse))) : dReverse (.ref e) [] G Q := ⟨l, he, q⟩
theorem s_lenT (q : Q (.int l.length) G) : dLen [.tup l] G Q := q
theorem s_lenR (q : Q (.int l.length) G) : dLen [.ro l] G Q := q
theorem s_lenL {e : Addr} (he : G e = some (.lst l)) (q : Q (.int l.length) G) : dLen [.ref e] G Q := ⟨l, he, q⟩
theorem s_lenS (h : p.length ≤ sizeLine) (q : Q (.int p.length) G) : dLen [.str p] G Q := ⟨h, q⟩
theorem s_sumL {e : Addr} {ns : List Int} (he : G e = some (.lst (ns.map .int))) (q : Q (.int ns.sum) G) : dSum [.ref e] G Q := ⟨_, he, ns, rfl, q⟩
theorem s_max2 (q : Q (.int (if b > a then b else a)) G) : dMax [.int a, .int b] G Q := q
theorem s_min2 (q : Q (.int (if b < a then b else a)) G) : dMin [.int a, .int b] G Q := q
theorem s_abs (q : Q (.int (if a < 0 then -a else a)) G) : dAbs [.int a] G Q := q
theorem s_intI (q : Q (.int a) G) : dInt [.int a] G Q := q
theorem s_intB {b : Bool} (q : Q (.int (if b then 1 else 0)) G) : dInt [.bl b] G Q := q
theorem s_tupleT (q : Q (.tup l) G) : dTuple [.tup l] G Q := q
theorem s_tupleR (q : Q (.tup l) G) : dTuple [.ro l] G Q := q
theorem s_tupleL {e : Addr} (he : G e = some (.lst l)) (q : Q (.tup l) G) : dTuple [.ref e] G Q := ⟨l, he, q⟩
theorem s_listT (q : ∀ p, G p = none → Q (.ref p) (gup G p (.lst l))) : dList [.tup l] G Q := q
theorem s_listR (q : ∀ p, G p = none → Q (.ref p) (gup G p (.lst l))) : dList [.ro l] G Q := q
theorem s_listL {e : Addr} (he : G e = some (.lst l)) (q : ∀ p, G p = none → Q (.ref p) (gup G p (.lst l))) : dList [.ref e] G Q := ⟨l, he, q⟩
theorem s_strI (h : a.natAbs.log2 < 1920) (q : Q (.str (toString a)) G) : dStr [.int a] G Q := ⟨h, q⟩
theorem s_strS (q : Q (.str p) G) : dStr [.str p] G Q := q
/-- the class of a value that is no reference -/
def DV.kind : DV → String
  | .non => "NoneType" | .bl _ => "bool" | .int _ => "int" | .str _ => "str" | .tup _ => "tuple" | .ro _ => "list" | .ref _ => "" | .ty _ => "" | .exc .. => "" | .kt _ => ""
def DV.known : DV → Bool
  | .ref _ => false | .ty _ => false | .exc .. => false | .kt _ => false | _ => true
theorem s_isi {c : String} (h : d.known = true) (hc : c ∈ ["int", "bool", "str", "tuple", "list", "dict"]) (q : Q (.bl (isaB d.kind c)) G) : dIsi [d, .ty c] G Q := by
  refine ⟨hc, ?_⟩
  cases d <;> first | exact absurd h Bool.false_ne_true | exact q
theorem s_isiI {c : String} (hc : c ∈ ["int", "bool", "str", "tuple", "list", "dict"]) (q : Q (.bl (isaB "int" c)) G) : dIsi [.int a, .ty c] G Q := ⟨hc, q⟩
theorem s_isiB {b : Bool} {c : String} (hc : c ∈ ["int", "bool", "str", "tuple", "list", "dict"]) (q : Q (.bl (isaB "bool" c)) G) : dIsi [.bl b, .ty c] G Q := ⟨hc, q⟩
theorem s_isiS {c : String} (hc : c ∈ ["int", "bool", "str", "tuple", "list", "dict"]) (q : Q (.bl (isaB "str" c)) G) : dIsi [.str p, .ty c] G Q := ⟨hc, q⟩
theorem s_isiT {c : String} (hc : c ∈ ["int", "bool", "str", "tuple", "list", "dict"]) (q : Q (.bl (isaB "tuple" c)) G) : dIsi [.tup l, .ty c] G Q := ⟨hc, q⟩
theorem s_isiR {c : String} (hc : c ∈ ["int", "bool", "str", "tuple", "list", "dict"]) (q : Q (.bl (isaB "list" c)) G) : dIsi [.ro l, .ty c] G Q := ⟨hc, q⟩
theorem s_isiN {c : String} (hc : c ∈ ["int", "bool", "str", "tuple", "list", "dict"]) (q : Q (.bl (isaB "NoneType" c)) G) : dIsi [.non, .ty c] G Q := ⟨hc, q⟩
theorem s_isiL {e : Addr} {c : String} (he : G e = some (.lst l)) (hc : c ∈ ["int", "bool", "str", "tuple", "list", "dict"]) (q : Q (.bl (isaB "list" c)) G) : dIsi [.ref e, .ty c] G Q := by
  refine ⟨hc, ?_⟩
  show (match G e with | some (.lst _) => Q (.bl (isaB "list" c)) G | some (.dic _) => _ | some (.dt _) => _ | _ => False)
  rw [he]; exact q
theorem s_repr {e : PyData} (h : DR G d e) (f : Fair e) (q : Q (.str e.shown) G) : dRepr [d] G Q := ⟨e, h, f, q⟩

/-! what is walked -/
variable {I : List DV → (Gh → Prop) → Gh → Prop}
def seqK (I : List DV → (Gh → Prop) → Gh → Prop) (d : DV) (G1 : Gh) : Prop := match d with
  | .tup l => I l (fun _ => True) G1
  | .ro l => I l (fun _ => True) G1
  | .ref a => ∃ l, G1 a = some (.lst l) ∧ I l (fun G => G a = some (.lst l)) G1
  | .str z => I (z.cps.toList.map fun c => .str ⟨#[c]⟩) (fun _ => True) G1
  | _ => False
theorem s_wiSeq (q : wa Y env G (seqK I)) : wiSeq wa Y env G I := q
theorem s_seqT (q : I l (fun _ => True) G) : seqK I (.tup l) G := q
theorem s_seqR (q : I l (fun _ => True) G) : seqK I (.ro l) G := q
theorem s_seqStr {z : Str} (q : I (z.cps.toList.map fun c => .str ⟨#[c]⟩) (fun _ => True) G) : seqK I (.str z) G := q
theorem s_seqL {e : Addr} (he : G e = some (.lst l)) (q : I l (fun G => G e = some (.lst l)) G) : seqK I (.ref e) G := ⟨l, he, q⟩
def rng1K (R : List DV → (Gh → Prop) → Gh → Prop) (ds : List DV) (G1 : Gh) : Prop := match ds with
  | [.int j] => (-(2 ^ 62) ≤ j ∧ j < 2 ^ 62) ∧ R (intsFrom 0 j.toNat) (fun _ => True) G1
  | _ => False
theorem s_wiRange1 (q : wr Y env G (rng1K I)) : wiRange1 wr Y env G I := q
theorem s_rng1 (h : -(2 ^ 62) ≤ a ∧ a < 2 ^ 62) (q : I (intsFrom 0 a.toNat) (fun _ => True) G) : rng1K I [.int a] G := ⟨h, q⟩
def rng2K (R : List DV → (Gh → Prop) → Gh → Prop) (ds : List DV) (G1 : Gh) : Prop := match ds with
  | [.int i, .int j] => (-(2 ^ 62) ≤ i ∧ i < 2 ^ 62 ∧ -(2 ^ 62) ≤ j ∧ j < 2 ^ 62) ∧ R (intsFrom i (j - i).toNat) (fun _ => True) G1
  | _ => False
theorem s_wiRange2 (q : wr Y env G (rng2K I)) : wiRange2 wr Y env G I := q
theorem s_rng2 (h : -(2 ^ 62) ≤ a ∧ a < 2 ^ 62 ∧ -(2 ^ 62) ≤ b ∧ b < 2 ^ 62) (q : I (intsFrom a (b - a).toNat) (fun _ => True) G) : rng2K I [.int a, .int b] G := ⟨h, q⟩
def zip2K (R : List DV → (Gh → Prop) → Gh → Prop) (ds : List DV) (G1 : Gh) : Prop := match ds with
  | [x, y] => srcD x G1 fun l s1 => srcD y G1 fun m s2 => R (zip2L l m) (fun G => s1 G ∧ s2 G) G1
  | _ => False
theorem s_wiZip2 (q : wr Y env G (zip2K I)) : wiZip2 wr Y env G I := q
theorem s_zip2 (q : srcD x G fun l s1 => srcD y G fun m s2 => I (zip2L l m) (fun G => s1 G ∧ s2 G) G) : zip2K I [x, y] G := q
variable {S : List DV → (Gh → Prop) → Prop}
theorem s_srcT (q : S l fun _ => True) : srcD (.tup l) G S := q
theorem s_srcR (q : S l fun _ => True) : srcD (.ro l) G S := q
theorem s_srcL {e : Addr} (he : G e = some (.lst l)) (q : S l fun G => G e = some (.lst l)) : srcD (.ref e) G S := ⟨l, he, q⟩
/-- branches -/
theorem s_ite {c : Prop} [Decidable c] {A B : Prop} (h1 : c → A) (h2 : ¬ c → B) : if decide c = true then A else B := by
  by_cases h : c
  · rw [if_pos (decide_eq_true h)]; exact h1 h
  · rw [if_neg (by simp [h])]; exact h2 h
theorem s_iteN {c : Prop} [Decidable c] {A B : Prop} (h1 : ¬ c → A) (h2 : c → B) : if (!decide c) = true then A else B := by
  by_cases h : c
  · rw [if_neg (by simp [h])]; exact h2 h
  · rw [if_pos (by simp [h])]; exact h1 h
theorem s_iteB {c : Bool} {A B : Prop} (h1 : c = true → A) (h2 : c = false → B) : if c = true then A else B := by
  cases c
  · rw [if_neg Bool.false_ne_true]; exact h2 rfl
  · rw [if_pos rfl]; exact h1 rfl
theorem s_yesD {c : Prop} [Decidable c] {A B : Prop} (h : c) (q : A) : if decide c = true then A else B := by rw [if_pos (decide_eq_true h)]; exact q
theorem s_noD {c : Prop} [Decidable c] {A B : Prop} (h : ¬ c) (q : B) : if decide c = true then A else B := by rw [if_neg (by simp [h])]; exact q
theorem s_yesN {c : Prop} [Decidable c] {A B : Prop} (h : ¬ c) (q : A) : if (!decide c) = true then A else B := by rw [if_pos (by simp [h])]; exact q
theorem s_noN {c : Prop} [Decidable c] {A B : Prop} (h : c) (q : B) : if (!decide c) = true then A else B := by rw [if_neg (by simp [h])]; exact q
theorem s_yesB {c : Bool} {A B : Prop} (h : c = true) (q : A) : if c = true then A else B := by rw [if_pos h]; exact q
theorem s_noB {c : Bool} {A B : Prop} (h : c = false) (q : B) : if c = true then A else B := by rw [if_neg (by simp [h])]; exact q
theorem s_t {A B : Prop} (h : A) : if true = true then A else B := h
theorem s_f {A B : Prop} (h : B) : if false = true then A else B := h
end

theorem atI_lt {α : Type} {l : List α} {j : Int} (h0 : 0 ≤ j) (h1 : j < l.length) : ∃ d, L2.atI l j = some d ∧ l[j.toNat]? = some d := by
  have e : j = ((j.toNat : Nat) : Int) := by omega
  have hl : j.toNat < l.length := by omega
  have z : L2.atI l ((j.toNat : Nat) : Int) = some l[j.toNat] := L2.atI_nat (List.getElem?_eq_getElem hl)
  exact ⟨l[j.toNat], (congrArg (L2.atI l) e).trans z, List.getElem?_eq_getElem hl⟩
theorem atI_ints {l : List Int} {j : Int} (h0 : 0 ≤ j) (h1 : j < (l.map DV.int).length) : ∃ x : Int, L2.atI (l.map DV.int) j = some (.int x) ∧ x ∈ l := by
  obtain ⟨d, e, e2⟩ := atI_lt h0 h1
  rw [List.getElem?_map] at e2
  cases q : l[j.toNat]? with
  | none => rw [q] at e2; cases e2
  | some x =>
    rw [q] at e2
    cases e2
    exact ⟨x, e, List.mem_of_getElem? q⟩
theorem cut_to {α : Type} {l : List α} {n : Int} (h : 0 ≤ n) : cutL l none (some n) = l.take n.toNat := by
  have e : n = ((n.toNat : Nat) : Int) := by omega
  unfold cutL
  have z : HT.sIx l.length l.length (some n) = min n.toNat l.length := (congrArg (fun k => HT.sIx l.length l.length (some k)) e).trans (HT.sIx_nat _ _ _)
  rw [z, HT.sIx_none, List.drop_zero, Nat.sub_zero]
  rcases Nat.le_total n.toNat l.length with h1 | h1
  · rw [Nat.min_eq_left h1]
  · rw [Nat.min_eq_right h1, List.take_length, List.take_of_length_le h1]
theorem cut_from {α : Type} {l : List α} {n : Int} (h : 0 ≤ n) : cutL l (some n) none = l.drop n.toNat := by
  have e : n = ((n.toNat : Nat) : Int) := by omega
  unfold cutL
  have z : HT.sIx l.length 0 (some n) = min n.toNat l.length := (congrArg (fun k => HT.sIx l.length 0 (some k)) e).trans (HT.sIx_nat _ _ _)
  rw [z, HT.sIx_none]
  rcases Nat.le_total n.toNat l.length with h1 | h1
  · rw [Nat.min_eq_left h1, List.take_of_length_le (by rw [List.length_drop]; exact Nat.le_refl _)]
  · rw [Nat.min_eq_right h1, List.drop_length, List.drop_eq_nil_of_le h1]; simp
theorem cut_all {α : Type} {l : List α} : cutL l none none = l := by
  unfold cutL
  rw [HT.sIx_none, HT.sIx_none, List.drop_zero, Nat.sub_zero, List.take_length]
/-! ### heaps that keep -/
def Sub (G G' : Gh) : Prop := ∀ a c, G a = some c → G' a = some c
theorem Sub.refl {G : Gh} : Sub G G := fun _ _ h => h
theorem Sub.trans {G G1 G2 : Gh} (h : Sub G G1) (k : Sub G1 G2) : Sub G G2 := fun a c e => k a c (h a c e)
theorem Sub.new {G : Gh} {p : Addr} {c : Cell} (h : G p = none) : Sub G (gup G p c) := fun a d e => by
  rw [gup_ne (by rintro rfl; rw [h] at e; cases e)]; exact e
/-- all but t -/
def Old (t : Addr) (G G' : Gh) : Prop := ∀ a c, a ≠ t → G a = some c → G' a = some c
theorem Sub.old {G G' : Gh} {t : Addr} (h : Sub G G') : Old t G G' := fun a c _ e => h a c e
theorem Old.refl {G : Gh} {t : Addr} : Old t G G := fun _ _ _ h => h
theorem Old.trans {t : Addr} {G G1 G2 : Gh} (h : Old t G G1) (k : Old t G1 G2) : Old t G G2 := fun a c n e => k a c n (h a c n e)
theorem Old.set {t : Addr} {G : Gh} {c : Cell} : Old t G (gup G t c) := fun a d n e => by rw [gup_ne n]; exact e
theorem Old.sub {t : Addr} {G G1 G2 : Gh} (h : Old t G G1) (k : Sub G1 G2) : Old t G G2 := h.trans k.old
/-- what was made since may be changed -/
theorem Sub.own {G g g1 : Gh} {e : Addr} (h : Sub G g) (n : G e = none) (k : Old e g g1) : Sub G g1 := fun a c x => k a c (ne_gone x n) (h a c x)
theorem Old.own {t : Addr} {G g g1 : Gh} {e : Addr} (h : Old t G g) (n : G e = none) (k : Old e g g1) : Old t G g1 := fun a c ha x => k a c (ne_gone x n) (h a c ha x)
theorem Sub.look {G G1 : Gh} {a : Addr} {c : Cell} (h : Sub G G1) (e : G a = some c) : G1 a = some c := h a c e
theorem Old.look {G G1 : Gh} {t a : Addr} {c : Cell} (h : Old t G G1) (n : a ≠ t) (e : G a = some c) : G1 a = some c := h a c n e
/-- a tape: [cells, place, rest], the place at most n -/
structure TapeAt (G : Gh) (t c : Addr) (n : Nat) : Prop where
  ex : ∃ (cells : List Int) (i s : Int), G t = some (.lst [.ref c, .int i, .int s]) ∧ c ≠ t ∧ G c = some (.lst (cells.map DV.int)) ∧ 0 ≤ i ∧ i ≤ n
section
variable {G G' : Gh} {t c p : Addr} {n m : Nat}
theorem TapeAt.sub (h : TapeAt G t c n) (k : Sub G G') : TapeAt G' t c n := by
  obtain ⟨cells, i, s, h1, h2, h3, h4, h5⟩ := h.ex
  exact ⟨cells, i, s, k _ _ h1, h2, k _ _ h3, h4, h5⟩
theorem TapeAt.mono (h : TapeAt G t c n) (k : n ≤ m) : TapeAt G t c m := by
  obtain ⟨cells, i, s, h1, h2, h3, h4, h5⟩ := h.ex
  exact ⟨cells, i, s, h1, h2, h3, h4, by omega⟩
theorem TapeAt.ne1 (h : TapeAt G t c n) (k : G p = none) : p ≠ t := by
  obtain ⟨cells, i, s, h1, _⟩ := h.ex
  rintro rfl; rw [k] at h1; cases h1
theorem TapeAt.ne2 (h : TapeAt G t c n) (k : G p = none) : p ≠ c := by
  obtain ⟨cells, i, s, _, _, h1, _⟩ := h.ex
  rintro rfl; rw [k] at h1; cases h1
theorem TapeAt.nct (h : TapeAt G t c n) : c ≠ t := by
  obtain ⟨cells, i, s, _, h1, _⟩ := h.ex
  exact h1
theorem TapeAt.old {e : Addr} (h : TapeAt G t c n) (k : Old e G G') (n1 : e ≠ t) (n2 : e ≠ c) : TapeAt G' t c n := by
  obtain ⟨cells, i, s, h1, h2, h3, h4, h5⟩ := h.ex
  exact ⟨cells, i, s, k _ _ n1.symm h1, h2, k _ _ n2.symm h3, h4, h5⟩
end
theorem MulOk.i {i : Int} {n : Nat} (h0 : 0 ≤ i) (h : i ≤ n) (hn : n ≤ 1000000000001) {k : Int} (hk : k.natAbs < 2 ^ 40) : MulOk i k := MulOk.of (a := 60) (b := 40) (by omega) hk (by decide) (by decide) (by decide)
/-! new heaps by what is known of them -/
section
variable {G : Gh} {Q : DV → Gh → Prop} {l m : List DV} {d : DV} {a b : Int}
theorem x_mkL (h : l.length ≤ sizeLine) (q : ∀ p G1, G p = none → Sub G G1 → G1 p = some (.lst l) → Q (.ref p) G1) : mkLst l G Q := ⟨h, fun p hp => q p _ hp (Sub.new hp) gup_same⟩
/-- what a step that makes a new list owes -/
theorem x_new {l : List DV} (q : ∀ p G1, G p = none → Sub G G1 → G1 p = some (.lst l) → Q (.ref p) G1) : ∀ p, G p = none → Q (.ref p) (gup G p (.lst l)) := fun p hp => q p _ hp (Sub.new hp) gup_same
theorem x_setL {e : Addr} {n : Int} {j : Nat} {U : Gh → Prop} (he : G e = some (.lst l)) (h : ixN l.length n = some j) (h2 : l.set j d = m) (q : ∀ G1, Old e G G1 → G1 e = some (.lst m) → U G1) : dSet (.ref e) (.int n) d G U := ⟨l, j, he, h, by rw [h2]; exact q _ Old.set gup_same⟩
theorem x_append {e : Addr} (he : G e = some (.lst l)) (h : l.length < sizeLine) (q : ∀ G1, Old e G G1 → G1 e = some (.lst (l ++ [d])) → Q .non G1) : dAppend (.ref e) [d] G Q := ⟨l, he, h, q _ Old.set gup_same⟩
theorem x_extend {e f : Addr} (he : G e = some (.lst l)) (hf : G f = some (.lst m)) (h : l.length + m.length ≤ sizeLine) (q : ∀ G1, Old e G G1 → G1 e = some (.lst (l ++ m)) → Q .non G1) : dExtend (.ref e) [.ref f] G Q := ⟨l, m, he, hf, h, q _ Old.set gup_same⟩
theorem x_reverse {e : Addr} (he : G e = some (.lst l)) (q : ∀ G1, Old e G G1 → G1 e = some (.lst l.reverse) → Q .non G1) : dReverse (.ref e) [] G Q := ⟨l, he, q _ Old.set gup_same⟩
theorem x_addL {e f : Addr} (he : G e = some (.lst l)) (hf : G f = some (.lst m)) (h : l.length + m.length ≤ sizeLine) (q : ∀ p G1, G p = none → Sub G G1 → G1 p = some (.lst (l ++ m)) → Q (.ref p) G1) : dAdd (.ref e) (.ref f) G Q := ⟨l, m, he, hf, h, x_new q⟩
theorem x_slL {e : Addr} {lo hi : Option Int} (he : G e = some (.lst l)) (q : ∀ p G1, G p = none → Sub G G1 → G1 p = some (.lst (cutL l lo hi)) → Q (.ref p) G1) : dSl (.ref e) lo hi G Q := ⟨l, he, x_new q⟩
theorem x_slR {lo hi : Option Int} (q : ∀ p G1, G p = none → Sub G G1 → G1 p = some (.lst (cutL l lo hi)) → Q (.ref p) G1) : dSl (.ro l) lo hi G Q := x_new q
theorem x_listT (q : ∀ p G1, G p = none → Sub G G1 → G1 p = some (.lst l) → Q (.ref p) G1) : dList [.tup l] G Q := x_new q
theorem x_listR (q : ∀ p G1, G p = none → Sub G G1 → G1 p = some (.lst l) → Q (.ref p) G1) : dList [.ro l] G Q := x_new q
theorem x_listL {e : Addr} (he : G e = some (.lst l)) (q : ∀ p G1, G p = none → Sub G G1 → G1 p = some (.lst l) → Q (.ref p) G1) : dList [.ref e] G Q := ⟨l, he, x_new q⟩
end
end DL

namespace DL
open PySem PySem.Spec L2
open PyProof.Rows hiding St

/-! ### data of fair size, told by its parts -/
structure Fr (n k : Nat) (d : PyData) : Prop where
  short : d.leavesShort 600 = true
  light : d.bulk ≤ n
  show_ : d.showable = true
  lay : d.canLay0 = true
  flat : d.depth ≤ k
structure FrL (n k : Nat) (xs : List PyData) : Prop where
  short : PyData.leavesShortAll 600 xs = true
  light : PyData.bulkAll xs ≤ n
  show_ : PyData.showableAll xs = true
  lay : PyData.canLayAll0 xs = true
  flat : PyData.depthAll xs ≤ k
theorem Fr.fair {n k : Nat} {d : PyData} (f : Fr n k d) (hn : n ≤ 27000 := by decide) (hk : k ≤ 60 := by decide) : Fair d := ⟨f.short, Nat.le_trans f.light hn, f.show_, f.lay, Nat.le_trans f.flat hk⟩
theorem Fr.mono {n k m j : Nat} {d : PyData} (f : Fr n k d) (hn : n ≤ m) (hk : k ≤ j) : Fr m j d := ⟨f.short, Nat.le_trans f.light hn, f.show_, f.lay, Nat.le_trans f.flat hk⟩
theorem FrL.nil {k : Nat} : FrL 0 k [] := ⟨rfl, Nat.le_refl _, rfl, rfl, Nat.zero_le _⟩
theorem FrL.cons {n m k : Nat} {d : PyData} {xs : List PyData} (f : Fr n k d) (g : FrL m k xs) : FrL (n + 1 + m) k (d :: xs) where
  short := by simp only [PyData.leavesShortAll, f.short, g.short, Bool.and_true]
  light := by have := f.light; have := g.light; simp only [PyData.bulkAll]; omega
  show_ := by simp only [PyData.showableAll, f.show_, g.show_, Bool.and_true]
  lay := by simp only [PyData.canLayAll0, f.lay, g.lay, Bool.and_true]
  flat := by have := f.flat; have := g.flat; simp only [PyData.depthAll]; omega
theorem FrL.mono {n k m j : Nat} {d : List PyData} (f : FrL n k d) (hn : n ≤ m) (hk : k ≤ j) : FrL m j d := ⟨f.short, Nat.le_trans f.light hn, f.show_, f.lay, Nat.le_trans f.flat hk⟩
theorem FrL.all {n k : Nat} : ∀ {xs : List PyData}, (∀ d ∈ xs, Fr n k d) → ∀ {m : Nat}, xs.length ≤ m → FrL (m * (n + 1)) k xs
  | [], _, m, _ => FrL.nil.mono (Nat.zero_le _) (Nat.le_refl _)
  | d :: xs, h, m, hm => by
    have a := (FrL.cons (h d (by simp)) (FrL.all (xs := xs) (fun e he => h e (List.mem_cons_of_mem _ he)) (m := m - 1) (by simp at hm; omega)))
    refine a.mono ?_ (Nat.le_refl _)
    have e : m = (m - 1) + 1 := by simp at hm; omega
    rw [e, Nat.add_mul, Nat.add_sub_cancel]
    omega
theorem Fr.tup {n k : Nat} {xs : List PyData} (f : FrL n k xs) : Fr n (k + 1) (.tuple xs) :=
  ⟨f.short, f.light, f.show_, f.lay, Nat.succ_le_succ f.flat⟩
theorem Fr.lst {n k : Nat} {xs : List PyData} (f : FrL n k xs) : Fr n (k + 1) (.list xs) :=
  ⟨f.short, f.light, f.show_, f.lay, Nat.succ_le_succ f.flat⟩
theorem Fr.non {k : Nat} : Fr 0 k .none := ⟨rfl, Nat.le_refl _, rfl, rfl, Nat.zero_le _⟩
theorem Fr.bl {k : Nat} {b : Bool} : Fr 0 k (.bool b) := ⟨rfl, Nat.le_refl _, rfl, rfl, Nat.zero_le _⟩
theorem Fr.int {k b : Nat} {i : Int} (h : i.natAbs < 2 ^ b) (hb : b ≤ 590) : Fr 0 k (.int i) where
  short := by
    have hlen : (toString i).length ≤ 591 + 1 := int_text_length_le (by decide) (by
      by_cases hz : i.natAbs = 0
      · rw [hz]; decide
      · exact (Nat.log2_lt hz).mpr (Nat.lt_of_lt_of_le h (Nat.pow_le_pow_right (by decide) (by omega))))
    show decide ((PyData.shown (.int i)).length ≤ 600) = true
    have e : (PyData.shown (.int i)).length = (toString i).length := by
      show (Str.ofString (toString i)).length = _
      exact PySem.ofString_length _
    rw [e]
    exact decide_eq_true (by omega)
  light := Nat.le_refl _
  show_ := by
    show decide (i.natAbs.log2 < 1920) = true
    refine decide_eq_true ?_
    by_cases hz : i.natAbs = 0
    · rw [hz]; decide
    · exact (Nat.log2_lt hz).mpr (Nat.lt_of_lt_of_le h (Nat.pow_le_pow_right (by decide) (by omega)))
  lay := rfl
  flat := Nat.zero_le _
theorem Fr.str {n k : Nat} {x : Str} (h : x.cps.size ≤ n) (ok : x.cps.all (· < 0x110000) = true) : Fr n k (.str x) where
  short := by
    show x.cps.toList.all (fun c => decide (c < 16 ^ 8)) = true
    rw [List.all_eq_true]
    intro c hc
    have : c < 0x110000 := by
      have q := Array.all_eq_true.mp ok
      obtain ⟨i, hi, e⟩ := List.mem_iff_getElem.mp hc
      have z := q i (by simpa using hi)
      rw [← e]
      simpa using z
    exact decide_eq_true (by omega)
  light := h
  show_ := rfl
  lay := ok
  flat := Nat.zero_le _

/-! ### loops and comprehensions -/
section
variable {stay : Gh → Prop} {g : DG} {wl : DS} {De : DEnds} {env : Dv} {G : Gh} {tt : DT} {te : DE} {Q : DV → Gh → Prop} {items : List DV}
/-- a loop over a range -/
theorem forL_range {lo : Int} {n : Nat} (Inv : Nat → Dv → Gh → Prop) (h0 : Inv 0 env G)
    (ht : ∀ i env G (K : Dv → Gh → Prop), i < n → Inv i env G → (∀ e g, Inv (i + 1) e g → K e g) → g (.int (lo + i)) env G fun env1 G1 => wl { De with nx := K, ct := K, bk := De.nx } env1 G1)
    (he : ∀ env G, Inv n env G → De.nx env G) : forL (fun _ => True) g wl De (intsFrom lo n) env G := by
  refine forL_inv Inv h0 (fun _ _ _ _ _ => trivial) (fun i d env G K e hi p k => ?_) (fun env G p => he env G (by rw [intsFrom_len] at p; exact p))
  rw [intsFrom_get] at e
  split at e
  · cases e; exact ht i env G K (by assumption) p k
  · cases e
/-- a comprehension whose items are made by f; the heap keeps R, told by the number of turns -/
theorem lcL_map (f : DV → DV) (R : Nat → Gh → Prop) (h0 : R 0 G) (hs : ∀ i G, R i G → stay G) (hn : items.length ≤ sizeLine)
    (ht : ∀ i d G (K : DV → Gh → Prop) (K2 : Gh → Prop), items[i]? = some d → i < items.length → R i G → (∀ G1, R (i + 1) G1 → K (f d) G1) → g d env G fun env1 G1 => tt (fun _ _ _ => False) env1 G1 fun b G2 => if b = true then te (fun _ _ _ => False) env1 G2 K else K2 G2)
    (he : ∀ G, R items.length G → ∀ p G1, G p = none → Sub G G1 → G1 p = some (.lst (items.map f)) → Q (.ref p) G1) : lcL stay g tt te env Q items [] G := by
  refine lcL_inv (fun i acc G => acc = (items.take i).map f ∧ R i G) ⟨by simp, h0⟩ (fun i acc G _ h => hs i G h.2) (fun i d acc G K e hi ⟨ea, r⟩ k => ?_) (fun acc G ⟨ea, r⟩ p hp => he G r p _ hp (Sub.new hp) (by rw [ea, List.take_length]; exact gup_same))
  refine ht i d G (fun y G3 => acc.length < sizeLine ∧ K (acc ++ [y]) G3) (K acc) e hi r fun G1 r1 => ⟨?_, k _ _ ⟨?_, r1⟩⟩
  · rw [ea, List.length_map, List.length_take]; omega
  · rw [ea, List.take_add_one, e]; simp
/-- .. whose items are such that P -/
theorem lcL_all (P : Nat → DV → Prop) (R : Nat → Gh → Prop) (h0 : R 0 G) (hs : ∀ i G, R i G → stay G) (hn : items.length ≤ sizeLine)
    (ht : ∀ i d G (K : DV → Gh → Prop) (K2 : Gh → Prop), items[i]? = some d → i < items.length → R i G → (∀ y G1, P i y → R (i + 1) G1 → K y G1) → g d env G fun env1 G1 => tt (fun _ _ _ => False) env1 G1 fun b G2 => if b = true then te (fun _ _ _ => False) env1 G2 K else K2 G2)
    (he : ∀ G l, R items.length G → l.length = items.length → (∀ i y, l[i]? = some y → P i y) → ∀ p G1, G p = none → Sub G G1 → G1 p = some (.lst l) → Q (.ref p) G1) : lcL stay g tt te env Q items [] G := by
  refine lcL_inv (fun i acc G => (acc.length = i ∧ ∀ j y, acc[j]? = some y → P j y) ∧ R i G) ⟨⟨rfl, fun j y h => by simp at h⟩, h0⟩ (fun i acc G _ h => hs i G h.2) (fun i d acc G K e hi ⟨⟨el, ea⟩, r⟩ k => ?_) (fun acc G ⟨⟨el, ea⟩, r⟩ p hp => he G acc r el ea p _ hp (Sub.new hp) gup_same)
  refine ht i d G (fun y G3 => acc.length < sizeLine ∧ K (acc ++ [y]) G3) (K acc) e hi r fun y G1 py r1 => ⟨by omega, k _ _ ⟨⟨by simp [el], fun j z h => ?_⟩, r1⟩⟩
  by_cases hj : j < acc.length
  · rw [List.getElem?_append_left hj] at h; exact ea j z h
  · rw [List.getElem?_append_right (by omega)] at h
    have : j = acc.length := by
      by_cases hj2 : j = acc.length
      · exact hj2
      · rw [List.getElem?_eq_none (by simp; omega)] at h; cases h
    subst this
    simp at h
    subst h
    rw [el]; exact py
/-- .. with a test -/
theorem lcL_filter (c : DV → Bool) (f : DV → DV) (R : Nat → Gh → Prop) (h0 : R 0 G) (hs : ∀ i G, R i G → stay G) (hn : items.length ≤ sizeLine)
    (ht : ∀ i d G (K : DV → Gh → Prop) (K2 : Gh → Prop), items[i]? = some d → i < items.length → R i G → (c d = true → ∀ G1, R (i + 1) G1 → K (f d) G1) → (c d = false → ∀ G1, R (i + 1) G1 → K2 G1) →
      g d env G fun env1 G1 => tt (fun _ _ _ => False) env1 G1 fun b G2 => if b = true then te (fun _ _ _ => False) env1 G2 K else K2 G2)
    (he : ∀ G, R items.length G → ∀ p G1, G p = none → Sub G G1 → G1 p = some (.lst ((items.filter c).map f)) → Q (.ref p) G1) : lcL stay g tt te env Q items [] G := by
  refine lcL_inv (fun i acc G => acc = ((items.take i).filter c).map f ∧ R i G) ⟨by simp, h0⟩ (fun i acc G _ h => hs i G h.2) (fun i d acc G K e hi ⟨ea, r⟩ k => ?_) (fun acc G ⟨ea, r⟩ p hp => he G r p _ hp (Sub.new hp) (by rw [ea, List.take_length]; exact gup_same))
  refine ht i d G (fun y G3 => acc.length < sizeLine ∧ K (acc ++ [y]) G3) (K acc) e hi r (fun hc G1 r1 => ⟨?_, k _ _ ⟨?_, r1⟩⟩) (fun hc G1 r1 => k _ _ ⟨?_, r1⟩)
  · have := List.length_filter_le c (items.take i)
    rw [ea, List.length_map]
    rw [List.length_take] at this
    omega
  · rw [ea, List.take_add_one, e]; simp [hc]
  · rw [ea, List.take_add_one, e]; simp [hc]
end
theorem map_of {α : Type} (enc : α → DV) (p : α → Prop) : ∀ {l : List DV}, (∀ y ∈ l, ∃ a, y = enc a ∧ p a) → ∃ as : List α, l = as.map enc ∧ ∀ a ∈ as, p a
  | [], _ => ⟨[], rfl, by simp⟩
  | d :: l, h => by
    obtain ⟨a, e, q⟩ := h d (by simp)
    obtain ⟨as, e2, q2⟩ := map_of enc p (l := l) fun y hy => h y (by simp [hy])
    refine ⟨a :: as, by rw [e, e2]; rfl, fun b hb => ?_⟩
    rcases List.mem_cons.mp hb with rfl | hb
    · exact q
    · exact q2 b hb
theorem zip2L_map {α β : Type} (f : α → DV) (g : β → DV) : ∀ (l : List α) (m : List β), zip2L (l.map f) (m.map g) = (l.zip m).map fun p => .tup [f p.1, g p.2]
  | [], m => by simp [zip2L]
  | a :: l, [] => by simp [zip2L]
  | a :: l, b :: m => by simp [zip2L, zip2L_map f g l m]
theorem map_get {α : Type} {f : α → DV} {l : List α} {i : Nat} {d : DV} (h : (l.map f)[i]? = some d) : ∃ a, l[i]? = some a ∧ d = f a := by
  rw [List.getElem?_map] at h
  cases q : l[i]? with
  | none => rw [q] at h; cases h
  | some a => rw [q] at h; cases h; exact ⟨a, rfl, rfl⟩
theorem rng_get {lo : Int} {n i : Nat} {d : DV} (h : (intsFrom lo n)[i]? = some d) : i < n ∧ d = .int (lo + i) := by
  rw [intsFrom_get] at h
  split at h
  · cases h; exact ⟨by assumption, rfl⟩
  · cases h
theorem range_get {n i a : Nat} (h : (List.range n)[i]? = some a) : a = i ∧ i < n := by
  have hi := (List.getElem?_eq_some_iff.mp h).1
  rw [List.length_range] at hi
  rw [List.getElem?_range hi] at h
  exact ⟨(Option.some.inj h).symm, hi⟩
theorem sum_bound {B : Nat} : ∀ {l : List Int}, (∀ x ∈ l, x.natAbs ≤ B) → l.sum.natAbs ≤ l.length * B
  | [], _ => by simp
  | x :: l, h => by
    have h1 := h x (by simp)
    have h2 := sum_bound (l := l) fun y hy => h y (by simp [hy])
    rw [List.sum_cons, List.length_cons, Nat.add_mul, Nat.one_mul]
    omega
theorem at_int {α : Type} {f : α → DV} {l : List α} {i : Nat} {j : Int} {a : α} (e : l[i]? = some a) (hj : j = i) : L2.atI (l.map f) j = some (f a) := by
  subst hj
  exact L2.atI_nat (by rw [List.getElem?_map, e]; rfl)
theorem intsFrom_eq (lo : Int) (n : Nat) : intsFrom lo n = (List.range n).map fun (i : Nat) => DV.int (lo + (i : Int)) := by
  apply List.ext_getElem?
  intro i
  rw [intsFrom_get, List.getElem?_map]
  by_cases h : i < n
  · rw [if_pos h, List.getElem?_range h]; rfl
  · rw [if_neg h, List.getElem?_eq_none (by simpa using h)]; rfl
section
variable {α : Type} {stay : Gh → Prop} {g : DG} {wl : DS} {De : DEnds} {env : Dv} {G : Gh} {tt : DT} {te : DE} {Q : DV → Gh → Prop} {xs : List α}
/-- typed forms: the items are xs by enc -/
theorem lcT_map (enc f : α → DV) (R : Nat → Gh → Prop) (h0 : R 0 G) (hs : ∀ i G, R i G → stay G) (hn : xs.length ≤ sizeLine)
    (ht : ∀ i a G (K : DV → Gh → Prop) (K2 : Gh → Prop), xs[i]? = some a → a ∈ xs → R i G → (∀ G1, R (i + 1) G1 → K (f a) G1) → g (enc a) env G fun env1 G1 => tt (fun _ _ _ => False) env1 G1 fun b G2 => if b = true then te (fun _ _ _ => False) env1 G2 K else K2 G2)
    (he : ∀ G, R xs.length G → ∀ p G1, G p = none → Sub G G1 → G1 p = some (.lst (xs.map f)) → Q (.ref p) G1) : lcL stay g tt te env Q (xs.map enc) [] G := by
  refine lcL_inv (fun i acc G => acc = (xs.take i).map f ∧ R i G) ⟨by simp, h0⟩ (fun i acc G _ h => hs i G h.2) (fun i d acc G K e hi ⟨ea, r⟩ k => ?_) (fun acc G ⟨ea, r⟩ p hp => he G (by rw [List.length_map] at r; exact r) p _ hp (Sub.new hp) (by rw [ea, List.length_map, List.take_length]; exact gup_same))
  obtain ⟨a, e', rfl⟩ := map_get e
  rw [List.length_map] at hi
  refine ht i a G (fun y G3 => acc.length < sizeLine ∧ K (acc ++ [y]) G3) (K acc) e' (List.mem_of_getElem? e') r fun G1 r1 => ⟨?_, k _ _ ⟨?_, r1⟩⟩
  · rw [ea, List.length_map, List.length_take]; omega
  · rw [ea, List.take_add_one, e']; simp
theorem lcT_filter (enc f : α → DV) (c : α → Bool) (R : Nat → Gh → Prop) (h0 : R 0 G) (hs : ∀ i G, R i G → stay G) (hn : xs.length ≤ sizeLine)
    (ht : ∀ i a G (K : DV → Gh → Prop) (K2 : Gh → Prop), xs[i]? = some a → a ∈ xs → R i G → (c a = true → ∀ G1, R (i + 1) G1 → K (f a) G1) → (c a = false → ∀ G1, R (i + 1) G1 → K2 G1) →
      g (enc a) env G fun env1 G1 => tt (fun _ _ _ => False) env1 G1 fun b G2 => if b = true then te (fun _ _ _ => False) env1 G2 K else K2 G2)
    (he : ∀ G, R xs.length G → ∀ p G1, G p = none → Sub G G1 → G1 p = some (.lst ((xs.filter c).map f)) → Q (.ref p) G1) : lcL stay g tt te env Q (xs.map enc) [] G := by
  refine lcL_inv (fun i acc G => acc = ((xs.take i).filter c).map f ∧ R i G) ⟨by simp, h0⟩ (fun i acc G _ h => hs i G h.2) (fun i d acc G K e hi ⟨ea, r⟩ k => ?_) (fun acc G ⟨ea, r⟩ p hp => he G (by rw [List.length_map] at r; exact r) p _ hp (Sub.new hp) (by rw [ea, List.length_map, List.take_length]; exact gup_same))
  obtain ⟨a, e', rfl⟩ := map_get e
  rw [List.length_map] at hi
  refine ht i a G (fun y G3 => acc.length < sizeLine ∧ K (acc ++ [y]) G3) (K acc) e' (List.mem_of_getElem? e') r (fun hc G1 r1 => ⟨?_, k _ _ ⟨?_, r1⟩⟩) (fun hc G1 r1 => k _ _ ⟨?_, r1⟩)
  · have := List.length_filter_le c (xs.take i)
    rw [ea, List.length_map]
    rw [List.length_take] at this
    omega
  · rw [ea, List.take_add_one, e']; simp [hc]
  · rw [ea, List.take_add_one, e']; simp [hc]
/-- the results are some bs by dec, each such that P -/
theorem lcT_all {β : Type} (enc : α → DV) (dec : β → DV) (P : α → β → Prop) (R : Nat → Gh → Prop) (h0 : R 0 G) (hs : ∀ i G, R i G → stay G) (hn : xs.length ≤ sizeLine)
    (ht : ∀ i a G (K : DV → Gh → Prop) (K2 : Gh → Prop), xs[i]? = some a → a ∈ xs → R i G → (∀ b G1, P a b → R (i + 1) G1 → K (dec b) G1) → g (enc a) env G fun env1 G1 => tt (fun _ _ _ => False) env1 G1 fun b G2 => if b = true then te (fun _ _ _ => False) env1 G2 K else K2 G2)
    (he : ∀ G (bs : List β), R xs.length G → bs.length = xs.length → (∀ (i : Nat) (a : α) (b : β), xs[i]? = some a → bs[i]? = some b → P a b) → ∀ p G1, G p = none → Sub G G1 → G1 p = some (.lst (bs.map dec)) → Q (.ref p) G1) : lcL stay g tt te env Q (xs.map enc) [] G := by
  refine lcL_inv (fun i acc G => (∃ bs : List β, acc = bs.map dec ∧ bs.length = i ∧ ∀ (j : Nat) (a : α) (b : β), xs[j]? = some a → bs[j]? = some b → P a b) ∧ R i G) ⟨⟨[], rfl, rfl, fun j a b _ h => by simp at h⟩, h0⟩ (fun i acc G _ h => hs i G h.2) (fun i d acc G K e hi ⟨⟨bs, ea, el, eb⟩, r⟩ k => ?_)
    (fun acc G ⟨⟨bs, ea, el, eb⟩, r⟩ p hp => he G bs (by rw [List.length_map] at r; exact r) (by rw [el, List.length_map]) eb p _ hp (Sub.new hp) (by rw [← ea]; exact gup_same))
  obtain ⟨a, e', rfl⟩ := map_get e
  rw [List.length_map] at hi
  refine ht i a G (fun y G3 => acc.length < sizeLine ∧ K (acc ++ [y]) G3) (K acc) e' (List.mem_of_getElem? e') r fun b G1 pb r1 => ⟨by rw [ea, List.length_map]; omega, k _ _ ⟨⟨bs ++ [b], by rw [ea]; simp, by simp [el], fun j a' b' h1 h2 => ?_⟩, r1⟩⟩
  by_cases hj : j < bs.length
  · rw [List.getElem?_append_left hj] at h2; exact eb j a' b' h1 h2
  · have : j = bs.length := by
      by_cases hj2 : j = bs.length
      · exact hj2
      · rw [List.getElem?_eq_none (by simp; omega)] at h2; cases h2
    subst this
    rw [List.getElem?_append_right (Nat.le_refl _)] at h2
    simp at h2
    subst h2
    rw [el, e'] at h1
    cases h1
    exact pb
/-- a loop over typed items -/
theorem forT (enc : α → DV) (Inv : Nat → Dv → Gh → Prop) (h0 : Inv 0 env G) (hs : ∀ i env G, Inv i env G → stay G)
    (ht : ∀ i a env G (K : Dv → Gh → Prop), xs[i]? = some a → a ∈ xs → Inv i env G → (∀ e g, Inv (i + 1) e g → K e g) → g (enc a) env G fun env1 G1 => wl { De with nx := K, ct := K, bk := De.nx } env1 G1)
    (he : ∀ env G, Inv xs.length env G → De.nx env G) : forL stay g wl De (xs.map enc) env G := by
  refine forL_inv Inv h0 (fun i env G _ h => hs i env G h) (fun i d env G K e hi p k => ?_) (fun env G p => he env G (by rw [List.length_map] at p; exact p))
  obtain ⟨a, e', rfl⟩ := map_get e
  exact ht i a env G K e' (List.mem_of_getElem? e') p k
end
/-- one of some numbers, by a drawn place -/
theorem pickI {G : Gh} {Q : DV → Gh → Prop} (ns : List Int) (P : Int → Prop) (h : ∀ n ∈ ns, P n) {l : List DV} {e : Addr} {v : Int} (he : G e = some (.lst l)) (hl : l = ns.map DV.int) (h0 : 0 ≤ v) (h1 : v < ns.length) (q : ∀ n, P n → Q (.int n) G) : dIx (.ref e) (.int v) G Q := by
  subst hl
  obtain ⟨x, hx, hm⟩ := atI_ints (l := ns) h0 (by rw [List.length_map]; exact h1)
  exact s_ixL he hx (q x (h x hm))
/-- crosswise sums -/
def dot (a b : List Int) : Int := ((a.zip b).map fun p => p.1 * p.2).sum
theorem dot_nil {b : List Int} : dot [] b = 0 := by simp [dot]
theorem dot_step {a b : List Int} {i : Nat} {p : Int × Int} (h : (a.zip b)[i]? = some p) : (((a.zip b).take (i + 1)).map fun p => p.1 * p.2).sum = (((a.zip b).take i).map fun p => p.1 * p.2).sum + p.1 * p.2 := by
  rw [List.take_add_one, h]
  simp [List.sum_append]
theorem dot_bound {a b : List Int} {A B n : Nat} (ha : ∀ x ∈ a, x.natAbs ≤ A) (hb : ∀ x ∈ b, x.natAbs ≤ B) (hn : a.length ≤ n) : (dot a b).natAbs ≤ n * (A * B) := by
  have z : ∀ x ∈ (a.zip b).map (fun p => p.1 * p.2), x.natAbs ≤ A * B := by
    intro x hx
    obtain ⟨p, hp, rfl⟩ := List.mem_map.mp hx
    have hm := List.of_mem_zip (show (p.1, p.2) ∈ _ from hp)
    rw [Int.natAbs_mul]
    exact Nat.mul_le_mul (ha _ hm.1) (hb _ hm.2)
  refine Nat.le_trans (sum_bound z) (Nat.mul_le_mul_right _ ?_)
  rw [List.length_map, List.length_zip]
  omega
def Sm (l : List Int) : Prop := ∀ x ∈ l, x.natAbs < 2 ^ 2000
theorem Sm.of {l : List Int} {B : Nat} (h : ∀ x ∈ l, x.natAbs ≤ B) (hB : B < 2 ^ 2000) : Sm l := fun x hx => Nat.lt_of_le_of_lt (h x hx) hB
theorem Sm.mul {x y : Int} (hx : x.natAbs < 2 ^ 2000) (hy : y.natAbs < 2 ^ 2000) : MulOk x y := MulOk.of hx hy (by decide) (by decide) (by decide)
theorem fr_ints {k : Nat} {l : List Int} {B : Nat} (hb : B ≤ 590) (h : ∀ x ∈ l, x.natAbs < 2 ^ B) {m : Nat} (hm : l.length ≤ m) : FrL (m * 1) k (l.map PyData.int) :=
  FrL.all (fun d hd => by obtain ⟨x, hx, rfl⟩ := List.mem_map.mp hd; exact Fr.int (h x hx) hb) (by rw [List.length_map]; exact hm)
theorem pd_ints (l : List Int) : (l.map DV.int).map DV.pd = l.map PyData.int := by rw [List.map_map]; congr 1; funext x; simp
theorem pure_ints (l : List Int) : (l.map DV.int).all DV.pure = true := by simp
theorem Fr.shaped {n k : Nat} {d : PyData} (f : Fr n k d) (hk : k ≤ 64 := by decide) : SeqAt.shaped d = true := by
  unfold SeqAt.shaped
  rw [f.lay, decide_eq_true (Nat.le_trans f.flat hk)]; rfl
/-- a sequence: a tuple, or a list that stands -/
def SeqD (G : Gh) (d : DV) (l : List DV) : Prop := d = .tup l ∨ d = .ro l ∨ ∃ a, d = .ref a ∧ G a = some (.lst l)
section
variable {G G1 : Gh} {d : DV} {l : List DV} {Q : DV → Gh → Prop}
theorem SeqD.sub (h : SeqD G d l) (s : Sub G G1) : SeqD G1 d l := by
  rcases h with h | h | ⟨a, h, e⟩
  · exact .inl h
  · exact .inr (.inl h)
  · exact .inr (.inr ⟨a, h, s _ _ e⟩)
theorem SeqD.ne {e : Addr} (h : SeqD G d l) (n : G e = none) : d ≠ .ref e := by
  rcases h with rfl | rfl | ⟨a, rfl, k⟩
  · intro q; cases q
  · intro q; cases q
  · intro q; cases q; rw [n] at k; cases k
theorem SeqD.old {e : Addr} (h : SeqD G d l) (n : d ≠ .ref e) (s : Old e G G1) : SeqD G1 d l := by
  rcases h with h | h | ⟨a, h, k⟩
  · exact .inl h
  · exact .inr (.inl h)
  · exact .inr (.inr ⟨a, h, s _ _ (by rintro rfl; exact n h) k⟩)
theorem SeqD.ix {i : Int} {x : DV} (h : SeqD G d l) (e : L2.atI l i = some x) (q : Q x G) : dIx d (.int i) G Q := by
  rcases h with rfl | rfl | ⟨a, rfl, k⟩
  · exact s_ixT e q
  · exact s_ixR e q
  · exact s_ixL k e q
theorem SeqD.len (h : SeqD G d l) (q : Q (.int l.length) G) : dLen [d] G Q := by
  rcases h with rfl | rfl | ⟨a, rfl, k⟩
  · exact s_lenT q
  · exact s_lenR q
  · exact s_lenL k q
/-- what must stay while it is walked -/
def stays (d : DV) (l : List DV) (G : Gh) : Prop := match d with | .ref a => G a = some (.lst l) | _ => True
theorem SeqD.stays (h : SeqD G d l) : stays d l G := by
  rcases h with rfl | rfl | ⟨a, rfl, k⟩
  · trivial
  · trivial
  · exact k
theorem SeqD.walk {I : List DV → (Gh → Prop) → Gh → Prop} (h : SeqD G d l) (q : I l (DL.stays d l) G) : seqK I d G := by
  rcases h with rfl | rfl | ⟨a, rfl, k⟩
  · exact s_seqT q
  · exact s_seqR q
  · exact s_seqL k q
theorem SeqD.src {S : List DV → (Gh → Prop) → Prop} (h : SeqD G d l) (q : S l (DL.stays d l)) : srcD d G S := by
  rcases h with rfl | rfl | ⟨a, rfl, k⟩
  · exact s_srcT q
  · exact s_srcR q
  · exact s_srcL k q
theorem SeqD.tuple (h : SeqD G d l) (q : Q (.tup l) G) : dTuple [d] G Q := by
  rcases h with rfl | rfl | ⟨a, rfl, k⟩
  · exact s_tupleT q
  · exact s_tupleR q
  · exact s_tupleL k q
theorem SeqD.list (h : SeqD G d l) (q : ∀ p G1, G p = none → Sub G G1 → G1 p = some (.lst l) → Q (.ref p) G1) : dList [d] G Q := by
  rcases h with rfl | rfl | ⟨a, rfl, k⟩
  · exact x_listT q
  · exact x_listR q
  · exact x_listL k q
end
theorem SeqD.t {G : Gh} {l : List DV} : SeqD G (.tup l) l := .inl rfl
theorem SeqD.r {G : Gh} {a : Addr} {l : List DV} (h : G a = some (.lst l)) : SeqD G (.ref a) l := .inr (.inr ⟨a, rfl, h⟩)
theorem at_some {α : Type} {f : α → DV} {l : List α} {i : Nat} {j : Int} (hi : i < l.length) (hj : j = i) : L2.atI (l.map f) j = some (f l[i]) := at_int (List.getElem?_eq_getElem hi) hj
theorem sum_step {α : Type} {l : List α} {i : Nat} {a : α} (f : α → Int) (h : l[i]? = some a) : ((l.take (i + 1)).map f).sum = ((l.take i).map f).sum + f a := by
  rw [List.take_add_one, h]
  simp [List.sum_append]
theorem zip_range {n : Nat} {l : List Int} (g : Nat → Int) (h : Int → Int → Int) (hl : l.length = n) : (((List.range n).map g).zip l).map (fun p => h p.1 p.2) = (List.range n).map fun j => h (g j) (l.getD j 0) := by
  apply List.ext_getElem?
  intro i
  by_cases hi : i < n
  · have e1 : ((List.range n).map g)[i]? = some (g i) := by rw [List.getElem?_map, List.getElem?_range hi]; rfl
    have e2 : l[i]? = some (l.getD i 0) := by rw [List.getD_eq_getElem?_getD, List.getElem?_eq_getElem (by omega)]; rfl
    have e3 : (((List.range n).map g).zip l)[i]? = some (g i, l.getD i 0) := by rw [List.getElem?_zip_eq_some]; exact ⟨e1, e2⟩
    rw [List.getElem?_map, e3, List.getElem?_map, List.getElem?_range hi]; rfl
  · rw [List.getElem?_eq_none (by simp; omega), List.getElem?_eq_none (by simp; omega)]
end DL

namespace DL
open PySem PySem.Spec L2
open PyProof.Rows hiding St

/-! ### a tuple so many times, by any number -/
theorem tuple_mulSame (l : Addr) (items : Array Value) (n : Nat) (dd : Option Addr) (sl : Array (Option Value)) (x : Int) (u : Tok) (c0 : (decide (x < -(2 ^ 63)) || decide (x ≥ 2 ^ 63)) = false) (c1 : (items.isEmpty || x == 1) = true) :
    Meets (Builtin.«tuple.__mul__» ⟨[.ref l, .int x u], []⟩) (fun _ R s => s.heap.get? l = some { cls := .type "tuple", dict := dd, data := .seq items n, slots := sl } ∧ R (.ok (.ret (Value.ref l))) s) :=
  .of_wp fun prog w A R s h => by
    obtain ⟨hp, g, d, tk, os⟩ := s
    obtain ⟨hl, h⟩ := h
    have f1 := AutoSeq1.idx_int
    wp_walk using wpAny_loadPart' hl
    repeat (first
      | (refine wpAny_ite_false (decide_eq_false (by rw [c0]; exact Bool.false_ne_true)) ?_; wp_walk using wpAny_loadPart' hl)
      | (refine wpAny_ite_true (decide_eq_true c1) ?_; wp_walk using wpAny_loadPart' hl))
    exact ⟨_, rfl, h⟩
theorem tuple_mulNone (l : Addr) (items : Array Value) (n : Nat) (dd : Option Addr) (sl : Array (Option Value)) (x : Int) (u : Tok) (c0 : (decide (x < -(2 ^ 63)) || decide (x ≥ 2 ^ 63)) = false) (c1 : (items.isEmpty || x == 1) = false) (c2 : (decide (x ≤ 0) || items.isEmpty) = true) :
    Meets (Builtin.«tuple.__mul__» ⟨[.ref l, .int x u], []⟩) (fun _ R s => s.heap.get? l = some { cls := .type "tuple", dict := dd, data := .seq items n, slots := sl } ∧
      R (.ok (.ret (Value.ref s.heap.objs.size))) { s with heap := s.heap.push { cls := Value.type "tuple", data := Data.seq #[] }, toks := s.toks }) :=
  .of_wp fun prog w A R s h => by
    obtain ⟨hp, g, d, tk, os⟩ := s
    obtain ⟨hl, h⟩ := h
    have f1 := AutoSeq1.idx_int
    wp_walk using wpAny_loadPart' hl
    repeat (first
      | (refine wpAny_ite_false (decide_eq_false (by rw [c0]; exact Bool.false_ne_true)) ?_; wp_walk using wpAny_loadPart' hl)
      | (refine wpAny_ite_false (decide_eq_false (by rw [c1]; exact Bool.false_ne_true)) ?_; wp_walk using wpAny_loadPart' hl)
      | (refine wpAny_ite_true (decide_eq_true c2) ?_; wp_walk using wpAny_loadPart' hl)
      | (refine wpAny_ite_false (decide_eq_false (Nat.not_lt.mpr (Nat.zero_le _))) ?_; wp_walk using wpAny_loadPart' hl))
    exact ⟨_, rfl, h⟩
theorem flat_one {α : Type} (xs : List α) : (List.replicate 1 xs).flatten = xs := by simp
theorem flat_nil {α : Type} (n : Nat) : (List.replicate n ([] : List α)).flatten = [] := by induction n with | zero => rfl | succ n ih => rw [List.replicate_succ, List.flatten_cons, ih]; rfl
section
variable {X : Cx}
def rTimes (K : PySem.W.Frag) : R2 := fun x y H Q => ∃ l k xs, x = .ref l ∧ y = .int k ∧ SqT K H l xs ∧ -1000 ≤ k ∧ k ≤ 1000 ∧ xs.length ≤ 1000 ∧ (xs = [] ∨ k = 1 → Q (.ref l) H) ∧ ∀ p, H p = none → Q (.ref p) (upd H p (.tup (List.replicate k.toNat xs).flatten))
theorem op_times : OpR X (binaryOp .Mult) (rTimes X.K) := by
  intro pins s σ H x y v u Q I rx ry h
  obtain ⟨l, k, xs, rfl, rfl, hT, h1, h2, hz, q1, q⟩ := h
  by_cases same : xs = [] ∨ k = 1 ∨ k ≤ 0
  · cases rx
    obtain ⟨t, rfl⟩ := ry
    obtain ⟨its, r, ⟨⟨cls, dd, data, sl⟩, ho, hc, n, hd⟩, hs⟩ := I.tuple hT
    simp only at hc hd
    subst hc hd
    have c0 : (decide (k < -(2 ^ 63)) || decide (k ≥ 2 ^ 63)) = false := by
      rw [decide_eq_false (by omega), decide_eq_false (by omega)] <;> rfl
    by_cases e1 : xs = [] ∨ k = 1
    · have c1 : (its.toArray.isEmpty || k == 1) = true := by
        rcases e1 with rfl | rfl
        · cases r; rfl
        · simp
      exact wpAny_binaryOp_repeat_ref (T := "tuple") (U := "int") (by decide) ⟨_, ho, rfl⟩ (fun s' => typeIs_int s' k t) noFill_tuple_mul F.fills_int_mul F.slot_int_rmul repeat_tuple F.slot_int_index.lookup
        (call_meets F.slot_int_rmul (typeIs_int s k t) F.entry_int_rmul (F.args_int_rmul_2 _ _) (int_rmul_tuple k t l its.toArray n dd sl)
          ⟨ho, rfl, ⟨_, ho, rfl⟩, call_meets F.slot_tuple_mul ⟨_, ho, rfl⟩ F.entry_tuple_mul (F.args_tuple_mul_2 _ _) (tuple_mulSame l its.toArray n dd sl k t c0 c1) ⟨ho, ⟨.ref l, H, I, rfl, q1 e1⟩⟩⟩)
    · have hk : k ≤ 0 := by
        rcases same with h | h | h
        · exact absurd (.inl h) e1
        · exact absurd (.inr h) e1
        · exact h
      have c1 : (its.toArray.isEmpty || k == 1) = false := by
        have : its ≠ [] := fun z => e1 (.inl (by subst z; cases r; rfl))
        cases its with
        | nil => exact absurd rfl this
        | cons a b => exact beq_eq_false_iff_ne.mpr (by omega)
      have c2 : (decide (k ≤ 0) || its.toArray.isEmpty) = true := by rw [decide_eq_true hk]; rfl
      refine wpAny_binaryOp_repeat_ref (T := "tuple") (U := "int") (by decide) ⟨_, ho, rfl⟩ (fun s' => typeIs_int s' k t) noFill_tuple_mul F.fills_int_mul F.slot_int_rmul repeat_tuple F.slot_int_index.lookup
        (call_meets F.slot_int_rmul (typeIs_int s k t) F.entry_int_rmul (F.args_int_rmul_2 _ _) (int_rmul_tuple k t l its.toArray n dd sl)
          ⟨ho, rfl, ⟨_, ho, rfl⟩, call_meets F.slot_tuple_mul ⟨_, ho, rfl⟩ F.entry_tuple_mul (F.args_tuple_mul_2 _ _) (tuple_mulNone l its.toArray n dd sl k t c0 c1 c2) ⟨ho, ?_⟩⟩)
      have e : (List.replicate k.toNat xs).flatten = [] := by rw [show k.toNat = 0 by omega]; rfl
      have q2 := q _ (I.hok.fresh (Nat.le_refl _))
      rw [e] at q2
      refine ⟨.ref s.heap.objs.size, _, I.laid (t' := s.toks) (o := .tup []) (fun b ob q => Heap.get?_push_of_some _ q) (Nat.le_refl _) ?_, rfl, q2⟩
      exact ⟨Nat.zero_le _, [], .nil, IsTup.new _ _⟩
  · exact op_repT pins s σ H _ _ v u Q I rx ry ⟨l, k, xs, rfl, rfl, hT, fun z => same (.inl z), by omega, h2, hz, q⟩
/-- products: numbers, lists and tuples so many times -/
def dMulA : D2 := fun x y G Q => match x, y with
  | .tup l, .int n => -1000 ≤ n ∧ n ≤ 1000 ∧ l.length ≤ 1000 ∧ Q (.tup (List.replicate n.toNat l).flatten) G
  | x, y => dMul x y G Q
theorem o_mulA : OpD X (binaryOp .Mult) dMulA := by
  rintro pins s σ H x y v u Q I rx ry ⟨dx, dy, G, P, vx, vy, wg, h, k⟩
  unfold dMulA at h
  split at h
  · rename_i l n
    cases vx with
    | tup sq rs =>
      cases vy
      obtain ⟨h1, h2, h3, h⟩ := h
      refine op_times pins s σ H _ _ v u Q I rx ry ⟨_, _, _, rfl, rfl, (SqT.of sq), h1, h2, by rw [rs.len]; exact h3, fun e => ?_, fun p np => ?_⟩
      · have e2 : (List.replicate n.toNat l).flatten = l := by
          rcases e with e | rfl
          · subst e; cases rs; exact flat_nil _
          · exact flat_one _
        rw [e2] at h
        exact op_end wg k h (.tup sq rs)
      · exact k _ _ _ _ h (wg.new np) (Ext.new np) (VR.newT wg np (rs.reps _))
  · exact o_mul pins s σ H x y v u Q I rx ry ⟨dx, dy, G, P, vx, vy, wg, h, k⟩
variable {G : Gh} {Q : DV → Gh → Prop} {l m : List DV} {a b : Int}
theorem s_mulT (h : -1000 ≤ a ∧ a ≤ 1000 ∧ l.length ≤ 1000) (q : Q (.tup (List.replicate a.toNat l).flatten) G) : dMulA (.tup l) (.int a) G Q := ⟨h.1, h.2.1, h.2.2, q⟩
theorem s_mulA (h : MulOk a b) (q : Q (.int (a * b)) G) : dMulA (.int a) (.int b) G Q := ⟨h, q⟩
theorem x_mulL {e : Addr} (he : G e = some (.lst l)) (h : -(2 ^ 63) ≤ a ∧ a < 2 ^ 63 ∧ l.length * a.toNat ≤ sizeLine) (q : ∀ p G1, G p = none → Sub G G1 → G1 p = some (.lst (List.replicate a.toNat l).flatten) → Q (.ref p) G1) : dMul (.ref e) (.int a) G Q := ⟨l, he, h.1, h.2.1, h.2.2, x_new q⟩
theorem x_mulLA {e : Addr} (he : G e = some (.lst l)) (h : -(2 ^ 63) ≤ a ∧ a < 2 ^ 63 ∧ l.length * a.toNat ≤ sizeLine) (q : ∀ p G1, G p = none → Sub G G1 → G1 p = some (.lst (List.replicate a.toNat l).flatten) → Q (.ref p) G1) : dMulA (.ref e) (.int a) G Q := ⟨l, he, h.1, h.2.1, h.2.2, x_new q⟩
theorem flat_int (n : Nat) (x : Int) : (List.replicate n [DV.int x]).flatten = (List.replicate n x).map DV.int := by
  induction n with
  | zero => rfl
  | succ n ih => rw [List.replicate_succ, List.flatten_cons, ih]; rfl

/-! ### list(range(n)) -/
variable {W : WX} {e : Expr} {wr : DA} {wa : DE} {pos p p2 : Pos}
def lrK (Q : DV → Gh → Prop) (d : DV) (G : Gh) : Prop := match d with
  | .int n => (0 ≤ n ∧ n ≤ 1000000) ∧ ∀ p, G p = none → Q (.ref p) (gup G p (.lst (intsFrom 0 n.toNat)))
  | _ => False
def wListRg (wa : DE) : DE := fun Y env G Q => wa Y env G (lrK Q)
theorem rgV_ints {K : PySem.W.Frag} {H : Hp} (n : Int) : VRs K H (rgV 0 n) (intsFrom 0 n.toNat) := by
  have e1 : rgV 0 n = ((List.range n.toNat).map fun i => (0 + (i : Nat) : Int)).map V.int := by unfold rgV; rw [List.map_map, Int.sub_zero]; rfl
  have e2 : intsFrom 0 n.toNat = ((List.range n.toNat).map fun i => (0 + (i : Nat) : Int)).map DV.int := by rw [intsFrom_eq, List.map_map]; rfl
  rw [e1, e2]
  exact VRs.ints _
theorem q_listRg (hm : X.mg "list" = none) (hr : X.mg "range" = none) (hc : X.calm = true) (he : QE X W e wa) (hg : Gl X "list" := by rfl) (hgr : Gl X "range" := by rfl) (na : starEach [.Call (.Name "range" p2) [e] [] pos] X.env = (false, eval (.Call (.Name "range" p2) [e] [] pos) X.env) :: starEach [] X.env := by rfl)
    (na2 : starEach [e] X.env = (false, eval e X.env) :: starEach [] X.env := by rfl) {pos2 : Pos} : QE X W (.Call (.Name "list" p) [.Call (.Name "range" p2) [e] [] pos] [] pos2) (wListRg wa) :=
  ⟨PE.wk (pe_listRg hc hg hm (prg_1 hgr hr he.pe na2) na) fun σ H Q ⟨Y, env, G, P, er, wg, h, k, kx⟩ => ⟨Y, env, G, _, er, wg, h, fun d G1 v H1 h1 w1 x1 r => by
    cases d <;> first | exact h1.elim | skip
    cases r
    obtain ⟨hn, h1⟩ := h1
    exact ⟨_, rfl, RgOk.of_le (Int.le_refl 0) (by omega) (by decide) hn.1, fun q nq => k _ _ _ _ (h1 q (w1.non nq)) (w1.newL nq (rgV_ints _)) (x1.trans (Ext.newC nq)) (.ref q)⟩, kx⟩⟩
variable {Y : DX} {env : Dv}
theorem s_listRg {wa : DE} (q : wa Y env G (lrK Q)) : wListRg wa Y env G Q := q
theorem x_lr {n : Int} (h : 0 ≤ n ∧ n ≤ 1000000) (q : ∀ p G1, G p = none → Sub G G1 → G1 p = some (.lst (intsFrom 0 n.toNat)) → Q (.ref p) G1) : lrK Q (.int n) G := ⟨h, x_new q⟩
end
/-! ### list.insert(i, x) -/
section
variable {X : Cx}
def dInsert : DM := fun x ds G Q => match x, ds with
  | .ref a, [.int i, d] => ∃ l, G a = some (.lst l) ∧ l.length < sizeLine ∧ 0 ≤ i ∧ i < 2 ^ 63 ∧ Q .non (gup G a (.lst (l.take i.toNat ++ [d] ++ l.drop i.toNat)))
  | _, _ => False
theorem m_insert : MtD X "list.insert" dInsert := by
  rintro pins s σ H x xs v us Q I rx rs ⟨dx, ds, G, P, vx, vs, wg, h, k⟩
  match dx, ds, vx, vs, h with
  | .ref a, [.int i, d], .ref _, .cons (.int _) (.cons r .nil), ⟨l, ga, hl, i0, i1, h⟩ =>
    obtain ⟨ys, ha, ra⟩ := wg _ _ ga
    exact mt_insert pins s σ H _ _ v us Q I rx rs ⟨a, ys, i, _, rfl, rfl, ha, by rw [ra.len]; exact hl, i0, i1, k _ _ _ _ h (wg.setL ga (((ra.take _).app (.one r)).app (ra.drop _))) (Ext.setC ga) .non⟩
variable {G : Gh} {Q : DV → Gh → Prop} {l : List DV} {d : DV}
theorem x_insert {e : Addr} {i : Int} (he : G e = some (.lst l)) (h : l.length < sizeLine ∧ 0 ≤ i ∧ i < 2 ^ 63) (q : ∀ G1, Old e G G1 → G1 e = some (.lst (l.take i.toNat ++ [d] ++ l.drop i.toNat)) → Q .non G1) : dInsert (.ref e) [.int i, d] G Q := ⟨l, he, h.1, h.2.1, h.2.2, q _ Old.set gup_same⟩
theorem x_pop {e : Addr} (he : G e = some (.lst l)) (h : l[l.length - 1]? = some d) (q : ∀ G1, Old e G G1 → G1 e = some (.lst l.dropLast) → Q d G1) : dPop (.ref e) [] G Q := ⟨l, d, he, h, q _ Old.set gup_same⟩
theorem x_popAt {e : Addr} {i : Int} {n : Nat} (he : G e = some (.lst l)) (h : -(2 ^ 63) ≤ i ∧ i < 2 ^ 63) (hn : seqIndex? i l.length = some n) (hd : l[n]? = some d) (q : ∀ G1, Old e G G1 → G1 e = some (.lst (l.eraseIdx n)) → Q d G1) : dPop (.ref e) [.int i] G Q := ⟨l, n, d, he, h.1, h.2, hn, hd, q _ Old.set gup_same⟩
end
/-! ### places -/
theorem ixN_lt {n : Nat} {v : Int} (h0 : 0 ≤ v) (h1 : v < n) : ixN n v = some v.toNat := by
  unfold ixN; rw [if_pos h0, if_pos h1]
theorem seqIndex_lt {n : Nat} {v : Int} (h0 : 0 ≤ v) (h1 : v < n) : seqIndex? v n = some v.toNat := (ixN_seq (ixN_lt h0 h1)).1
theorem set_ints {xs : List Int} {j : Nat} {y : Int} : (xs.map DV.int).set j (.int y) = (xs.set j y).map DV.int := by rw [List.map_set]
theorem mem_set_of {α : Type} {xs : List α} {P : α → Prop} {j : Nat} {y : α} (h : ∀ x ∈ xs, P x) (hy : P y) : ∀ x ∈ xs.set j y, P x := fun x hx => by
  rcases List.mem_or_eq_of_mem_set hx with h1 | h1
  · exact h x h1
  · rw [h1]; exact hy
theorem erase_ints {α : Type} {f : α → DV} : ∀ {xs : List α} {j : Nat}, (xs.map f).eraseIdx j = (xs.eraseIdx j).map f
  | [], _ => rfl
  | _ :: _, 0 => rfl
  | x :: xs, j + 1 => by
    show f x :: (xs.map f).eraseIdx j = f x :: (xs.eraseIdx j).map f
    rw [erase_ints]
theorem log_small {m : Int} (h0 : 0 < m) (h : m ≤ 1000000000000) : m.natAbs.log2 < 9000 := by
  refine Nat.lt_of_lt_of_le ((Nat.log2_lt (by omega)).mpr (show m.natAbs < 2 ^ 40 by omega)) (by decide)
section
variable {G : Gh} {Q : DV → Gh → Prop}
/-- one of some things, by a place within -/
theorem pickA {α : Type} (enc : α → DV) (as : List α) {l : List DV} {e : Addr} {v : Int} (he : G e = some (.lst l)) (hl : l = as.map enc) (h0 : 0 ≤ v) (h1 : v < as.length) (q : ∀ a, a ∈ as → Q (enc a) G) : dIx (.ref e) (.int v) G Q := by
  subst hl
  have hj : v.toNat < as.length := by omega
  exact s_ixL he (at_some hj (by omega)) (q _ (List.getElem_mem hj))
theorem x_setI {e : Addr} {xs : List Int} {v y : Int} {U : Gh → Prop} (he : G e = some (.lst (xs.map DV.int))) (h0 : 0 ≤ v) (h1 : v < xs.length) (q : ∀ G1, Old e G G1 → G1 e = some (.lst ((xs.set v.toNat y).map DV.int)) → U G1) : dSet (.ref e) (.int v) (.int y) G U :=
  x_setL he (by rw [List.length_map]; exact ixN_lt h0 h1) set_ints q
end
end DL

namespace DL
open PySem PySem.Spec L2
open PyProof.Rows hiding St

/-! ### dicts with numbers and texts as keys -/
def valD {α κ : Type} [DecidableEq κ] (kvs : List (κ × α)) (k : κ) : Option α := (kvs.find? fun kv => decide (kv.1 = k)).map (·.2)
def putD {α κ : Type} [DecidableEq κ] (kvs : List (κ × α)) (k : κ) (v : α) : List (κ × α) :=
  if (kvs.any fun kv => decide (kv.1 = k)) = true then kvs.map (fun kv => if kv.1 = k then (kv.1, v) else kv) else kvs ++ [(k, v)]
def mergeD {α κ : Type} [DecidableEq κ] (kvs more : List (κ × α)) : List (κ × α) := more.foldl (fun acc kv => putD acc kv.1 kv.2) kvs
def keyD : DV → Option Key
  | .int i => some (.inl i)
  | .str s => some (.inr s)
  | _ => none
/-- the keys of a tuple of numbers and texts -/
def keysD : List DV → Option (List Key)
  | [] => some []
  | d :: r => match keyD d, keysD r with
    | some k, some ks => some (k :: ks)
    | _, _ => none
def keyT : DV → Option (List Key)
  | .tup l => keysD l
  | _ => none
def kD : Key → DV
  | .inl i => .int i
  | .inr s => .str s
section
variable {K : PySem.W.Frag} {H : Hp} {κ : Type} [DecidableEq κ]
theorem KR.len : ∀ {xs : List (κ × V)} {ys : List (κ × DV)}, KR K H xs ys → xs.length = ys.length
  | _, _, .nil => rfl
  | _, _, .cons _ t => by simp [t.len]
theorem KR.val {k : κ} {d : DV} : ∀ {xs : List (κ × V)} {ys : List (κ × DV)}, KR K H xs ys → valD ys k = some d → ∃ v, valV xs k = some v ∧ VR K H v d
  | _, _, .nil, e => by simp [valD] at e
  | _, (_ :: ys'), .cons (k := k') (v := v) (d := d') r t, e => by
    by_cases hk : k' = k
    · subst hk
      simp [valD, List.find?_cons] at e
      subst e
      exact ⟨v, by simp [valV, List.find?_cons], r⟩
    · have e' : valD ys' k = some d := by simpa [valD, List.find?_cons, hk] using e
      obtain ⟨w, h1, h2⟩ := t.val e'
      exact ⟨w, by simpa [valV, List.find?_cons, hk] using h1, h2⟩
theorem KR.isSome {k : κ} : ∀ {xs : List (κ × V)} {ys : List (κ × DV)}, KR K H xs ys → (valV xs k).isSome = (valD ys k).isSome
  | _, _, .nil => rfl
  | _, _, .cons (k := k') r t => by
    by_cases hk : k' = k
    · simp [valV, valD, List.find?_cons, hk]
    · have := t.isSome (k := k)
      simpa [valV, valD, List.find?_cons, hk] using this
theorem KR.any {k : κ} : ∀ {xs : List (κ × V)} {ys : List (κ × DV)}, KR K H xs ys → (xs.any fun kv => decide (kv.1 = k)) = (ys.any fun kv => decide (kv.1 = k))
  | _, _, .nil => rfl
  | _, _, .cons r t => by rw [List.any_cons, List.any_cons, t.any]
theorem KR.app : ∀ {xs us : List (κ × V)} {ys ds : List (κ × DV)}, KR K H xs ys → KR K H us ds → KR K H (xs ++ us) (ys ++ ds)
  | _, _, _, _, .nil, s => s
  | _, _, _, _, .cons r t, s => .cons r (t.app s)
theorem KR.over {k : κ} {v : V} {d : DV} (r : VR K H v d) : ∀ {xs : List (κ × V)} {ys : List (κ × DV)}, KR K H xs ys → KR K H (xs.map fun kv => if kv.1 = k then (kv.1, v) else kv) (ys.map fun kv => if kv.1 = k then (kv.1, d) else kv)
  | _, _, .nil => .nil
  | _, _, .cons (k := k') q t => by
    rw [List.map_cons, List.map_cons]
    by_cases hk : k' = k
    · simp only [hk, if_true]; exact .cons r (t.over r)
    · simp only [hk, if_false]; exact .cons q (t.over r)
theorem KR.put {k : κ} {v : V} {d : DV} {xs : List (κ × V)} {ys : List (κ × DV)} (t : KR K H xs ys) (r : VR K H v d) : KR K H (putK xs k v) (putD ys k d) := by
  unfold putK putD
  rw [t.any (k := k)]
  split
  · exact t.over r
  · exact t.app (.cons r .nil)
omit [DecidableEq κ] in
theorem KR.merge : ∀ {us : List (Key × V)} {ds : List (Key × DV)} {xs : List (Key × V)} {ys : List (Key × DV)}, KR K H us ds → KR K H xs ys → KR K H (mergeK xs us) (mergeD ys ds)
  | _, _, _, _, .nil, s => s
  | _, _, _, _, .cons r t, s => t.merge (s.put r)
theorem VR.key {v : V} {d : DV} {k : Key} (r : VR K H v d) (h : keyD d = some k) : v = kV k := by
  cases r <;> first | (cases h; rfl) | cases h
theorem VRs.keys : ∀ {vs : List V} {ds : List DV} {ks : List Key}, VRs K H vs ds → keysD ds = some ks → vs = ks.map kV
  | _, _, ks, .nil, h => by cases h; rfl
  | _, _, ks, .cons (d := d) (ds := ds) r t, h => by
    unfold keysD at h
    cases hk : keyD d with
    | none => rw [hk] at h; cases h
    | some k =>
      cases hr : keysD ds with
      | none => rw [hk, hr] at h; cases h
      | some ks' =>
        rw [hk, hr] at h
        cases h
        rw [r.key hk, VRs.keys t hr]; rfl
theorem VR.keyT {v : V} {d : DV} {ks : List Key} (r : VR K H v d) (h : DL.keyT d = some ks) : ∃ b, v = .ref b ∧ H b = some (.tup (ks.map kV)) := by
  cases r with
  | tup e rs => exact ⟨_, rfl, by rw [← rs.keys h]; exact e⟩
  | _ => cases h
theorem keysD_ints (l : List Int) : keysD (l.map DV.int) = some (l.map Sum.inl) := by
  induction l with
  | nil => rfl
  | cons a l ih => simp only [List.map_cons, keysD, ih, keyD]
/-- pairs -/
inductive PRs (K : PySem.W.Frag) (H : Hp) : List (V × V) → List (DV × DV) → Prop
  | nil : PRs K H [] []
  | cons {x y : V} {a b : DV} {xs : List (V × V)} {ys : List (DV × DV)} : VR K H x a → VR K H y b → PRs K H xs ys → PRs K H ((x, y) :: xs) ((a, b) :: ys)
theorem PRs.keys : ∀ {us : List (V × V)} {kvs : List (Key × DV)}, PRs K H us (kvs.map fun kv => (kD kv.1, kv.2)) → ∃ ws : List (Key × V), us = ws.map (fun kv => (kV kv.1, kv.2)) ∧ KR K H ws kvs
  | _, [], .nil => ⟨[], rfl, .nil⟩
  | _, (k, d) :: kvs, .cons (y := y) r q t => by
    obtain ⟨ws, e, r2⟩ := PRs.keys (kvs := kvs) t
    have : _ = kV k := VR.key (k := k) r (by cases k <;> rfl)
    exact ⟨(k, y) :: ws, by rw [e, this]; rfl, .cons q r2⟩
end
def dPairs : List (DE × DE) → DX → Dv → Gh → (List (DV × DV) → Gh → Prop) → Prop
  | [], _, _, G, Q => Q [] G
  | (k, v) :: r, Y, env, G, Q => k Y env G fun x G1 => v Y env G1 fun y G2 => dPairs r Y env G2 fun ps G3 => Q ((x, y) :: ps) G3
def wDisp (trs : List (DE × DE)) : DE := fun Y env G Q => dPairs trs Y env G fun ps G1 => ∃ kvs : List (Key × DV), ps = kvs.map (fun kv => (kD kv.1, kv.2)) ∧ kvs.length ≤ 15 ∧ ∀ p, G1 p = none → Q (.ref p) (gup G1 p (.dic (mergeD [] kvs)))
section
variable {X : Cx} {W : WX} {pos : Pos}
def TEp (K : PySem.W.Frag) (W : WX) (t : DE × DE) : TE × TE := (TEl K W t.1, TEl K W t.2)
theorem PRs.ext {K : PySem.W.Frag} {G G' : Gh} {H H' : Hp} (w : WG K G H) (x : Ext G H G' H') : ∀ {us : List (V × V)} {ps : List (DV × DV)}, PRs K H us ps → PRs K H' us ps
  | _, _, .nil => .nil
  | _, _, .cons r q t => .cons (r.ext w x) (q.ext w x) (t.ext w x)
theorem pairs_parts {K : PySem.W.Frag} : ∀ (trs : List (DE × DE)) (σ : L2.St) (H : Hp) (Q : List (V × V) → Hp → Prop) (Y : DX) (env : Dv) (G : Gh) (P : List (DV × DV) → Gh → Prop), ER K H σ env → WG K G H → dPairs trs Y env G P →
    (∀ ps G' us H', P ps G' → WG K G' H' → Ext G H G' H' → PRs K H' us ps → Q us H') → XLe K G H Y (fun c d => W c d σ) → tPairs (trs.map (TEp K W)) σ H Q
  | [], σ, H, Q, Y, env, G, P, er, wg, h, k, kx => k [] G [] H h wg Ext.refl .nil
  | (a, b) :: r, σ, H, Q, Y, env, G, P, er, wg, h, k, kx =>
    ⟨Y, env, G, _, er, wg, h, fun x G1 v H1 h1 w1 x1 r1 => ⟨Y, env, G1, _, er.ext wg x1, w1, h1, fun y G2 u H2 h2 w2 x2 r2 =>
      pairs_parts r σ H2 _ Y env G2 _ ((er.ext wg x1).ext w1 x2) w2 h2 (fun ps G3 us H3 h3 w3 x3 r3 => k _ _ _ _ h3 w3 ((x1.trans x2).trans x3) (.cons ((r1.ext w1 x2).ext w2 x3) (r2.ext w2 x3) r3)) ((kx.step x1).step x2), kx.step x1⟩, kx⟩
theorem q_disp {keys : List (Option Expr)} {values : List Expr} {trs : List (DE × DE)} (h : PPs X pos keys values (trs.map (TEp X.K W))) (hall : keys.all (·.isSome) = true := by rfl) (hl : keys.length = values.length := by rfl) (h0 : keys ≠ [] := by intro z; cases z)
    (h15 : keys.length ≤ 15 := by decide) : QE X W (.Dict keys values pos) (wDisp trs) := by
  refine ⟨PE.wk (pe_disp h hall hl h0 h15) ?_⟩
  rintro σ H Q ⟨Y, env, G, P, er, wg, hw, k, kx⟩ p hp
  have x0 : Ext G H G (upd H p (.dK [])) := Ext.new hp
  refine pairs_parts trs σ _ _ Y env G _ (er.ext wg x0) (wg.new hp) hw (fun ps G1 us H1 ⟨kvs, e1, e15, q⟩ w1 x1 r1 => ?_) (kx.step x0)
  subst e1
  obtain ⟨ws, rfl, kr⟩ := PRs.keys r1
  obtain ⟨e2, n2⟩ := x1 p _ upd_same (wg.non hp)
  have wp : WG X.K (gup G1 p (.dic [])) H1 := fun a c e => by
    by_cases ha : a = p
    · subst ha
      rw [gup_same] at e; cases e
      exact ⟨[], e2, .nil⟩
    · rw [gup_ne ha] at e; exact w1 a c e
  have kr2 : KR X.K H1 (mergeK [] ws) (mergeD [] kvs) := kr.merge .nil
  have xp : Ext (gup G1 p (.dic [])) H1 (gup (gup G1 p (.dic [])) p (.dic (mergeD [] kvs))) (upd H1 p (.dK (mergeK [] ws))) := Ext.setC gup_same
  have w2 : WG X.K (gup G1 p (.dic (mergeD [] kvs))) (upd H1 p (.dK (mergeK [] ws))) := by
    have := wp.put (a := p) (c := .dic (mergeD [] kvs)) (o := .dK (mergeK [] ws)) (.inr ⟨_, gup_same⟩) ⟨_, upd_same, kr2.ext wp xp⟩
    rw [gup_gup] at this
    exact this
  refine ⟨e2, ws, rfl, by rw [kr.len]; exact e15, k _ _ _ _ (q p n2) w2 (fun a o e n => ?_) (.ref p)⟩
  have hap : a ≠ p := by rintro rfl; rw [hp] at e; cases e
  have e0 : (upd H p (.dK [])) a = some o := by rw [upd_ne hap]; exact e
  obtain ⟨e3, n3⟩ := x1 a o e0 n
  exact ⟨by rw [upd_ne hap]; exact e3, by rw [gup_ne hap]; exact n3⟩
/-- d[k] -/
def dIxD : D2 := fun x y G Q => match x with
  | .ref a => (∃ kvs k d, G a = some (.dic kvs) ∧ keyD y = some k ∧ valD kvs k = some d ∧ Q d G) ∨ ∃ kvs k d, G a = some (.dt kvs) ∧ keyT y = some k ∧ valD kvs k = some d ∧ Q d G
  | _ => False
theorem ix_dict (hu : X.A.units + 1 < cLine) : IxR X (fun x y H Q => ∃ a v, x = .ref a ∧ DGet H a y (some v) ∧ Q v H) := by
  intro value slice pins s σ H x y v u Q I rx ry h hs
  obtain ⟨a, z, rfl, g, q⟩ := h
  obtain rfl : v = Value.ref a := rx
  have hT := dict_typeIs I g
  unfold subscriptTail
  refine wpAny_bind ?_
  rw [getitemInPython_of_ne hT.not_modules]
  refine wpAny_bind (wpAny_specialOf hT PySem.F.slot_dict_getitem.lookup ?_)
  have fin : wpAny (model X.prog X.w) X.A (subscripted slice false (.ref a) u) (fun r s₃ => wpAny (model X.prog X.w) X.A (letTemporaryGo value (.ref a) r >>= fun _ => pure r) (EP X pins σ Q) X.xe s₃) X.xe s := by
    rw [hs]
    exact wpAny_operating (wpAny_mono (d_getItem (Q := EP X pins σ Q) hu I g ry fun w' s3 I3 rw' => ⟨z, H, I3, rw', q⟩) (fun r s₃ h₃ => wpAny_bind (wpAny_letTemporaryGo (wpAny_pure h₃))) fun _ _ x => x)
  first
    | exact wpAny_pure (wpAny_bind fin)
    | exact wpAny_bind (wpAny_pure (wpAny_bind fin))
    | exact wpAny_bind fin
theorem o_ixD (hu : X.A.units + 64 < cLine) : IxD X dIxD := by
  rintro value slice pins s σ H x y v u Q I rx ry ⟨dx, dy, G, P, vx, vy, wg, h, k⟩ hs
  cases dx <;> first | exact h.elim | skip
  rename_i a
  cases vx
  rcases h with ⟨kvs, kk, d, ga, hk, hv, q⟩ | ⟨kvs, kk, d, ga, hk, hv, q⟩
  · obtain ⟨ws, ha, kr⟩ := wg _ _ ga
    obtain ⟨z, hz, rz⟩ := kr.val hv
    rw [vy.key hk] at ry
    exact ix_dict (by omega) value slice pins s σ H _ _ v u Q I rx ry ⟨a, z, rfl, hz ▸ DGet.k ha, op_end wg k q rz⟩ hs
  · obtain ⟨ws, ha, kr⟩ := wg _ _ ga
    obtain ⟨z, hz, rz⟩ := kr.val hv
    obtain ⟨b, rfl, eb⟩ := vy.keyT hk
    exact ix_dict (by omega) value slice pins s σ H _ _ v u Q I rx ry ⟨a, z, rfl, hz ▸ DGet.t ha eb, op_end wg k q rz⟩ hs
/-- d[k] = v -/
def dSetDi : D3 := fun o i v G Q => match o with
  | .ref a => (∃ kvs k, G a = some (.dic kvs) ∧ keyD i = some k ∧ kvs.length < sizeLine ∧ Q (gup G a (.dic (putD kvs k v)))) ∨ ∃ kvs k, G a = some (.dt kvs) ∧ keyT i = some k ∧ kvs.length < sizeLine ∧ Q (gup G a (.dt (putD kvs k v)))
  | _ => False
theorem o_setDi (hu : X.A.units + 64 < cLine) : SetD X dSetDi := by
  rintro pins s σ H o i v ov iv u Q I ro ri rv ⟨dv, dx, dy, G, P, vo, vi, vv, wg, h, k⟩
  cases dv <;> first | exact h.elim | skip
  rename_i a
  cases vo
  rcases h with ⟨kvs, kk, ga, hk, hl, q⟩ | ⟨kvs, kk, ga, hk, hl, q⟩
  · obtain ⟨ws, ha, kr⟩ := wg _ _ ga
    rw [vi.key hk] at ri
    have kr2 := kr.put (k := kk) vv
    have xp : Ext G H (gup G a (.dic (putD kvs kk dy))) (upd H a (.dK (putK ws kk v))) := Ext.setC ga
    exact set_dict (by omega) pins s σ H _ _ v ov iv u Q I ro ri rv ⟨a, _, rfl, DPut.k ha (by rw [kr.len]; exact hl), k _ _ q (wg.put (.inr ⟨_, ga⟩) ⟨_, upd_same, kr2.ext wg xp⟩) xp⟩
  · obtain ⟨ws, ha, kr⟩ := wg _ _ ga
    obtain ⟨b, rfl, eb⟩ := vi.keyT hk
    have kr2 := kr.put (k := kk) vv
    have xp : Ext G H (gup G a (.dt (putD kvs kk dy))) (upd H a (.dT (putK ws kk v))) := Ext.setC ga
    exact set_dict (by omega) pins s σ H _ _ v ov iv u Q I ro ri rv ⟨a, _, rfl, DPut.t ha eb (by rw [kr.len]; exact hl), k _ _ q (wg.put (.inr ⟨_, ga⟩) ⟨_, upd_same, kr2.ext wg xp⟩) xp⟩
variable {G : Gh} {Q : DV → Gh → Prop} {d y : DV} {e : Addr} {k : Key} {kvs : List (Key × DV)}
theorem s_ixD (he : G e = some (.dic kvs)) (hk : keyD y = some k) (hv : valD kvs k = some d) (q : Q d G) : dIxD (.ref e) y G Q := .inl ⟨kvs, k, d, he, hk, hv, q⟩
theorem s_ixDt {ks : List Key} {kws : List (List Key × DV)} (he : G e = some (.dt kws)) (hk : keyT y = some ks) (hv : valD kws ks = some d) (q : Q d G) : dIxD (.ref e) y G Q := .inr ⟨kws, ks, d, he, hk, hv, q⟩
theorem x_setDi {i : DV} {U : Gh → Prop} (he : G e = some (.dic kvs)) (hk : keyD i = some k) (hl : kvs.length < sizeLine) (q : ∀ G1, Old e G G1 → G1 e = some (.dic (putD kvs k d)) → U G1) : dSetDi (.ref e) i d G U := .inl ⟨kvs, k, he, hk, hl, q _ Old.set gup_same⟩
theorem x_setDt {i : DV} {U : Gh → Prop} {ks : List Key} {kws : List (List Key × DV)} (he : G e = some (.dt kws)) (hk : keyT i = some ks) (hl : kws.length < sizeLine) (q : ∀ G1, Old e G G1 → G1 e = some (.dt (putD kws ks d)) → U G1) : dSetDi (.ref e) i d G U := .inr ⟨kws, ks, he, hk, hl, q _ Old.set gup_same⟩
variable {Y : DX} {env : Dv} {trs : List (DE × DE)} {wa wb : DE} {R : List (DV × DV) → Gh → Prop}
def dispK (Q : DV → Gh → Prop) (ps : List (DV × DV)) (G1 : Gh) : Prop := ∃ kvs : List (Key × DV), ps = kvs.map (fun kv => (kD kv.1, kv.2)) ∧ kvs.length ≤ 15 ∧ ∀ p, G1 p = none → Q (.ref p) (gup G1 p (.dic (mergeD [] kvs)))
theorem s_disp (q : dPairs trs Y env G (dispK Q)) : wDisp trs Y env G Q := q
theorem s_pairs0 (q : R [] G) : dPairs [] Y env G R := q
theorem s_pairs (q : wa Y env G fun x G1 => wb Y env G1 fun y G2 => dPairs trs Y env G2 fun ps G3 => R ((x, y) :: ps) G3) : dPairs ((wa, wb) :: trs) Y env G R := q
theorem x_disp {ps : List (DV × DV)} (kvs : List (Key × DV)) (h : ps = kvs.map (fun kv => (kD kv.1, kv.2))) (hl : kvs.length ≤ 15) (q : ∀ p G1, G p = none → Sub G G1 → G1 p = some (.dic (mergeD [] kvs)) → Q (.ref p) G1) : dispK Q ps G := ⟨kvs, h, hl, fun p hp => q p _ hp (Sub.new hp) gup_same⟩
end
section
variable {X : Cx} {W : WX} {pos : Pos} {Y : DX} {env : Dv} {G : Gh} {Q : DV → Gh → Prop}
def wDnew : DE := fun _ _ G Q => ∀ p, G p = none → Q (.ref p) (gup G p (.dic []))
theorem q_dnew : QE X W (.Dict [] [] pos) wDnew :=
  ⟨PE.wk pe_dnewK fun σ H Q ⟨Y, env, G, P, er, wg, h, k, kx⟩ p hp => k _ _ _ _ (h p (wg.non hp)) (wg.put (.inl hp) ⟨[], upd_same, .nil⟩) (Ext.newC hp) (.ref p)⟩
theorem x_dnew (q : ∀ p G1, G p = none → Sub G G1 → G1 p = some (.dic []) → Q (.ref p) G1) : wDnew Y env G Q := fun p hp => q p _ hp (Sub.new hp) gup_same
end
theorem Sub.transR {G G1 G2 : Gh} (k : Sub G1 G2) (h : Sub G G1) : Sub G G2 := h.trans k
theorem Sub.ownR {G g g1 : Gh} {e : Addr} (k : Old e g g1) (n : G e = none) (h : Sub G g) : Sub G g1 := h.own n k
theorem none_sub {G G1 : Gh} {e : Addr} (n : G1 e = none) (h : Sub G G1) : G e = none := by
  cases z : G e with
  | none => rfl
  | some u => rw [h _ _ z] at n; cases n
def toK : List (DV × DV) → Option (List (Key × DV))
  | [] => some []
  | (a, b) :: r => match keyD a, toK r with
    | some k, some l => some ((k, b) :: l)
    | _, _ => none
theorem toK_ok : ∀ {ps : List (DV × DV)} {kvs : List (Key × DV)}, toK ps = some kvs → ps = kvs.map (fun kv => (kD kv.1, kv.2))
  | [], _, h => by cases h; rfl
  | (a, b) :: r, kvs, h => by
    unfold toK at h
    cases ka : keyD a with
    | none => rw [ka] at h; cases h
    | some k =>
      cases kr : toK r with
      | none => rw [ka, kr] at h; cases h
      | some l =>
        rw [ka, kr] at h
        cases h
        rw [toK_ok kr]
        have : a = kD k := by cases a <;> first | (cases ka; rfl) | cases ka
        rw [this]; rfl
theorem x_dispR {G : Gh} {Q : DV → Gh → Prop} {ps : List (DV × DV)} {kvs m : List (Key × DV)} (h : toK ps = some kvs) (hm : mergeD [] kvs = m) (hl : kvs.length ≤ 15) (q : ∀ p G1, G p = none → Sub G G1 → G1 p = some (.dic m) → Q (.ref p) G1) : dispK Q ps G := by
  subst hm
  exact x_disp kvs (toK_ok h) hl q
theorem kv_few {α : Type} {l : List α} (h : Nat.ble l.length 1000 = true) : l.length < sizeLine := Nat.lt_of_le_of_lt (Nat.le_of_ble_eq_true h) (by decide)
theorem ne_goneR {G : Gh} {a b : Addr} {c : Cell} (h' : G b = none) (h : G a = some c) : a ≠ b := ne_gone h h'
/-! loops and comprehensions over a written list, turn by turn -/
section
variable {stay : Gh → Prop} {g : DG} {wl : DS} {De : DEnds} {env : Dv} {G : Gh} {tt : DT} {te : DE} {Q : DV → Gh → Prop} {x : DV} {r acc : List DV}
theorem s_lcNil (hs : stay G) (q : ∀ p G1, G p = none → Sub G G1 → G1 p = some (.lst acc) → Q (.ref p) G1) : lcL stay g tt te env Q [] acc G := ⟨hs, fun p hp => q p _ hp (Sub.new hp) gup_same⟩
def lcTl (stay : Gh → Prop) (g : DG) (tt : DT) (te : DE) (env : Dv) (Q : DV → Gh → Prop) (r acc : List DV) (y : DV) (G3 : Gh) : Prop := acc.length < sizeLine ∧ lcL stay g tt te env Q r (acc ++ [y]) G3
theorem s_lcCons (hs : stay G) (q : g x env G fun env1 G1 => tt (fun _ _ _ => False) env1 G1 fun b G2 => if b = true then te (fun _ _ _ => False) env1 G2 (lcTl stay g tt te env Q r acc) else lcL stay g tt te env Q r acc G2) : lcL stay g tt te env Q (x :: r) acc G := ⟨hs, q⟩
theorem s_lcTl {y : DV} {m : List DV} (h : acc.length < sizeLine) (e : acc ++ [y] = m) (q : lcL stay g tt te env Q r m G) : lcTl stay g tt te env Q r acc y G := by subst e; exact ⟨h, q⟩
theorem s_foNil (hs : stay G) (q : De.nx env G) : forL stay g wl De [] env G := ⟨hs, q⟩
theorem s_foCons (hs : stay G) (q : g x env G fun env1 G1 => wl { De with nx := forL stay g wl De r, ct := forL stay g wl De r, bk := De.nx } env1 G1) : forL stay g wl De (x :: r) env G := ⟨hs, q⟩
end
theorem shaped_ints (ns : List Int) : SeqAt.shaped (.list (ns.map PyData.int)) = true := by
  have h1 : PyData.canLayAll0 (ns.map PyData.int) = true := by
    induction ns with
    | nil => rfl
    | cons n r ih => rw [List.map_cons]; simp only [PyData.canLayAll0, PyData.canLay0, ih, Bool.and_true]
  have h2 : PyData.depthAll (ns.map PyData.int) = 0 := by
    clear h1
    induction ns with
    | nil => rfl
    | cons n r ih => rw [List.map_cons]; simp only [PyData.depthAll, PyData.depth, ih, Nat.max_self]
  unfold SeqAt.shaped
  have e1 : (PyData.list (ns.map PyData.int)).canLay0 = true := h1
  have e2 : (PyData.list (ns.map PyData.int)).depth ≤ 64 := by show PyData.depthAll _ + 1 ≤ 64; rw [h2]; decide
  rw [e1, decide_eq_true e2]; rfl
end DL

namespace PySem
open Sem (wp)
open AutoSeq1 (wpAny_loadPart')
/-- enumerate(v): over what begins -/
theorem meets_enumerate_new1 {v : Value} {o : Obj} {H : Heap → Prop} (B : Begins v o H) :
    Meets (Builtin.«enumerate.__new__» ⟨[.type "enumerate", v], []⟩) (fun _ R s => H s.heap ∧
      R (.ok (.ret (.ref (s.heap.push o).objs.size))) { s with heap := (s.heap.push o).push { cls := .type "enumerate", data := .fields #[.none, .bool false, .ref s.heap.objs.size, rawInt 0, .none, .none] } }) :=
  .of_wp fun prog w A R s h => by
    obtain ⟨hp, g, d, tk, os⟩ := s; obtain ⟨h1, h⟩ := h
    have hsub := sub_enumerate
    have q1 : ∀ {A' : Around} {E : Value → Shared → Prop} {Q : Value → Shared → Prop}, Q (.ref hp.objs.size) ⟨hp.push o, g, d, tk, os⟩ → wpAny (model prog w) A' (pyIter v) Q E ⟨hp, g, d, tk, os⟩ :=
      fun q => B.iter prog w _ _ ⟨hp, g, d, tk, os⟩ _ h1 q
    wp_walk using q1
    refine wpAny_stack_any fun st => wpAny_pure ?_
    split
    · rename_i c _ _ _ _ _
      cases (c == Value.type "enumerate")
      · wp_walk using q1
        exact ⟨_, rfl, h⟩
      · wp_walk using q1
        exact ⟨_, rfl, h⟩
    · wp_walk using q1
      exact ⟨_, rfl, h⟩
section
variable {prog : Program} {w : World} {A : Around} {E : Value → Shared → Prop} {s : Shared}
theorem enum_begins1 {v : Value} {o : Obj} {H : Heap → Prop} {Q : Value → Shared → Prop} (B : Begins v o H) (h1 : H s.heap)
    (h : ∀ h', IsEnum h' (s.heap.objs.size + 1) s.heap.objs.size 0 .none → h'.get? s.heap.objs.size = some o → h'.objs.size = s.heap.objs.size + 2 →
      (∀ b o, s.heap.get? b = some o → h'.get? b = some o) → Q (.ref (s.heap.objs.size + 1)) { s with heap := h' }) :
    wpAny (model prog w) A (call (.type "enumerate") [v]) Q E s := by
  refine callType_new F.called_enumerate (by decide) (F.typeCall_enumerate_1 _) (F.newCall_enumerate_1 _) (fun obj => F.args_object_init_2 obj _) F.entry_enumerate_new
    (meets_enumerate_new1 B) ⟨h1, ?_⟩
  have hz : (s.heap.push o).objs.size = s.heap.objs.size + 1 := Heap.size_push ..
  show _ ∧ _
  rw [hz]
  have he : IsEnum ((s.heap.push o).push { cls := .type "enumerate", data := .fields #[.none, .bool false, .ref s.heap.objs.size, rawInt 0, .none, .none] }) (s.heap.objs.size + 1) s.heap.objs.size 0 .none := by
    have := Heap.get?_push_size (s.heap.push o) (o := { cls := .type "enumerate", data := .fields #[.none, .bool false, .ref s.heap.objs.size, rawInt 0, .none, .none] }) rfl
    rw [hz] at this; exact this
  refine ⟨⟨_, he, rfl⟩, h _ he (Heap.get?_push_of_some _ (Heap.get?_push_size _ B.free)) (by rw [Heap.size_push, hz]) fun b o x => Heap.get?_push_of_some _ (Heap.get?_push_of_some _ x)⟩
end
end PySem
namespace DL
open PySem PySem.Spec L2
open PyProof.Rows hiding St
/-- the sequence at a as it stands at each turn, each item in a new pair -/
def IteB (K : PySem.W.Frag) (t : Bool) (a : Addr) : It :=
  ⟨fun i H => ∃ (xs : List V) (x : V), SqB K H t a xs ∧ xs[i]? = some x, fun i H v H' => ∃ T x, v = .ref T ∧ H T = none ∧ H' = upd H T (.tup [.int (i : Nat), x]) ∧ ∀ xs, SqB K H t a xs → xs[i]? = some x, fun i H => ∃ xs : List V, SqB K H t a xs ∧ xs.length = i⟩
theorem turn_enumB {P : Program} {w : World} {K : PySem.W.Frag} {elts : List Expr} {kk : Nat} {tpos : Pos} {t : Bool} {a N : Addr} (la : a < N) :
    Turn P w K (.Tuple elts kk tpos) (IteB K t a) [N + 1, N] (N + 1) (fun i h => (∃ old, IsEnum h (N + 1) N ((0 : Int) + (i : Int)) old) ∧ ItB h t N a i) where
  mem := by simp
  obj := fun i h st c hc => by
    obtain ⟨⟨old, he⟩, h1⟩ := st
    have e' : c = N + 1 ∨ c = N := by simpa using hc
    rcases e' with q | q
    · rw [q]; exact ⟨_, he, fun v q => nomatch q⟩
    · rw [q]; exact h1.obj
  keep := fun i h h' st k => by
    obtain ⟨⟨old, he⟩, h1⟩ := st
    exact ⟨⟨old, k _ (by simp) _ he⟩, h1.at fun o q => k N (by simp) o q⟩
  item := by
    intro X hP hw hK hc i pins s σ H E I hf st hg
    subst hP hw hK
    obtain ⟨he, h1⟩ := st
    obtain ⟨xs, x, hqx, hx⟩ := hg
    obtain ⟨its, rv, p, _, _⟩ := srcB I hqx
    obtain ⟨u, hu, ru⟩ := rv.get hx
    have D1 := drawsB (prog := X.prog) (w := X.w) (A := X.A.in1) (I.ok.hd hc) t N a (Nat.ne_of_lt la) its.toArray
    have l1 : i < its.toArray.size := (List.getElem?_eq_some_iff.mp hu).1
    have W := WalksT.enumFrom 0 D1 (N + 1) (Nat.succ_ne_self N) (fun hm => by
      rcases List.mem_cons.mp hm with h | h
      · exact absurd h (Nat.succ_ne_self N)
      · exact absurd (List.mem_singleton.mp h) (Nat.ne_of_gt (Nat.lt_succ_of_lt la))) (by simp)
    refine thn (wt_item (elts := elts) (k := kk) (pos := tpos) (xs := [.int (i : Nat), x]) W I (fun c hcm => hf c ?_) l1 ⟨he, ⟨h1, p⟩⟩ (fun vals hv => ?_) (by show 2 ≤ sizeLine; decide)) ?_
    · have e' : c = N + 1 ∨ c = N := by simpa using hcm
      rcases e' with q | q <;> rw [q] <;> simp
    · obtain ⟨tk, x1, e1, rfl⟩ := hv
      have q1 : x1 = u := by
        have z : its[i]? = some x1 := by simpa using e1
        rw [hu] at z; exact (Option.some.inj z).symm
      subst q1
      rw [Int.zero_add]
      exact .cons ⟨tk, rfl⟩ (.cons ru .nil)
    · rintro r s1 ⟨v, hr, hgo⟩
      refine ⟨v, hr, thn hgo ?_⟩
      rintro _ s2 ⟨T, I2, rfl, hT, st2⟩
      have nT : H T = none := I.hok.fresh hT
      refine ⟨.ref T, _, I2, rfl, ⟨T, x, rfl, nT, rfl, fun l hl => by rw [SqB.inj I hl hqx]; exact hx⟩, ?_, fun c hcm => ?_⟩
      · obtain ⟨z1, z2⟩ := st2
        exact ⟨z1, z2.1⟩
      · have hlt : c < s.heap.objs.size := by
          have e' : c = N + 1 ∨ c = N := by simpa using hcm
          rcases e' with q | q
          · rw [q]; obtain ⟨_, he⟩ := he; exact Heap.lt_size he
          · rw [q]; obtain ⟨_, e1, _⟩ := h1.obj; exact Heap.lt_size e1
        rw [upd_ne (Nat.ne_of_lt (Nat.lt_of_lt_of_le hlt hT))]
        exact (hf c hcm).1
  done := by
    intro X hP hw hK hc i pins s σ H E I hf st hg
    subst hP hw hK
    obtain ⟨he, h1⟩ := st
    obtain ⟨xs, hqx, hend⟩ := hg
    obtain ⟨its, rv, p, _, _⟩ := srcB I hqx
    have D1 := drawsB (prog := X.prog) (w := X.w) (A := X.A.in1) (I.ok.hd hc) t N a (Nat.ne_of_lt la) its.toArray
    have W := WalksT.enumFrom 0 D1 (N + 1) (Nat.succ_ne_self N) (fun hm => by
      rcases List.mem_cons.mp hm with h | h
      · exact absurd h (Nat.succ_ne_self N)
      · exact absurd (List.mem_singleton.mp h) (Nat.ne_of_gt (Nat.lt_succ_of_lt la))) (by simp)
    have e : i = its.toArray.size := by rw [← hend, List.size_toArray, rv.length]
    subst e
    refine wt_done W I (fun c hcm => hf c ?_) ⟨he, ⟨h1, p⟩⟩
    have e' : c = N + 1 ∨ c = N := by simpa using hcm
    rcases e' with q | q <;> rw [q] <;> simp
  self := fun A i s Q E st h => by
    obtain ⟨⟨_, he⟩, _⟩ := st
    exact wpAny_pyIter_enum he h
def enumL (n : Nat) : List DV → List DV
  | [] => []
  | a :: r => .tup [.int (n : Int), a] :: enumL (n + 1) r
theorem enumL_len : ∀ (l : List DV) (n : Nat), (enumL n l).length = l.length
  | [], n => rfl
  | a :: r, n => by simp [enumL, enumL_len r]
theorem enumL_get : ∀ (l : List DV) (n i : Nat) (d : DV), (enumL n l)[i]? = some d → ∃ x, d = .tup [.int ((n + i : Nat) : Int), x] ∧ l[i]? = some x
  | [], n, i, d, h => by simp [enumL] at h
  | a :: r, n, 0, d, h => by simp [enumL] at h; exact ⟨a, h.symm, rfl⟩
  | a :: r, n, i + 1, d, h => by
    obtain ⟨x, e, e1⟩ := enumL_get r (n + 1) i d (by simpa [enumL] using h)
    exact ⟨x, by rw [e]; congr 3; omega, by simpa using e1⟩
theorem enumL_map {α : Type} (f : α → DV) : ∀ (l : List α) (n : Nat), enumL n (l.map f) = (l.zipIdx n).map fun p => .tup [.int (p.2 : Nat), f p.1]
  | [], n => rfl
  | a :: r, n => by simp [enumL, enumL_map f r, List.zipIdx_cons]
theorem itd_enum {K : PySem.W.Frag} {t : Bool} {a : Addr} {l : List DV} {s1 : Gh → Prop} {G : Gh} {H : Hp} (o1 : SrcOk K t a l s1 G H) : ItD K (IteB K t a) (enumL 0 l) s1 G H where
  go := fun i H1 G1 d wg x st e => by
    obtain ⟨dx, rfl, ex⟩ := enumL_get l 0 i d e
    obtain ⟨xs, qx, rx⟩ := o1.all _ _ wg x st
    obtain ⟨v, ev, rv⟩ := rx.get ex
    refine ⟨⟨xs, v, qx, ev⟩, ?_⟩
    rintro z H' ⟨T, x', rfl, nT, rfl, f1⟩
    have q1 := f1 xs qx
    rw [ev] at q1; cases q1
    rw [Nat.zero_add]
    exact ⟨wg.new nT, Ext.new nT, VR.newT wg nT (.cons (.int _) (.cons rv .nil))⟩
  stop := fun i H1 G1 wg x st hl => by
    obtain ⟨xs, qx, rx⟩ := o1.all _ _ wg x st
    exact ⟨xs, qx, by rw [rx.len, ← hl, enumL_len]⟩
def wiEnumerate1 (wr : DA) : DI := fun Y env G R => wr Y env G fun ds G1 => match ds with
  | [x] => srcD x G1 fun l s1 => R (enumL 0 l) s1 G1
  | _ => False
section
variable {X : Cx} {W : WX} {e : Expr} {wr : DA} {pos p tpos : Pos} {elts : List Expr} {kk : Nat}
theorem qi_enumerate1 (hm : X.mg "enumerate" = none) (ha : QA X W [e] wr) (hg : Gl X "enumerate" := by rfl) (hs : starEach [e] X.env = (false, eval e X.env) :: starEach [] X.env := by rfl) (hpl : (backTo pos (starEach [] X.env)).any (·.1) = false := by rfl) :
    QI X W (.Tuple elts kk tpos) (.Call (.Name "enumerate" p) [e] [] pos) (wiEnumerate1 wr) := by
  refine ⟨⟨?_⟩⟩
  rintro pins s σ H R I ⟨Y, env, G, P, er, wg, hw, k, kx⟩
  refine Call_ (ld_blt I hg hm boot_enumerate (PyProof.Rows.callWith_type1 (thn (ha.pa.run pos pins s σ H (fun vs H1 => ∃ ds G1, VRs X.K H1 vs ds ∧ WG X.K G1 H1 ∧ Ext G H G1 H1 ∧ (match ds with
    | [x] => srcD x G1 fun l s1 => P (enumL 0 l) s1 G1
    | _ => False)) I ⟨Y, env, G, _, er, wg, hw, fun ds G1 vs H1 h1 w1 x1 r1 => ⟨ds, G1, r1, w1, x1, h1⟩, kx⟩) fun us s1 ⟨vs, H1, I1, r1, ds, G1, rs, w1, x1, h1⟩ => ?_) hs hpl))
  match ds, rs, h1 with
  | [dx], .cons rx .nil, h1 =>
    obtain ⟨t1, a, l, st1, rfl, h2, sg1, ok1⟩ := srcD.ok w1 rx h1
    cases r1 with
    | cons ra rr =>
      cases rr
      cases ra
      obtain ⟨xs, qx, _⟩ := ok1.all _ _ w1 Ext.refl sg1
      obtain ⟨its, _, p1, _, la⟩ := srcB I1 qx
      refine enum_begins1 (beginsB t1 a its.toArray) p1 fun h' he h1 hsz hk => wpAny_pyIter_enum he ?_
      have I2 : L2.Inv X pins σ H1 { s1 with heap := h' } := I1.kept (t' := s1.toks) hk
      refine ⟨s1.heap.objs.size + 1, _, _, _, H1, rfl, I2, turn_enumB (t := t1) la, ⟨⟨_, he⟩, ItB.start h1⟩, fun c hcm => ?_, k _ _ _ _ _ h2 w1 x1 (itd_enum ok1)⟩
      have e' : c = s1.heap.objs.size + 1 ∨ c = s1.heap.objs.size := by simpa using hcm
      have hle : s1.heap.objs.size ≤ c := by
        rcases e' with z | z <;> (rw [z]; first | exact Nat.le_refl _ | exact Nat.le_add_right _ _)
      exact I1.fpOk hle (I1.hok.fresh hle)
end
section
variable {wr : DA} {Y : DX} {env : Dv} {G : Gh} {I : List DV → (Gh → Prop) → Gh → Prop} {x : DV}
def enum1K (I : List DV → (Gh → Prop) → Gh → Prop) (ds : List DV) (G1 : Gh) : Prop := match ds with
  | [x] => srcD x G1 fun l s1 => I (enumL 0 l) s1 G1
  | _ => False
theorem s_wiEnum1 (q : wr Y env G (enum1K I)) : wiEnumerate1 wr Y env G I := q
theorem s_enum1 (q : srcD x G fun l s1 => I (enumL 0 l) s1 G) : enum1K I [x] G := q
end
end DL

namespace DL
open PySem PySem.Spec L2
open PyProof.Rows hiding St
theorem Old.subR {t : Addr} {G G1 G2 : Gh} (k : Sub G1 G2) (h : Old t G G1) : Old t G G2 := h.trans k.old
theorem Old.transR {t : Addr} {G G1 G2 : Gh} (k : Old t G1 G2) (h : Old t G G1) : Old t G G2 := h.trans k
theorem Old.ownR2 {t e : Addr} {G G1 G2 : Gh} (k : Old e G1 G2) (n : G e = none) (h : Old t G G1) : Old t G G2 := h.own n k
theorem none_old {G G1 : Gh} {t e : Addr} (n : G1 e = none) (h : Old t G G1) (ne : e ≠ t) : G e = none := by
  cases z : G e with
  | none => rfl
  | some u => rw [h _ _ ne z] at n; cases n
theorem all_rangeA {α : Type} {n : Nat} {bs : List α} {P : α → Prop} (hb : bs.length = (List.range n).length) (h : ∀ (i a : Nat) (b : α), (List.range n)[i]? = some a → bs[i]? = some b → P b) : ∀ b ∈ bs, P b := by
  intro y hy
  obtain ⟨j, hj⟩ := List.mem_iff_getElem?.mp hy
  have hj2 : j < n := by
    have := (List.getElem?_eq_some_iff.mp hj).1
    rw [hb, List.length_range] at this; exact this
  exact h j j y (List.getElem?_range hj2) hj
theorem s_andS {x : Bool} (y : Bool) {A : Prop} {G : Gh} {Q : DV → Gh → Prop} (h : (∀ G', Sub G G' → Q (.bl y) G') → A) (q : ∀ G', Sub G G' → Q (.bl (x && y)) G') : if x = true then A else Q (.bl false) G := by
  cases x
  · exact q _ Sub.refl
  · exact h q
theorem s_orS {x : Bool} (y : Bool) {A : Prop} {G : Gh} {Q : DV → Gh → Prop} (h : (∀ G', Sub G G' → Q (.bl y) G') → A) (q : ∀ G', Sub G G' → Q (.bl (x || y)) G') : if x = true then Q (.bl true) G else A := by
  cases x
  · exact h q
  · exact q _ Sub.refl
theorem zip_getD {n : Nat} {a b : List Int} (h : Int → Int → Int) (ha : a.length = n) (hb : b.length = n) : (a.zip b).map (fun p => h p.1 p.2) = (List.range n).map fun j => h (a.getD j 0) (b.getD j 0) := by
  refine List.ext_getElem (by simp [ha, hb]) fun i x y => ?_
  have hi : i < n := by simpa using y
  simp [List.getD, List.getElem?_eq_getElem (show i < a.length by omega), List.getElem?_eq_getElem (show i < b.length by omega)]
/-- a comprehension over a range -/
theorem lcR_map {n : Nat} {stay : Gh → Prop} {g : DG} {env : Dv} {G : Gh} {tt : DT} {te : DE} {Q : DV → Gh → Prop} (f : Nat → DV) (R : Nat → Gh → Prop) (h0 : R 0 G) (hs : ∀ i G, R i G → stay G) (hn : n ≤ 1000000)
    (ht : ∀ i G (K : DV → Gh → Prop) (K2 : Gh → Prop), i < n → R i G → (∀ G1, R (i + 1) G1 → K (f i) G1) → g (.int (0 + (i : Int))) env G fun env1 G1 => tt (fun _ _ _ => False) env1 G1 fun b G2 => if b = true then te (fun _ _ _ => False) env1 G2 K else K2 G2)
    (he : ∀ G, R n G → ∀ p G1, G p = none → Sub G G1 → G1 p = some (.lst ((List.range n).map f)) → Q (.ref p) G1) : lcL stay g tt te env Q (intsFrom 0 n) [] G := by
  rw [intsFrom_eq]
  refine lcT_map _ f R h0 hs (by rw [List.length_range, sizeLine_eq]; omega) (fun i a G K K2 e me r k => ?_) (fun G r => he G (by rwa [List.length_range] at r))
  obtain ⟨rfl, hi⟩ := range_get e
  exact ht _ _ _ _ hi r k
/-- a comprehension over a range, the results some by dec, each such that P -/
theorem lcR_all {n : Nat} {β : Type} {stay : Gh → Prop} {g : DG} {env : Dv} {G : Gh} {tt : DT} {te : DE} {Q : DV → Gh → Prop} (dec : β → DV) (P : β → Prop) (R : Nat → Gh → Prop) (h0 : R 0 G) (hs : ∀ i G, R i G → stay G) (hn : n ≤ 1000000)
    (ht : ∀ i G (K : DV → Gh → Prop) (K2 : Gh → Prop), i < n → R i G → (∀ b G1, P b → R (i + 1) G1 → K (dec b) G1) → g (.int (0 + (i : Int))) env G fun env1 G1 => tt (fun _ _ _ => False) env1 G1 fun b G2 => if b = true then te (fun _ _ _ => False) env1 G2 K else K2 G2)
    (he : ∀ G (bs : List β), R n G → bs.length = n → (∀ b ∈ bs, P b) → ∀ p G1, G p = none → Sub G G1 → G1 p = some (.lst (bs.map dec)) → Q (.ref p) G1) : lcL stay g tt te env Q (intsFrom 0 n) [] G := by
  rw [intsFrom_eq]
  refine lcT_all _ dec (fun _ b => P b) R h0 hs (by rw [List.length_range, sizeLine_eq]; omega) (fun i a G K K2 e me r k => ?_) (fun G bs r hl hP => he G bs (by rwa [List.length_range] at r) (by rwa [List.length_range] at hl) (all_rangeA hl hP))
  obtain ⟨rfl, hi⟩ := range_get e
  exact ht _ _ _ _ hi r k
/-- the results are some bs by dec, each such that P; all of them -/
theorem lcT_all' {α β : Type} {xs : List α} {stay : Gh → Prop} {g : DG} {env : Dv} {G : Gh} {tt : DT} {te : DE} {Q : DV → Gh → Prop} (enc : α → DV) (dec : β → DV) (P : β → Prop) (R : Nat → Gh → Prop) (h0 : R 0 G) (hs : ∀ i G, R i G → stay G) (hn : xs.length ≤ 1000000)
    (ht : ∀ i a G (K : DV → Gh → Prop) (K2 : Gh → Prop), xs[i]? = some a → a ∈ xs → R i G → (∀ b G1, P b → R (i + 1) G1 → K (dec b) G1) → g (enc a) env G fun env1 G1 => tt (fun _ _ _ => False) env1 G1 fun b G2 => if b = true then te (fun _ _ _ => False) env1 G2 K else K2 G2)
    (he : ∀ G (bs : List β), R xs.length G → bs.length = xs.length → (∀ b ∈ bs, P b) → ∀ p G1, G p = none → Sub G G1 → G1 p = some (.lst (bs.map dec)) → Q (.ref p) G1) : lcL stay g tt te env Q (xs.map enc) [] G := by
  refine lcT_all enc dec (fun _ b => P b) R h0 hs (by rw [sizeLine_eq]; omega) ht (fun G bs r hl hP => he G bs r hl fun y hy => ?_)
  obtain ⟨j, hj⟩ := List.mem_iff_getElem?.mp hy
  have hj2 : j < xs.length := by have := (List.getElem?_eq_some_iff.mp hj).1; omega
  exact hP j _ y (List.getElem?_eq_getElem hj2) hj
/-- a loop over a range -/
theorem forR {n : Nat} {stay : Gh → Prop} {g : DG} {wl : DS} {De : DEnds} {env : Dv} {G : Gh} (Inv : Nat → Dv → Gh → Prop) (h0 : Inv 0 env G) (hs : ∀ i env G, Inv i env G → stay G)
    (ht : ∀ (i : Nat) env G (K : Dv → Gh → Prop), i < n → Inv i env G → (∀ e g, Inv (i + 1) e g → K e g) → g (.int (0 + (i : Int))) env G fun env1 G1 => wl { De with nx := K, ct := K, bk := De.nx } env1 G1)
    (he : ∀ env G, Inv n env G → De.nx env G) : forL stay g wl De (intsFrom 0 n) env G := by
  rw [intsFrom_eq]
  refine forT _ Inv h0 hs (fun i a env G K e me p k => ?_) (fun env G p => he env G (by rwa [List.length_range] at p))
  obtain ⟨rfl, hi⟩ := range_get e
  exact ht _ _ _ _ hi p k
end DL

namespace DL
open PySem PySem.Spec L2
open PyProof.Rows hiding St
/-! ### defs that call themselves -/
def dNo : DF := fun _ _ _ _ => False
theorem FG.no {P : Program} {w : World} {K : PySem.W.Frag} {mg : Str → Option Value} {base : Heap} {k : Nat} {f : Addr} {fd : FuncData} {ps : List Str} {d : DF} (no : ∀ ds G Q Y, d ds G Q Y → False) : FG P w K mg base k f fd ps d :=
  ⟨fun _ _ _ _ h => (no _ _ _ _ h).elim, fun _ _ _ _ _ _ _ _ _ _ _ _ _ _ ⟨_, _, _, _, _, _, h, _⟩ => (no _ _ _ _ h).elim⟩
/-! ### sorted of a list of data -/
section
variable {X : Cx}
theorem each_fun {α β : Type} {R R' : α → β → Prop} : ∀ {vs : List α} {bs : List β}, PySem.W.EachIs R vs bs → (∀ v b, b ∈ bs → R v b → R' v b) → PySem.W.EachIs R' vs bs
  | _, _, .nil, _ => .nil
  | _, _, .cons h t, f => .cons (f _ _ (by simp) h) (each_fun t fun v b hb => f v b (by simp [hb]))
theorem each_of {K : PySem.W.Frag} {H : Hp} : ∀ {xs : List V} {us : List Value} {ps : List (DV × PyData)}, VRs K H xs (ps.map Prod.fst) → Vals xs us → PySem.W.EachIs (fun u b => ∃ x, VR K H x b.1 ∧ RelV x u) us ps
  | _, _, [], r, v => by cases r; cases v; exact .nil
  | _, _, p :: ps, r, v => by
    cases r with
    | cons r1 rs =>
      cases v with
      | cons v1 vs => exact .cons ⟨_, r1, v1⟩ (each_of rs vs)
theorem of_each {K : PySem.W.Frag} {H : Hp} : ∀ {us : List Value} {ps : List (DV × PyData)}, PySem.W.EachIs (fun u b => ∃ x, VR K H x b.1 ∧ RelV x u) us ps → ∃ xs, VRs K H xs (ps.map Prod.fst) ∧ Vals xs us
  | _, _, .nil => ⟨[], .nil, .nil⟩
  | _, _, .cons ⟨x, r, v⟩ t => by
    obtain ⟨xs, rs, vs⟩ := of_each t
    exact ⟨x :: xs, .cons r rs, .cons v vs⟩
/-- the items' data -/
def dSorted : DC := fun ds G Q => match ds with
  | [.ref a] => ∃ ps : List (DV × PyData), G a = some (.lst (ps.map Prod.fst)) ∧ (∀ p ∈ ps, DR G p.1 p.2) ∧ PySem.W.AllAlike (ps.map Prod.snd) ∧ PySem.W.Sortable (ps.map Prod.snd) ∧ (∀ p ∈ ps, p.2.depth ≤ 60) ∧
      ∀ p, G p = none → Q (.ref p) (gup G p (.lst ((ps.mergeSort (PySem.W.dataLe false Prod.snd)).map Prod.fst)))
  | _ => False
theorem c_sorted (hu : X.A.units + 64 < cLine) : CallD X (.builtin "sorted") dSorted := by
  rintro pins s σ H xs us Q I rs ⟨ds, G, P, vs, wg, h, k⟩
  match ds, vs, h with
  | [.ref a], .cons (.ref _) .nil, ⟨ps, ga, hr, hal, hso, hdp, h⟩ =>
    obtain ⟨ys, ha, rr⟩ := wg _ _ ga
    obtain ⟨its, rv, hl, hz⟩ := I.list (SqL.of ha)
    rw [Vals.ref1 rs]
    have hlen : ps.length ≤ sizeLine := by
      have := rr.len
      rw [List.length_map] at this
      omega
    have e := each_of (ps := ps) rr rv
    refine PySem.W.sorted_data (R := fun u b => ∃ x, VR X.K H x b.1 ∧ RelV x u) hl.isList e (each_fun e ?_) hal hso hlen ?_ ?_
    · rintro u b hb ⟨x, r, v⟩
      exact Dp.reads I b.2 x u ((hr b hb).dp wg r) v
    · intro b hb
      have := hdp b hb
      omega
    · intro out hout eo
      obtain ⟨zs, rz, vz⟩ := of_each eo
      have hn : H (s.heap.objs.size + 1) = none := I.hok.fresh (Nat.le_succ _)
      obtain ⟨n, hn2⟩ := PyProof.Rows.sortedAll_at s.heap its (List.toArray out)
      have hzl : zs.length ≤ sizeLine := by rw [vz.length, hout]; exact hlen
      have J : Inv X pins σ (upd H (s.heap.objs.size + 1) (.lst zs)) { s with heap := PyProof.Rows.sortedAll s.heap its (List.toArray out), toks := s.toks } :=
        I.laid (t' := s.toks) (fun b o e => PyProof.Rows.sortedAll_old e) (Nat.le_succ _) ⟨hzl, out, n, vz, hn2⟩
      refine ⟨.ref _, _, J, rfl, ?_⟩
      exact k _ _ _ _ (h _ (wg.non hn)) (wg.newL hn rz) (Ext.newC hn) (.ref _)
theorem perm_map_inv {α β : Type} (f : α → β) {l l' : List β} (h : l.Perm l') : ∀ {xs : List α}, l' = xs.map f → ∃ ys : List α, ys.Perm xs ∧ l = ys.map f := by
  induction h with
  | nil => intro xs e; exact ⟨[], by cases xs with | nil => exact .nil | cons => simp at e, rfl⟩
  | cons x _ ih =>
    intro xs e
    cases xs with
    | nil => simp at e
    | cons a xs =>
      rw [List.map_cons] at e
      cases e
      obtain ⟨ys, hp, rfl⟩ := ih rfl
      exact ⟨a :: ys, hp.cons a, rfl⟩
  | swap x y l =>
    intro xs e
    match xs, e with
    | a :: b :: xs, e =>
      rw [List.map_cons, List.map_cons] at e
      cases e
      exact ⟨b :: a :: xs, .swap a b xs, rfl⟩
  | trans _ _ ih1 ih2 =>
    intro xs e
    obtain ⟨ys, hp, rfl⟩ := ih2 e
    obtain ⟨zs, hq, rfl⟩ := ih1 rfl
    exact ⟨zs, hq.trans hp, rfl⟩
theorem x_sortedT {α : Type} {G : Gh} {Q : DV → Gh → Prop} {e : Addr} (enc : α → DV) (key : α → PyData) {xs : List α} (he : G e = some (.lst (xs.map enc))) (hp : ∀ a ∈ xs, DR G (enc a) (key a)) (hal : ∀ a ∈ xs, ∀ b ∈ xs, PySem.W.alike (key a) (key b) = true)
    (hso : PySem.W.Sortable (xs.map key)) (hd : ∀ a ∈ xs, (key a).depth ≤ 60) (q : ∀ (ys : List α) p G1, ys.Perm xs → ys.Pairwise (fun a b => PySem.W.dataLe false key a b = true) → G p = none → Sub G G1 → G1 p = some (.lst (ys.map enc)) → Q (.ref p) G1) : dSorted [.ref e] G Q := by
  refine ⟨xs.map fun a => (enc a, key a), by rw [he, List.map_map]; rfl, ?_, ?_, by rw [List.map_map]; exact hso, ?_, fun p np => ?_⟩
  · intro p h
    obtain ⟨a, ha, rfl⟩ := List.mem_map.mp h
    exact hp a ha
  · intro d h d' h'
    rw [List.map_map] at h h'
    obtain ⟨a, ha, rfl⟩ := List.mem_map.mp h
    obtain ⟨b, hb, rfl⟩ := List.mem_map.mp h'
    exact hal a ha b hb
  · intro p h
    obtain ⟨a, ha, rfl⟩ := List.mem_map.mp h
    exact hd a ha
  · have tot : PySem.W.TotalLe (PySem.W.dataLe false (Prod.snd : DV × PyData → PyData)) := PySem.W.sortLe_total _ false _
    have hs := List.pairwise_mergeSort (le := PySem.W.dataLe false (Prod.snd : DV × PyData → PyData)) tot.trans (fun a b => by rw [Bool.or_eq_true]; exact tot.total a b) (xs.map fun a => (enc a, key a))
    obtain ⟨ys, py, ey⟩ := perm_map_inv (fun a => (enc a, key a)) (List.mergeSort_perm (xs.map fun a => (enc a, key a)) (PySem.W.dataLe false Prod.snd)) rfl
    rw [ey] at hs ⊢
    rw [List.map_map]
    refine q ys p _ py ?_ np (Sub.new np) gup_same
    exact List.pairwise_map.mp hs
theorem sort_unique {α : Type} {le : α → α → Bool} (anti : ∀ a b, le a b = true → le b a = true → a = b) {l l' : List α} (p : l.Perm l') (h : l.Pairwise (fun a b => le a b = true)) (h' : l'.Pairwise (fun a b => le a b = true)) : l = l' :=
  List.Perm.eq_of_pairwise (fun a b _ _ => anti a b) h h' p
end
/-! ### tuple(range(n)) -/
section
variable {X : Cx} {W : WX} {e : Expr} {wa : DE} {pos p p2 : Pos} {G : Gh} {Q : DV → Gh → Prop} {Y : DX} {env : Dv}
def trK (Q : DV → Gh → Prop) (d : DV) (G : Gh) : Prop := match d with
  | .int n => (0 ≤ n ∧ n ≤ 1000000) ∧ Q (.tup (intsFrom 0 n.toNat)) G
  | _ => False
def wTupRg (wa : DE) : DE := fun Y env G Q => wa Y env G (trK Q)
theorem q_tupRg (hm : X.mg "tuple" = none) (hr : X.mg "range" = none) (hc : X.calm = true) (he : QE X W e wa) (hg : Gl X "tuple" := by rfl) (hgr : Gl X "range" := by rfl) (na : starEach [.Call (.Name "range" p2) [e] [] pos] X.env = (false, eval (.Call (.Name "range" p2) [e] [] pos) X.env) :: starEach [] X.env := by rfl)
    (na2 : starEach [e] X.env = (false, eval e X.env) :: starEach [] X.env := by rfl) {pos2 : Pos} : QE X W (.Call (.Name "tuple" p) [.Call (.Name "range" p2) [e] [] pos] [] pos2) (wTupRg wa) :=
  ⟨PE.wk (pe_tupRg hc hg hm (prg_1 hgr hr he.pe na2) na) fun σ H Q ⟨Y, env, G, P, er, wg, h, k, kx⟩ => ⟨Y, env, G, _, er, wg, h, fun d G1 v H1 h1 w1 x1 r => by
    cases d <;> first | exact h1.elim | skip
    cases r
    obtain ⟨hn, h1⟩ := h1
    exact ⟨_, rfl, RgOk.of_le (Int.le_refl 0) (by omega) (by decide) hn.1, fun q nq => k _ _ _ _ h1 (w1.new nq) (x1.trans (Ext.new nq)) (VR.newT w1 nq (rgV_ints _))⟩, kx⟩⟩
theorem s_tupRg {wa : DE} (q : wa Y env G (trK Q)) : wTupRg wa Y env G Q := q
theorem x_tr {n : Int} (h : 0 ≤ n ∧ n ≤ 1000000) (q : Q (.tup (intsFrom 0 n.toNat)) G) : trK Q (.int n) G := ⟨h, q⟩
end
/-! ### targets within targets -/
def LiveGs (gs : DGs) : Prop := ∀ ds env G (P : Dv → Gh → Prop), gs ds env G P → ∃ e g', P e g'
theorem liveGs_nil : LiveGs wgNil := fun ds env G P h => by
  cases ds with
  | nil => exact ⟨_, _, h⟩
  | cons => exact h.elim
theorem liveGs_cons {g : DG} {gs : DGs} (l : LiveG g) (l2 : LiveGs gs) : LiveGs (wgCons g gs) := fun ds env G P h => by
  cases ds with
  | nil => exact h.elim
  | cons d ds => obtain ⟨e, g', q⟩ := l _ _ _ _ h; exact l2 _ _ _ _ q
theorem liveG_tup {gs : DGs} (l : LiveGs gs) : LiveG (wgTup gs) := fun d env G P h => by
  cases d <;> first | exact h.elim | skip
  exact l _ _ _ _ h
/-! ### the module's own values -/
def ConstAt (K : PySem.W.Frag) (mg : Str → Option Value) (x : Str) (d : DV) : Prop := ∃ u v, mg x = some u ∧ RelV v u ∧ ∀ H, VR K H v d
section
variable {X : Cx} {W : WX} {x : Str} {d : DV} {pos : Pos} {K : PySem.W.Frag} {mg : Str → Option Value}
theorem q_cst (C : ConstAt X.K X.mg x d) (hg : Gl X x := by rfl) (hd : (x == ("__debug__" : Str)) = false := by decide) : QE X W (.Name x pos) (wC d) := by
  obtain ⟨u, v, hm, r, hv⟩ := C
  exact ⟨PE.wk (pe_glob hg hm r hd) fun σ H Q ⟨Y, env, G, P, er, wg, h, k, kx⟩ => k d G v H h wg Ext.refl (hv H)⟩
theorem ConstAt.int {i : Int} {t : Tok} (h : mg x = some (.int i t)) : ConstAt K mg x (.int i) := ⟨_, .int i, h, ⟨t, rfl⟩, fun H => .int i⟩
theorem ConstAt.str {z : Str} {t : Tok} (h : mg x = some (.str z t)) : ConstAt K mg x (.str z) := ⟨_, .str z, h, ⟨t, rfl⟩, fun H => .str z⟩
theorem ConstAt.tupS {a : Addr} {o : Obj} {its : Array Value} {n : Nat} (ss : List Str) (h : mg x = some (.ref a)) (l : K.lookup a = some o) (hc : o.cls = .type "tuple") (hd : o.data = .seq its n) (hz : its.size ≤ 1000) (hv : Vals (ss.map V.str) its.toList) (hn : o.dict = none := by rfl) : ConstAt K mg x (.kt (ss.map .str)) :=
  ⟨_, .ref a, h, rfl, fun H => .kt (.inr ⟨.inr ⟨o, its, n, l, hc, hd, by rw [sizeLine_eq]; omega, hv⟩, o, l, hc, hn⟩) (VRs.strs ss)⟩
end
theorem cut_mid {α : Type} {l : List α} {a b : Nat} : cutL l (some (a : Int)) (some (b : Int)) = (l.drop a).take (b - a) := by
  unfold cutL
  rw [HT.sIx_nat, HT.sIx_nat]
  rcases Nat.le_total a l.length with h1 | h1
  · rw [Nat.min_eq_left h1]
    rcases Nat.le_total b l.length with h2 | h2
    · rw [Nat.min_eq_left h2]
    · rw [Nat.min_eq_right h2, List.take_of_length_le (by rw [List.length_drop]; omega), List.take_of_length_le (by rw [List.length_drop]; omega)]
  · rw [Nat.min_eq_right h1, List.drop_length, List.drop_eq_nil_of_le h1]; simp
end DL

namespace RevT
open PySem PyProof.Rows HT
variable {prog : Program} {w : World} {A : Around} {E : Value → Shared → Prop} {s : Shared}
theorem fmc {α β : Type} {f g : α → Option β} : ∀ {l : List α}, (∀ x ∈ l, f x = g x) → l.filterMap f = l.filterMap g
  | [], _ => rfl
  | a :: l, h => by
    rw [List.filterMap_cons, List.filterMap_cons, h a (by simp), fmc fun x hx => h x (by simp [hx])]
theorem pick_rev (xs : Array Value) : (((List.range xs.size).filterMap fun (k : Nat) => xs[(((xs.size : Int) - 1) + (k : Int) * (-1)).toNat]?).toArray) = xs.toList.reverse.toArray := by
  congr 1
  have e : (List.range xs.size).filterMap (fun (k : Nat) => xs[(((xs.size : Int) - 1) + (k : Int) * (-1)).toNat]?) = ((List.range xs.size).map fun k => xs.size - 1 - k).filterMap (xs[·]?) := by
    rw [List.filterMap_map]
    refine fmc fun k hk => ?_
    have := List.mem_range.mp hk
    show _ = xs[xs.size - 1 - k]?
    congr 1
    omega
  rw [e, PySem.W.krv_range, List.filterMap_reverse, PySem.W.krv_all]
theorem places_rev (n : Nat) : Builtin.Slice.slicePlaces ((n : Int) - 1) (-1) (-1) = n := by
  unfold Builtin.Slice.slicePlaces
  have h1 : ¬ ((-1 : Int) > 0) := by omega
  simp only [h1, if_false]
  rw [show (- -1 : Int) = 1 by decide, Int.ediv_one]
  split <;> omega
theorem sliceApplied_rev {sl : Addr} {vl vu vs : Value} {n : Nat} {Q : Int × Int × Nat → Shared → Prop} (hs : s.heap.IsSliceOf sl vl vu vs) (pl : IsPart vl none) (pu : IsPart vu none) (ps : IsPart vs (some (-1)))
    (h : Q ((n : Int) - 1, -1, n) s) : wpAny (model prog w) A (Builtin.Slice.sliceApplied (.ref sl) (pure (n : Int))) Q E s := by
  obtain ⟨os, hos, hcs, hds⟩ := id hs
  unfold Builtin.Slice.sliceApplied Builtin.Slice.sliceFields
  refine wpAny_bind (wpAny_bind (wpAny_field hos hds (x := vl) rfl (wpAny_bind (wpAny_field hos hds (x := vu) rfl (wpAny_bind (wpAny_field hos hds (x := vs) rfl (wpAny_pure ?_)))))))
  refine wpAny_bind (slicePart_ ps ?_)
  show wpAny _ _ (if ((-1 : Int) == 0) = true then _ else _) _ _ s
  rw [if_neg (by decide)]
  refine wpAny_bind (slicePart_ pl (wpAny_bind (slicePart_ pu (wpAny_bind (wpAny_pure ?_)))))
  show wpAny _ _ (pure (((n : Int) - 1), (-1 : Int), Builtin.Slice.slicePlaces ((n : Int) - 1) (-1) (-1))) _ _ s
  rw [places_rev]
  exact wpAny_pure h
theorem getItem_tuple_rev {t sl : Addr} {items : Array Value} {vl vu vs : Value} {Q : Value → Shared → Prop} (ht : IsTup s.heap t items) (hs : s.heap.IsSliceOf sl vl vu vs) (pl : IsPart vl none) (pu : IsPart vu none) (ps : IsPart vs (some (-1)))
    (h : Q (.ref s.heap.objs.size) { s with heap := s.heap.push { cls := .type "tuple", data := .seq items.toList.reverse.toArray } })
    (hsz : items.size ≤ sizeLine) : wpAny (model prog w) A (getItem (.ref t) (.ref sl)) Q E s := by
  have htake : sizeOk (.seq items.toList.reverse.toArray) := by
    show items.toList.reverse.toArray.size ≤ sizeLine
    rw [List.size_toArray, List.length_reverse, Array.length_toList]
    exact hsz
  obtain ⟨os, hos, hcs, hds⟩ := id hs
  have hTs : s.TypeIs (.ref sl) "slice" := ⟨os, hos, hcs⟩
  unfold getItem
  try with_reducible refine wpAny_holding ?_
  first | refine wpAny_bind (wpAny_pure ?_) | skip
  refine wpAny_bind (wpAny_sequenceKey ht.typeIs (by decide) ?_)
  refine wpAny_bind (wpAny_callSpecial?_slot (name := Str.ofString "__getitem__") ht.typeIs PyProof.Rows.slot_tuple_getitem
    (wpAny_call_entry PyProof.Rows.slot_tuple_getitem ht.typeIs entry_tuple_getitem ?_ (args_tuple_getitem _ _)))
  show wpAny _ _ (Builtin.Tuple.tupleItemsOf (.ref t) >>= _) _ _ s
  refine wpAny_bind (tupleItemsOf_ ht ?_)
  refine wpAny_bind (wpAny_typeOf hTs ?_)
  rw [if_pos (by decide)]
  refine wpAny_bind (sliceApplied_rev hs pl pu ps ?_)
  have hno : ¬ ((((items.size : Int) - 1) == 0 && (-1 : Int) == 1 && items.size == items.size) = true) := by
    intro q
    rw [Bool.and_eq_true, Bool.and_eq_true] at q
    exact absurd q.1.2 (by decide)
  show wpAny _ _ (if (((items.size : Int) - 1) == 0 && (-1 : Int) == 1 && items.size == items.size) = true then _ else _) _ _ s
  rw [if_neg hno, pick_rev]
  first
    | exact wpAny_bind (m := Builtin.Tuple.tupleExact _) (wpAny_newObj_type (wpAny_pure ⟨_, rfl, wpAny_pure h⟩) htake)
    | exact wpAny_bind (m := Builtin.Tuple.tupleExact _) (wpAny_newObj_type (wpAny_bind (wpAny_pure (wpAny_pure ⟨_, rfl, wpAny_pure h⟩))) htake)
    | exact wpAny_bind (wpAny_bind (m := Builtin.Tuple.tupleExact _) (wpAny_newObj_type (wpAny_pure (wpAny_pure ⟨_, rfl, wpAny_pure h⟩)) htake))
    | exact wpAny_bind (wpAny_bind (m := Builtin.Tuple.tupleExact _) (wpAny_newObj_type (wpAny_pure ⟨_, rfl, wpAny_pure h⟩) htake))
end RevT
namespace L2
open PySem PySem.Spec PyProof.Rows
section
variable {X : Cx}
/-- xs[::-1] of a list or a tuple -/
def tRevA (K : PySem.W.Frag) (te : TE) : TE := fun σ H Q => te σ H fun x H1 => (∃ a xs, x = .ref a ∧ SqL K H1 a xs ∧ ∀ p, H1 p = none → Q (.ref p) (upd H1 p (.lst xs.reverse))) ∨ (∃ a xs, x = .ref a ∧ SqT K H1 a xs ∧ ∀ p, H1 p = none → Q (.ref p) (upd H1 p (.tup xs.reverse)))
theorem pe_revA {e : Expr} {te : TE} {k : Nat} {p1 p2 p3 pos : Pos} (he : PE X e te) : PE X (.Subscript e (.Slice none none (some (.UnaryOp .USub (.Constant (.int 1) k p1) p2)) p3) pos) (tRevA X.K te) := by
  refine ⟨fun pins s σ H Q I h => ?_⟩
  refine Subscript_ (thn (he.run pins s σ H _ I h) fun v s1 ⟨x, H1, I1, r1, q1⟩ => ?_)
  have hst : PO X (some (.UnaryOp .USub (.Constant (.int 1) k p1) p2)) (tPart (tUn (rU fun i => .int (-i)) (tC (.int 1)))) := po_some (pe_un un_neg pe_int)
  refine wpAny_Slice (thn (po_none.run pins s1 σ H1 (fun o H2 => o = none ∧ H2 = H1) I1 ⟨rfl, rfl⟩) fun vl s2 ⟨l, H2, I2, pl, el, e2⟩ => ?_)
  subst el e2
  refine thn (po_none.run pins s2 σ H2 (fun o H3 => o = none ∧ H3 = H2) I2 ⟨rfl, rfl⟩) fun vu s3 ⟨u, H3, I3, pu, eu, e3⟩ => ?_
  subst eu e3
  refine thn (hst.run pins s3 σ H3 (fun o H4 => o = some (-1) ∧ H4 = H3) I3 ⟨1, rfl, -1, rfl, rfl, rfl⟩) fun vs s4 ⟨o, H4, I4, ps, eo, e4⟩ => ?_
  subst eo e4
  have I5 : Inv X pins σ H4 { s4 with heap := s4.heap.push { cls := .type "slice", data := .fields #[vl, vu, vs] } } := I4.kept (t' := s4.toks) fun b ob q => Heap.get?_push_of_some _ q
  rcases q1 with ⟨a, xs, ex, hx, q⟩ | ⟨a, xs, ex, hx, q⟩
  · subst ex
    cases r1
    obtain ⟨its, r, ht, hz⟩ := I5.list hx
    have hlen := r.length
    show wpAny (model X.prog X.w) X.A (subscriptTail e (.Slice none none (some (.UnaryOp .USub (.Constant (.int 1) k p1) p2)) p3) (.ref a) (.ref s4.heap.objs.size)) (EP X pins σ Q) X.xe { s4 with heap := s4.heap.push { cls := .type "slice", data := .fields #[vl, vu, vs] } }
    refine tail_any (ops := [.ref a, .ref s4.heap.objs.size]) ht.isList.typeIs (PySem.slot_list_getitem.lookup) ?_ (by with_unfolding_all rfl)
    refine wpAny_getItem_list_slice ht.isList (Heap.IsSliceOf.new _ vl vu vs) pl pu ps (by decide) ?_ (by rw [List.size_toArray]; omega)
    rw [PySem.W.krv_pick]
    refine ⟨.ref _, _, I5.laid (t' := s4.toks) (o := .lst xs.reverse) (fun b ob q => Heap.get?_push_of_some _ q) (Nat.le_refl _) ?_, rfl, q _ (I5.hok.fresh (Nat.le_refl _))⟩
    exact ⟨by rw [List.length_reverse]; exact hz, _, 0, r.reverse, Heap.get?_push_size _ rfl⟩
  · subst ex
    cases r1
    obtain ⟨its, r, ht, hz⟩ := I5.tuple hx
    have hlen := r.length
    show wpAny (model X.prog X.w) X.A (subscriptTail e (.Slice none none (some (.UnaryOp .USub (.Constant (.int 1) k p1) p2)) p3) (.ref a) (.ref s4.heap.objs.size)) (EP X pins σ Q) X.xe { s4 with heap := s4.heap.push { cls := .type "slice", data := .fields #[vl, vu, vs] } }
    refine tail_any (ops := [.ref a, .ref s4.heap.objs.size]) ht.typeIs (PyProof.Rows.slot_tuple_getitem.lookup) ?_ (by with_unfolding_all rfl)
    refine RevT.getItem_tuple_rev ht (Heap.IsSliceOf.new _ vl vu vs) pl pu ps ?_ (by rw [List.size_toArray]; omega)
    refine ⟨.ref _, _, I5.laid (t' := s4.toks) (o := .tup xs.reverse) (fun b ob q => Heap.get?_push_of_some _ q) (Nat.le_refl _) ?_, rfl, q _ (I5.hok.fresh (Nat.le_refl _))⟩
    exact ⟨by rw [List.length_reverse]; exact hz, _, r.reverse, IsTup.new _ _⟩
/-- xs == [] -/
theorem op_eqNil (hu : X.A.units + 64 < cLine) : OpR X (compareOp .Eq) (fun x y H Q => ∃ a b xs, x = .ref a ∧ y = .ref b ∧ SqL X.K H a xs ∧ SqL X.K H b [] ∧ Q (.bl xs.isEmpty) H) := by
  intro pins s σ H x y v u Q I rx ry h
  obtain ⟨a, b, xs, rfl, rfl, ha, hb, q⟩ := h
  cases rx
  cases ry
  obtain ⟨its, r1, p1, _⟩ := I.list ha
  obtain ⟨its2, r2, p2, _⟩ := I.list hb
  cases r2
  cases r1 with
  | nil =>
    have := SeqAt.RcAt.lists (A := X.A) (s := s) (e := fun _ => true) p1.isList p2.isList rfl (by omega) (fun j h => absurd h (by simp))
    exact this X.prog X.w X.xe _ ⟨.bl _, H, I, rfl, q⟩
  | cons r t =>
    have := SeqAt.RcAt.lists_lengths (A := X.A) (s := s) p1.isList p2.isList (by simp) (by omega)
    exact this X.prog X.w X.xe _ ⟨.bl _, H, I, rfl, q⟩
theorem op_neNil (hu : X.A.units + 64 < cLine) : OpR X (compareOp .NotEq) (fun x y H Q => ∃ a b xs, x = .ref a ∧ y = .ref b ∧ SqL X.K H a xs ∧ SqL X.K H b [] ∧ Q (.bl (!xs.isEmpty)) H) := by
  intro pins s σ H x y v u Q I rx ry h
  obtain ⟨a, b, xs, rfl, rfl, ha, hb, q⟩ := h
  cases rx
  cases ry
  obtain ⟨its, r1, p1, _⟩ := I.list ha
  obtain ⟨its2, r2, p2, _⟩ := I.list hb
  cases r2
  cases r1 with
  | nil =>
    have := SeqAt.RcNeAt.lists (A := X.A) (s := s) (e := fun _ => true) p1.isList p2.isList rfl (by omega) (fun j h => absurd h (by simp))
    exact this X.prog X.w X.xe _ ⟨.bl _, H, I, rfl, q⟩
  | cons r t =>
    have := SeqAt.RcNeAt.lists_lengths (A := X.A) (s := s) p1.isList p2.isList (by simp) (by omega)
    exact this X.prog X.w X.xe _ ⟨.bl _, H, I, rfl, q⟩
end
end L2
namespace DL
open PySem PySem.Spec L2
open PyProof.Rows hiding St
section
variable {X : Cx} {W : WX} {e : Expr} {wa : DE}
def dEqNil (neg : Bool) : D2 := fun x y G Q => match x, y with
  | .ref a, .ref b => ∃ l, G a = some (.lst l) ∧ G b = some (.lst []) ∧ Q (.bl (neg ^^ l.isEmpty)) G
  | .ro l, .ref b => G b = some (.lst []) ∧ Q (.bl (neg ^^ l.isEmpty)) G
  | _, _ => False
theorem VRs.isE {K : PySem.W.Frag} {H : Hp} {vs : List V} {ds : List DV} (r : VRs K H vs ds) : vs.isEmpty = ds.isEmpty := by cases r <;> rfl
theorem nil_sq {K : PySem.W.Frag} {G : Gh} {H : Hp} {b : Addr} (wg : WG K G H) (h : G b = some (.lst [])) : SqL K H b [] := by
  obtain ⟨xs, e, r⟩ := wg _ _ h
  cases r
  exact SqL.of e
theorem o_eqNil (hu : X.A.units + 64 < cLine) : OpD X (compareOp .Eq) (dEqNil false) := by
  rintro pins s σ H x y v u Q I rx ry ⟨dx, dy, G, P, vx, vy, wg, h, k⟩
  match dx, dy, vx, vy, h with
  | .ref a, .ref b, .ref _, .ref _, ⟨l, ga, gb, h⟩ =>
    obtain ⟨xs, ha, rs⟩ := wg _ _ ga
    exact op_eqNil hu pins s σ H _ _ v u Q I rx ry ⟨a, b, xs, rfl, rfl, SqL.of ha, nil_sq wg gb, op_end wg k h (by rw [rs.isE, Bool.false_xor]; exact .bl _)⟩
  | .ro l, .ref b, .ro sq rs, .ref _, ⟨gb, h⟩ =>
    exact op_eqNil hu pins s σ H _ _ v u Q I rx ry ⟨_, b, _, rfl, rfl, sq.sq, nil_sq wg gb, op_end wg k h (by rw [rs.isE, Bool.false_xor]; exact .bl _)⟩
theorem o_neNil (hu : X.A.units + 64 < cLine) : OpD X (compareOp .NotEq) (dEqNil true) := by
  rintro pins s σ H x y v u Q I rx ry ⟨dx, dy, G, P, vx, vy, wg, h, k⟩
  match dx, dy, vx, vy, h with
  | .ref a, .ref b, .ref _, .ref _, ⟨l, ga, gb, h⟩ =>
    obtain ⟨xs, ha, rs⟩ := wg _ _ ga
    exact op_neNil hu pins s σ H _ _ v u Q I rx ry ⟨a, b, xs, rfl, rfl, SqL.of ha, nil_sq wg gb, op_end wg k h (by rw [rs.isE, Bool.true_xor]; exact .bl _)⟩
  | .ro l, .ref b, .ro sq rs, .ref _, ⟨gb, h⟩ =>
    exact op_neNil hu pins s σ H _ _ v u Q I rx ry ⟨_, b, _, rfl, rfl, sq.sq, nil_sq wg gb, op_end wg k h (by rw [rs.isE, Bool.true_xor]; exact .bl _)⟩
theorem s_eqNil {a b : Addr} {G : Gh} {Q : DV → Gh → Prop} {l : List DV} (ha : G a = some (.lst l)) (hb : G b = some (.lst [])) (q : Q (.bl l.isEmpty) G) : dEqNil false (.ref a) (.ref b) G Q := ⟨l, ha, hb, by rw [Bool.false_xor]; exact q⟩
theorem s_neNil {a b : Addr} {G : Gh} {Q : DV → Gh → Prop} {l : List DV} (ha : G a = some (.lst l)) (hb : G b = some (.lst [])) (q : Q (.bl (!l.isEmpty)) G) : dEqNil true (.ref a) (.ref b) G Q := ⟨l, ha, hb, by rw [Bool.true_xor]; exact q⟩
theorem s_eqNilR {b : Addr} {G : Gh} {Q : DV → Gh → Prop} {l : List DV} (hb : G b = some (.lst [])) (q : Q (.bl l.isEmpty) G) : dEqNil false (.ro l) (.ref b) G Q := ⟨hb, by rw [Bool.false_xor]; exact q⟩
theorem s_neNilR {b : Addr} {G : Gh} {Q : DV → Gh → Prop} {l : List DV} (hb : G b = some (.lst [])) (q : Q (.bl (!l.isEmpty)) G) : dEqNil true (.ro l) (.ref b) G Q := ⟨hb, by rw [Bool.true_xor]; exact q⟩
/-! ### xs[::-1] -/
def revK (Q : DV → Gh → Prop) (d : DV) (G : Gh) : Prop := match d with
  | .tup l => Q (.tup l.reverse) G
  | .ref a => ∃ l, G a = some (.lst l) ∧ ∀ p, G p = none → Q (.ref p) (gup G p (.lst l.reverse))
  | .ro l => ∀ p, G p = none → Q (.ref p) (gup G p (.lst l.reverse))
  | _ => False
def wRev (wa : DE) : DE := fun Y env G Q => wa Y env G (revK Q)
theorem q_rev {k : Nat} {p1 p2 p3 pos : Pos} (he : QE X W e wa) : QE X W (.Subscript e (.Slice none none (some (.UnaryOp .USub (.Constant (.int 1) k p1) p2)) p3) pos) (wRev wa) :=
  ⟨PE.wk (pe_revA he.pe) fun σ H Q ⟨Y, env, G, P, er, wg, h, k, kx⟩ => ⟨Y, env, G, _, er, wg, h, fun d G1 v H1 h1 w1 x1 r => by
    cases r <;> first | exact h1.elim | skip
    · obtain ⟨l, ga, h1⟩ := h1
      obtain ⟨xs, ha, rs⟩ := w1 _ _ ga
      exact .inl ⟨_, xs, rfl, SqL.of ha, fun p np => k _ _ _ _ (h1 p (w1.non np)) (w1.newL np rs.rev) (x1.trans (Ext.newC np)) (.ref p)⟩
    · rename_i sq rs
      exact .inr ⟨_, _, rfl, (SqT.of sq), fun p np => k _ _ _ _ h1 (w1.new np) (x1.trans (Ext.new np)) (VR.newT w1 np rs.rev)⟩
    · rename_i sq rs
      exact .inl ⟨_, _, rfl, sq.sq, fun p np => k _ _ _ _ (h1 p (w1.non np)) (w1.newL np rs.rev) (x1.trans (Ext.newC np)) (.ref p)⟩, kx⟩⟩
variable {Y : DX} {env : Dv} {G : Gh} {Q : DV → Gh → Prop} {l : List DV}
theorem s_rev (q : wa Y env G (revK Q)) : wRev wa Y env G Q := q
theorem s_revT (q : Q (.tup l.reverse) G) : revK Q (.tup l) G := q
theorem x_revL {a : Addr} (he : G a = some (.lst l)) (q : ∀ p G1, G p = none → Sub G G1 → G1 p = some (.lst l.reverse) → Q (.ref p) G1) : revK Q (.ref a) G := ⟨l, he, x_new q⟩
end
end DL

namespace DL
open PySem PySem.Spec L2
open PyProof.Rows hiding St
/-! ### is of truths -/
section
variable {X : Cx}
def dIsBl (neg : Bool) : D2 := fun x y G Q => match x, y with
  | .bl a, .bl b => Q (.bl (neg ^^ decide (a = b))) G
  | _, _ => False
theorem o_isBl : OpD X (compareOp .Is) (dIsBl false) := by
  rintro pins s σ H x y v u Q I rx ry ⟨dx, dy, G, P, vx, vy, wg, h, k⟩
  match dx, dy, vx, vy, h with
  | .bl a, .bl b, .bl _, .bl _, h => exact op_is_bl pins s σ H _ _ v u Q I rx ry ⟨a, b, rfl, rfl, op_end wg k h (by rw [Bool.false_xor]; exact .bl _)⟩
theorem o_isntBl : OpD X (compareOp .IsNot) (dIsBl true) := by
  rintro pins s σ H x y v u Q I rx ry ⟨dx, dy, G, P, vx, vy, wg, h, k⟩
  match dx, dy, vx, vy, h with
  | .bl a, .bl b, .bl _, .bl _, h => exact op_isnot_bl pins s σ H _ _ v u Q I rx ry ⟨a, b, rfl, rfl, op_end wg k h (by rw [Bool.true_xor]; exact .bl _)⟩
variable {G : Gh} {Q : DV → Gh → Prop}
theorem s_isBl {a b : Bool} (q : Q (.bl (decide (a = b))) G) : dIsBl false (.bl a) (.bl b) G Q := by show Q (.bl (false ^^ _)) G; rw [Bool.false_xor]; exact q
theorem s_isntBl {a b : Bool} (q : Q (.bl (!decide (a = b))) G) : dIsBl true (.bl a) (.bl b) G Q := by show Q (.bl (true ^^ _)) G; rw [Bool.true_xor]; exact q
theorem s_isiD {e : Addr} {l : List (Key × DV)} {c : String} (he : G e = some (.dic l)) (hc : c ∈ ["int", "bool", "str", "tuple", "list", "dict"]) (q : Q (.bl (isaB "dict" c)) G) : dIsi [.ref e, .ty c] G Q := by
  refine ⟨hc, ?_⟩
  show (match G e with | some (.lst _) => Q (.bl (isaB "list" c)) G | some (.dic _) => Q (.bl (isaB "dict" c)) G | some (.dt _) => _ | _ => False)
  rw [he]; exact q
end
/-! ### things of any kind -/
/-- a thing: a tree of tuples over numbers, truths, texts, None, lists and dicts that stand, none of them at t -/
inductive Tm (t : Addr) (G : Gh) : DV → Prop
  | non : Tm t G .non
  | bl (b : Bool) : Tm t G (.bl b)
  | int (i : Int) (h : i.natAbs < 2 ^ 1000) : Tm t G (.int i)
  | str (z : Str) : Tm t G (.str z)
  | tup {l : List DV} (h : ∀ d ∈ l, Tm t G d) (hl : l.length ≤ 1000) : Tm t G (.tup l)
  | lst {a : Addr} {l : List DV} (h : G a = some (.lst l)) (n : a ≠ t) : Tm t G (.ref a)
  | dic {a : Addr} {l : List (Key × DV)} (h : G a = some (.dic l)) (n : a ≠ t) : Tm t G (.ref a)
theorem Tm.old {t : Addr} {G G' : Gh} (k : Old t G G') : ∀ {d : DV}, Tm t G d → Tm t G' d := by
  intro d h
  induction h with
  | non => exact .non
  | bl b => exact .bl b
  | int i h => exact .int i h
  | str z => exact .str z
  | tup _ hl ih => exact .tup ih hl
  | lst h n => exact .lst (k _ _ n h) n
  | dic h n => exact .dic (k _ _ n h) n
theorem Tm.i {t : Addr} {G : Gh} {x : Int} (h : x.natAbs ≤ 1000000000) : Tm t G (.int x) := .int x (Nat.lt_of_le_of_lt h (by decide))
theorem Tm.items {t : Addr} {G : Gh} {l : List DV} (h : Tm t G (.tup l)) : (∀ d ∈ l, Tm t G d) ∧ l.length ≤ 1000 := by
  cases h with
  | tup h hl => exact ⟨h, hl⟩
theorem Tm.sub {t : Addr} {G G' : Gh} (k : Sub G G') {d : DV} (h : Tm t G d) : Tm t G' d := h.old k.old
/-- is it of that kind (int, bool, str, tuple) -/
def DV.isa (d : DV) (c : String) : Bool := match d with
  | .non => isaB "NoneType" c | .bl _ => isaB "bool" c | .int _ => isaB "int" c | .str _ => isaB "str" c | .tup _ => isaB "tuple" c | .ro _ => isaB "list" c | _ => false
theorem s_isiTm {t : Addr} {G : Gh} {Q : DV → Gh → Prop} {d : DV} {c : String} (h : Tm t G d) (hc : c ∈ ["int", "bool", "str", "tuple"]) (q : Q (.bl (d.isa c)) G) : dIsi [d, .ty c] G Q := by
  have hc' : c ∈ ["int", "bool", "str", "tuple", "list", "dict"] := by
    simp only [List.mem_cons, List.not_mem_nil, or_false] at hc ⊢
    rcases hc with h | h | h | h <;> simp [h]
  cases h with
  | non => exact ⟨hc', q⟩
  | bl b => exact ⟨hc', q⟩
  | int i _ => exact ⟨hc', q⟩
  | str z => exact ⟨hc', q⟩
  | tup _ => exact ⟨hc', q⟩
  | lst h n =>
    refine s_isiL h hc' ?_
    have e : isaB "list" c = false := by
      simp only [List.mem_cons, List.not_mem_nil, or_false] at hc
      rcases hc with rfl | rfl | rfl | rfl <;> decide
    rw [e]; exact q
  | dic h n =>
    refine s_isiD h hc' ?_
    have e : isaB "dict" c = false := by
      simp only [List.mem_cons, List.not_mem_nil, or_false] at hc
      rcases hc with rfl | rfl | rfl | rfl <;> decide
    rw [e]; exact q
/-- a whole number from lo to hi -/
def wholeB (d : DV) (lo hi : Int) : Bool := match d with
  | .int i => decide (lo ≤ i) && decide (i ≤ hi)
  | _ => false
theorem at_0 {x : DV} {r : List DV} : L2.atI (x :: r) 0 = some x := L2.atI_nat (j := 0) rfl
theorem at_1 {x y : DV} {r : List DV} : L2.atI (x :: y :: r) 1 = some y := L2.atI_nat (j := 1) rfl
theorem at_2 {x y z : DV} {r : List DV} : L2.atI (x :: y :: z :: r) 2 = some z := L2.atI_nat (j := 2) rfl
theorem log2_small {x : Int} (h : x.natAbs < 2 ^ 600) : x.natAbs.log2 < 1920 := by
  by_cases hz : x.natAbs = 0
  · rw [hz]; decide
  · exact (Nat.log2_lt hz).mpr (Nat.lt_of_lt_of_le h (Nat.pow_le_pow_right (by decide) (by decide)))
end DL
/-! ### d.update(e) -/
namespace L2
open PySem PySem.Spec PyProof.Rows
theorem mt_dupdate {X : Cx} : MtR X "dict.update" (fun x xs H Q => ∃ (a b : Addr) (kvs more : List (Key × V)), x = .ref a ∧ xs = [.ref b] ∧ H a = some (.dK kvs) ∧ H b = some (.dK more) ∧ a ≠ b ∧ kvs.length + more.length ≤ sizeLine ∧ Q .non (upd H a (.dK (mergeK kvs more)))) := by
  intro pins s σ H x xs v us Q I rx rs h
  obtain ⟨a, b, kvs, more, rfl, rfl, ea, eb, hne, hz, q⟩ := h
  cases rx
  rw [Vals.ref1 rs]
  obtain ⟨z, hd, vs, rel, dd⟩ := dk_of I.hok ea
  obtain ⟨z2, hd2, vs2, rel2, dd2⟩ := dk_of I.hok eb
  refine call_meetsIn PySem.F.slot_dict_update dd.typeIs PySem.F.entry_dict_update (PySem.F.args_dict_update_2 _ _) (meets_dict_update (mixKind X.prog X.w) a b hne hd2)
    ⟨vs, vs2, dd, dd2, by rw [← rel.length, ← rel2.length]; exact hz, fun h' dd' _ hs => ⟨.non, _, ?_, rfl, q⟩⟩
  have he : ∃ q, h'.get? a = some q := let ⟨q, _, _, hq, _⟩ := dd'; ⟨q, hq⟩
  exact d_write (t' := s.toks) I (by rw [ea]; exact True.intro) hs he (dk_new (Nat.le_trans (length_mergeK more kvs) hz) hd (rel2.merge rel) dd')
end L2
namespace DL
open PySem PySem.Spec L2
open PyProof.Rows hiding St
def dDupdate : DM := fun x ds G Q => match x, ds with
  | .ref a, [.ref b] => ∃ kvs more, G a = some (.dic kvs) ∧ G b = some (.dic more) ∧ a ≠ b ∧ kvs.length + more.length ≤ sizeLine ∧ Q .non (gup G a (.dic (mergeD kvs more)))
  | _, _ => False
theorem m_dupdate {X : Cx} : MtD X "dict.update" dDupdate := by
  rintro pins s σ H x xs v us Q I rx rs ⟨dx, ds, G, P, vx, vs, wg, h, k⟩
  match dx, ds, vx, vs, h with
  | .ref a, [.ref b], .ref _, .cons (.ref _) .nil, ⟨kvs, more, ga, gb, hne, hz, h⟩ =>
    obtain ⟨ys, ha, ra⟩ := wg _ _ ga
    obtain ⟨zs, hb, rb⟩ := wg _ _ gb
    have p : Put G H a := .inr ⟨_, ga⟩
    refine mt_dupdate pins s σ H _ _ v us Q I rx rs ⟨a, b, ys, zs, rfl, rfl, ha, hb, hne, by rw [ra.len, rb.len]; exact hz, k _ _ _ _ h (wg.put p ⟨_, upd_same, (rb.merge ra).ext wg (p.ext (c := .dic (mergeD kvs more)))⟩) (Ext.setC ga) .non⟩
theorem x_dupdate {a b : Addr} {G : Gh} {Q : DV → Gh → Prop} {kvs more : List (Key × DV)} (ha : G a = some (.dic kvs)) (hb : G b = some (.dic more)) (hne : a ≠ b) (hz : kvs.length + more.length ≤ sizeLine) (q : ∀ G1, Old a G G1 → G1 a = some (.dic (mergeD kvs more)) → Q .non G1) : dDupdate (.ref a) [.ref b] G Q :=
  ⟨kvs, more, ha, hb, hne, hz, q _ Old.set gup_same⟩
end DL

namespace DL
open PySem PySem.Spec L2
open PyProof.Rows hiding St
/-! ### a statement that is never reached -/
def wNever : DS := fun _ _ _ => False
theorem qs_never {X : Cx} {W : WX} {st : Stmt} : QS X W st wNever := ⟨PS.wk ps_never fun _ _ _ ⟨_, _, _, _, _, h, _⟩ => h.elim⟩
/-! ### zip of three -/
def Itz3 (K : PySem.W.Frag) (t1 t2 t3 : Bool) (a b d : Addr) : It :=
  ⟨fun i H => ∃ (xs ys zs : List V) (x y z : V), SqB K H t1 a xs ∧ SqB K H t2 b ys ∧ SqB K H t3 d zs ∧ xs[i]? = some x ∧ ys[i]? = some y ∧ zs[i]? = some z,
    fun i H v H' => ∃ T x y z, v = .ref T ∧ H T = none ∧ H' = upd H T (.tup [x, y, z]) ∧ (∀ xs, SqB K H t1 a xs → xs[i]? = some x) ∧ (∀ ys, SqB K H t2 b ys → ys[i]? = some y) ∧ ∀ zs, SqB K H t3 d zs → zs[i]? = some z,
    fun i H => ∃ xs ys zs : List V, SqB K H t1 a xs ∧ SqB K H t2 b ys ∧ SqB K H t3 d zs ∧ min (min xs.length ys.length) zs.length = i⟩
theorem turn_z3 {P : Program} {w : World} {K : PySem.W.Frag} {elts : List Expr} {kk : Nat} {tpos : Pos} {t1 t2 t3 : Bool} {a b d : Addr} {N : Nat} (la : a < N) (lb : b < N) (ld : d < N) :
    Turn P w K (.Tuple elts kk tpos) (Itz3 K t1 t2 t3 a b d) [N + 5, N + 3, N + 4, N, N + 1, N + 2] (N + 5)
      (fun i h => IsZip h (N + 5) (N + 3) (N + 4) .none ∧ IsTupOf3 h (N + 3) (.ref N) (.ref (N + 1)) (.ref (N + 2)) ∧ (∃ x y z, IsTupOf3 h (N + 4) x y z) ∧ ItB h t1 N a i ∧ ItB h t2 (N + 1) b i ∧ ItB h t3 (N + 2) d i) where
  mem := by simp
  obj := fun i h st c hc => by
    obtain ⟨hz, hTI, ⟨x, y, z, hTO⟩, h1, h2, h3⟩ := st
    have e' : c = N + 5 ∨ c = N + 3 ∨ c = N + 4 ∨ c = N ∨ c = N + 1 ∨ c = N + 2 := by simpa using hc
    rcases e' with q | q | q | q | q | q
    · rw [q]; exact ⟨_, hz, fun v q => nomatch q⟩
    · rw [q]; exact ⟨_, hTI, fun v q => nomatch q⟩
    · rw [q]; exact ⟨_, hTO, fun v q => nomatch q⟩
    · rw [q]; exact h1.obj
    · rw [q]; exact h2.obj
    · rw [q]; exact h3.obj
  keep := fun i h h' st k => by
    obtain ⟨hz, hTI, ⟨x, y, z, hTO⟩, h1, h2, h3⟩ := st
    exact ⟨k _ (by simp) _ hz, k _ (by simp) _ hTI, ⟨x, y, z, k _ (by simp) _ hTO⟩, h1.at fun o q => k N (by simp) o q, h2.at fun o q => k (N + 1) (by simp) o q, h3.at fun o q => k (N + 2) (by simp) o q⟩
  item := by
    intro X hP hw hK hc i pins s σ H E I hf st hg
    subst hP hw hK
    obtain ⟨hz, hTI, hTO, h1, h2, h3⟩ := st
    obtain ⟨xs, ys, zs, x, y, z, hqx, hqy, hqz, hx, hy, hzz⟩ := hg
    obtain ⟨its, rv, p, _, _⟩ := srcB I hqx
    obtain ⟨its2, rv2, p2, _, _⟩ := srcB I hqy
    obtain ⟨its3, rv3, p3, _, _⟩ := srcB I hqz
    obtain ⟨u, hu, ru⟩ := rv.get hx
    obtain ⟨u2, hu2, ru2⟩ := rv2.get hy
    obtain ⟨u3, hu3, ru3⟩ := rv3.get hzz
    have S : ZipSep3 (N + 5) (N + 3) (N + 4) N (N + 1) (N + 2) [N, a] [N + 1, b] [N + 2, d] := zip_sep3 (N := N) (fp1 := [a]) (fp2 := [b]) (fp3 := [d]) (by simpa using la) (by simpa using lb) (by simpa using ld)
    have D1 := drawsB (prog := X.prog) (w := X.w) (A := X.A.in1) (I.ok.hd hc) t1 N a (Nat.ne_of_lt la) its.toArray
    have D2 := drawsB (prog := X.prog) (w := X.w) (A := X.A.in1) (I.ok.hd hc) t2 (N + 1) b (Nat.ne_of_lt (Nat.lt_succ_of_lt lb)) its2.toArray
    have D3 := drawsB (prog := X.prog) (w := X.w) (A := X.A.in1) (I.ok.hd hc) t3 (N + 2) d (Nat.ne_of_lt (Nat.lt_succ_of_lt (Nat.lt_succ_of_lt ld))) its3.toArray
    have l1 : i < its.toArray.size := (List.getElem?_eq_some_iff.mp hu).1
    have l2 : i < its2.toArray.size := (List.getElem?_eq_some_iff.mp hu2).1
    have l3 : i < its3.toArray.size := (List.getElem?_eq_some_iff.mp hu3).1
    refine thn (wt_item (elts := elts) (k := kk) (pos := tpos) (xs := [x, y, z]) (WalksT.zipD3 S D1 D2 D3) I (fun c hcm => hf c ?_) (Nat.lt_min.mpr ⟨Nat.lt_min.mpr ⟨l1, l2⟩, l3⟩) ⟨hz, hTI, hTO, ⟨h1, p⟩, ⟨h2, p2⟩, ⟨h3, p3⟩⟩ (fun vals hv => ?_) (by show 3 ≤ sizeLine; decide)) ?_
    · have e' : c = N + 5 ∨ c = N + 4 ∨ c = N ∨ c = N + 1 ∨ c = N + 2 := by simpa using hcm
      rcases e' with q | q | q | q | q <;> rw [q] <;> simp
    · obtain ⟨x1, x2, x3, e1, e2, e3, rfl⟩ := hv
      have q1 : x1 = u := by
        have z : its[i]? = some x1 := by simpa using e1
        rw [hu] at z; exact (Option.some.inj z).symm
      have q2 : x2 = u2 := by
        have z : its2[i]? = some x2 := by simpa using e2
        rw [hu2] at z; exact (Option.some.inj z).symm
      have q3 : x3 = u3 := by
        have z : its3[i]? = some x3 := by simpa using e3
        rw [hu3] at z; exact (Option.some.inj z).symm
      subst q1 q2 q3
      exact .cons ru (.cons ru2 (.cons ru3 .nil))
    · rintro r s1 ⟨v, hr, hgo⟩
      refine ⟨v, hr, thn hgo ?_⟩
      rintro _ s2 ⟨T, I2, rfl, hT, st2⟩
      have nT : H T = none := I.hok.fresh hT
      refine ⟨.ref T, _, I2, rfl, ⟨T, x, y, z, rfl, nT, rfl, fun l hl => by rw [SqB.inj I hl hqx]; exact hx, fun l hl => by rw [SqB.inj I hl hqy]; exact hy, fun l hl => by rw [SqB.inj I hl hqz]; exact hzz⟩, ?_, fun c hcm => ?_⟩
      · obtain ⟨z1, z2, z3, z4, z5, z6⟩ := st2
        exact ⟨z1, z2, z3, z4.1, z5.1, z6.1⟩
      · have hlt : c < s.heap.objs.size := by
          have e' : c = N + 5 ∨ c = N + 3 ∨ c = N + 4 ∨ c = N ∨ c = N + 1 ∨ c = N + 2 := by simpa using hcm
          obtain ⟨_, _, _, hTO⟩ := hTO
          rcases e' with q | q | q | q | q | q
          · rw [q]; exact Heap.lt_size hz
          · rw [q]; exact Heap.lt_size hTI
          · rw [q]; exact Heap.lt_size hTO
          · rw [q]; obtain ⟨_, e1, _⟩ := h1.obj; exact Heap.lt_size e1
          · rw [q]; obtain ⟨_, e2, _⟩ := h2.obj; exact Heap.lt_size e2
          · rw [q]; obtain ⟨_, e3, _⟩ := h3.obj; exact Heap.lt_size e3
        rw [upd_ne (Nat.ne_of_lt (Nat.lt_of_lt_of_le hlt hT))]
        exact (hf c hcm).1
  done := by
    intro X hP hw hK hc i pins s σ H E I hf st hg
    subst hP hw hK
    obtain ⟨hz, hTI, hTO, h1, h2, h3⟩ := st
    obtain ⟨xs, ys, zs, hqx, hqy, hqz, hend⟩ := hg
    obtain ⟨its, rv, p, _, _⟩ := srcB I hqx
    obtain ⟨its2, rv2, p2, _, _⟩ := srcB I hqy
    obtain ⟨its3, rv3, p3, _, _⟩ := srcB I hqz
    have S : ZipSep3 (N + 5) (N + 3) (N + 4) N (N + 1) (N + 2) [N, a] [N + 1, b] [N + 2, d] := zip_sep3 (N := N) (fp1 := [a]) (fp2 := [b]) (fp3 := [d]) (by simpa using la) (by simpa using lb) (by simpa using ld)
    have D1 := drawsB (prog := X.prog) (w := X.w) (A := X.A.in1) (I.ok.hd hc) t1 N a (Nat.ne_of_lt la) its.toArray
    have D2 := drawsB (prog := X.prog) (w := X.w) (A := X.A.in1) (I.ok.hd hc) t2 (N + 1) b (Nat.ne_of_lt (Nat.lt_succ_of_lt lb)) its2.toArray
    have D3 := drawsB (prog := X.prog) (w := X.w) (A := X.A.in1) (I.ok.hd hc) t3 (N + 2) d (Nat.ne_of_lt (Nat.lt_succ_of_lt (Nat.lt_succ_of_lt ld))) its3.toArray
    have e : i = min (min its.toArray.size its2.toArray.size) its3.toArray.size := by rw [← hend, List.size_toArray, List.size_toArray, List.size_toArray, rv.length, rv2.length, rv3.length]
    subst e
    refine wt_done (WalksT.zipD3 S D1 D2 D3) I (fun c hcm => hf c ?_) ⟨hz, hTI, hTO, ⟨h1, p⟩, ⟨h2, p2⟩, ⟨h3, p3⟩⟩
    have e' : c = N + 5 ∨ c = N + 4 ∨ c = N ∨ c = N + 1 ∨ c = N + 2 := by simpa using hcm
    rcases e' with q | q | q | q | q <;> rw [q] <;> simp
  self := fun A i s Q E st h => wpAny_pyIter_zip st.1 h
def zip3L : List DV → List DV → List DV → List DV
  | a :: r, b :: s, c :: t => .tup [a, b, c] :: zip3L r s t
  | _, _, _ => []
theorem zip3L_len : ∀ l m n : List DV, (zip3L l m n).length = min (min l.length m.length) n.length
  | [], m, n => by simp [zip3L]
  | a :: r, [], n => by simp [zip3L]
  | a :: r, b :: s, [] => by simp [zip3L]
  | a :: r, b :: s, c :: t => by simp [zip3L, zip3L_len r s t]
theorem zip3L_get : ∀ (l m n : List DV) (i : Nat) (d : DV), (zip3L l m n)[i]? = some d → ∃ x y z, d = .tup [x, y, z] ∧ l[i]? = some x ∧ m[i]? = some y ∧ n[i]? = some z
  | [], m, n, i, d, h => by simp [zip3L] at h
  | a :: r, [], n, i, d, h => by simp [zip3L] at h
  | a :: r, b :: s, [], i, d, h => by simp [zip3L] at h
  | a :: r, b :: s, c :: t, 0, d, h => by simp [zip3L] at h; exact ⟨a, b, c, h.symm, rfl, rfl, rfl⟩
  | a :: r, b :: s, c :: t, i + 1, d, h => by
    obtain ⟨x, y, z, e, e1, e2, e3⟩ := zip3L_get r s t i d (by simpa [zip3L] using h)
    exact ⟨x, y, z, e, by simpa using e1, by simpa using e2, by simpa using e3⟩
theorem itd_z3 {K : PySem.W.Frag} {t1 t2 t3 : Bool} {a b d : Addr} {l m n : List DV} {s1 s2 s3 : Gh → Prop} {G : Gh} {H : Hp} (o1 : SrcOk K t1 a l s1 G H) (o2 : SrcOk K t2 b m s2 G H) (o3 : SrcOk K t3 d n s3 G H) : ItD K (Itz3 K t1 t2 t3 a b d) (zip3L l m n) (fun G => s1 G ∧ s2 G ∧ s3 G) G H where
  go := fun i H1 G1 dd wg x st e => by
    obtain ⟨dx, dy, dz, rfl, ex, ey, ez⟩ := zip3L_get l m n i dd e
    obtain ⟨xs, qx, rx⟩ := o1.all _ _ wg x st.1
    obtain ⟨ys, qy, ry⟩ := o2.all _ _ wg x st.2.1
    obtain ⟨zs, qz, rz⟩ := o3.all _ _ wg x st.2.2
    obtain ⟨v, ev, rv⟩ := rx.get ex
    obtain ⟨u, eu, ru⟩ := ry.get ey
    obtain ⟨p, ep, rp⟩ := rz.get ez
    refine ⟨⟨xs, ys, zs, v, u, p, qx, qy, qz, ev, eu, ep⟩, ?_⟩
    rintro z H' ⟨T, x', y', z', rfl, nT, rfl, f1, f2, f3⟩
    have q1 := f1 xs qx
    rw [ev] at q1; cases q1
    have q2 := f2 ys qy
    rw [eu] at q2; cases q2
    have q3 := f3 zs qz
    rw [ep] at q3; cases q3
    exact ⟨wg.new nT, Ext.new nT, VR.newT wg nT (.cons rv (.cons ru (.cons rp .nil)))⟩
  stop := fun i H1 G1 wg x st hl => by
    obtain ⟨xs, qx, rx⟩ := o1.all _ _ wg x st.1
    obtain ⟨ys, qy, ry⟩ := o2.all _ _ wg x st.2.1
    obtain ⟨zs, qz, rz⟩ := o3.all _ _ wg x st.2.2
    exact ⟨xs, ys, zs, qx, qy, qz, by rw [rx.len, ry.len, rz.len, ← zip3L_len]; exact hl⟩
def zip3K (I : List DV → (Gh → Prop) → Gh → Prop) : List DV → Gh → Prop := fun ds G1 => match ds with
  | [x, y, z] => srcD x G1 fun l s1 => srcD y G1 fun m s2 => srcD z G1 fun n s3 => I (zip3L l m n) (fun G => s1 G ∧ s2 G ∧ s3 G) G1
  | _ => False
def wiZip3 (wr : DA) : DI := fun Y env G R => wr Y env G (zip3K R)
section
variable {X : Cx} {W : WX} {e e2 e3 : Expr} {wr : DA} {pos p tpos : Pos} {elts : List Expr} {kk : Nat}
theorem qi_zip3 (hm : X.mg "zip" = none) (ha : QA X W [e, e2, e3] wr) (hg : Gl X "zip" := by rfl) (hs : starEach [e, e2, e3] X.env = (false, eval e X.env) :: starEach [e2, e3] X.env := by rfl) (hpl : (backTo pos (starEach [e2, e3] X.env)).any (·.1) = false := by rfl) :
    QI X W (.Tuple elts kk tpos) (.Call (.Name "zip" p) [e, e2, e3] [] pos) (wiZip3 wr) := by
  refine ⟨⟨?_⟩⟩
  rintro pins s σ H R I ⟨Y, env, G, P, er, wg, hw, k, kx⟩
  refine Call_ (ld_blt I hg hm PyProof.Rows.boot_zip (PyProof.Rows.callWith_type1 (thn (ha.pa.run pos pins s σ H (fun vs H1 => ∃ ds G1, VRs X.K H1 vs ds ∧ WG X.K G1 H1 ∧ Ext G H G1 H1 ∧ zip3K P ds G1) I ⟨Y, env, G, _, er, wg, hw, fun ds G1 vs H1 h1 w1 x1 r1 => ⟨ds, G1, r1, w1, x1, h1⟩, kx⟩) fun us s1 ⟨vs, H1, I1, r1, ds, G1, rs, w1, x1, h1⟩ => ?_) hs hpl))
  match ds, rs, h1 with
  | [dx, dy, dz], .cons rx (.cons ry (.cons rz .nil)), h1 =>
    have h1 : srcD dx G1 fun l s1 => srcD dy G1 fun m s2 => srcD dz G1 fun n s3 => P (zip3L l m n) (fun G => s1 G ∧ s2 G ∧ s3 G) G1 := h1
    obtain ⟨t1, a, l, st1, rfl, h2, sg1, ok1⟩ := srcD.ok w1 rx h1
    obtain ⟨t2, b, m, st2, rfl, h3, sg2, ok2⟩ := srcD.ok w1 ry h2
    obtain ⟨t3, d, n, st3, rfl, h4, sg3, ok3⟩ := srcD.ok w1 rz h3
    cases r1 with
    | cons ra rr =>
      cases rr with
      | cons rb rr =>
        cases rr with
        | cons rc rr =>
          cases rr
          cases ra
          cases rb
          cases rc
          obtain ⟨xs, qx, _⟩ := ok1.all _ _ w1 Ext.refl sg1
          obtain ⟨ys, qy, _⟩ := ok2.all _ _ w1 Ext.refl sg2
          obtain ⟨zs, qz, _⟩ := ok3.all _ _ w1 Ext.refl sg3
          obtain ⟨its, _, p1, _, la⟩ := srcB I1 qx
          obtain ⟨its2, _, p2, _, lb⟩ := srcB I1 qy
          obtain ⟨its3, _, p3, _, ld⟩ := srcB I1 qz
          refine zip_begins3 (beginsB t1 a its.toArray) (beginsB t2 b its2.toArray) (beginsB t3 d its3.toArray) p1 p2 p3 fun h' hz hTI hTO h1 h2 h3 hsz hk => wpAny_pyIter_zip hz ?_
          have I2 : L2.Inv X pins σ H1 { s1 with heap := h' } := I1.kept (t' := s1.toks) hk
          refine ⟨s1.heap.objs.size + 5, _, _, _, H1, rfl, I2, turn_z3 (t1 := t1) (t2 := t2) (t3 := t3) la lb ld, ⟨hz, hTI, ⟨_, _, _, hTO⟩, ItB.start h1, ItB.start h2, ItB.start h3⟩, fun c hcm => ?_, k _ _ _ _ _ h4 w1 x1 (itd_z3 ok1 ok2 ok3)⟩
          have e' : c = s1.heap.objs.size + 5 ∨ c = s1.heap.objs.size + 3 ∨ c = s1.heap.objs.size + 4 ∨ c = s1.heap.objs.size ∨ c = s1.heap.objs.size + 1 ∨ c = s1.heap.objs.size + 2 := by simpa using hcm
          have hle : s1.heap.objs.size ≤ c := by
            rcases e' with z | z | z | z | z | z <;> (rw [z]; first | exact Nat.le_refl _ | exact Nat.le_add_right _ _)
          exact I1.fpOk hle (I1.hok.fresh hle)
end
variable {Y : DX} {env : Dv} {G : Gh} {wr : DA} {I : List DV → (Gh → Prop) → Gh → Prop} {x y z : DV}
theorem s_wiZip3 (q : wr Y env G (zip3K I)) : wiZip3 wr Y env G I := q
theorem s_zip3 (q : srcD x G fun l s1 => srcD y G fun m s2 => srcD z G fun n s3 => I (zip3L l m n) (fun G => s1 G ∧ s2 G ∧ s3 G) G) : zip3K I [x, y, z] G := q
theorem zip3L_map {α β γ : Type} (f : α → DV) (g : β → DV) (h : γ → DV) : ∀ (l : List α) (m : List β) (n : List γ), zip3L (l.map f) (m.map g) (n.map h) = (l.zip (m.zip n)).map fun p => .tup [f p.1, g p.2.1, h p.2.2]
  | [], m, n => by simp [zip3L]
  | a :: l, [], n => by simp [zip3L]
  | a :: l, b :: m, [] => by simp [zip3L]
  | a :: l, b :: m, c :: n => by simp [zip3L, zip3L_map f g h l m n]
end DL

namespace DL
open PySem PySem.Spec L2
open PyProof.Rows hiding St
/-! ### list.remove of ints -/
def dRemove : DM := fun x ds G Q => match x, ds with
  | .ref a, [.int k] => ∃ (ns : List Int) (j : Nat), G a = some (.lst (ns.map DV.int)) ∧ ns[j]? = some k ∧ (∀ m : Nat, m < j → ns[m]? ≠ some k) ∧ Q .non (gup G a (.lst ((ns.eraseIdx j).map DV.int)))
  | _, _ => False
theorem m_remove {X : Cx} : MtD X "list.remove" dRemove := by
  rintro pins s σ H x xs v us Q I rx rs ⟨dx, ds, G, P, vx, vs, wg, h, k⟩
  match dx, ds, vx, vs, h with
  | .ref a, [.int i], .ref _, .cons (.int _) .nil, ⟨ns, j, ga, hj, hm, h⟩ =>
    obtain ⟨ys, ha, ra⟩ := wg _ _ ga
    have e := ra.ofInts
    subst e
    exact mt_remove pins s σ H _ _ v us Q I rx rs ⟨a, ns, i, j, rfl, rfl, ha, hj, hm, k _ _ _ _ h (wg.setL ga (VRs.ints _)) (Ext.setC ga) .non⟩
theorem x_remove {e : Addr} {k : Int} {ns : List Int} {G : Gh} {Q : DV → Gh → Prop} (he : G e = some (.lst (ns.map .int))) (hk : k ∈ ns) (q : ∀ G1, Old e G G1 → G1 e = some (.lst ((ns.erase k).map .int)) → Q .non G1) : dRemove (.ref e) [.int k] G Q := by
  have h1 := List.idxOf_lt_length_of_mem hk
  refine ⟨ns, ns.idxOf k, he, ?_, fun m hm hq => ?_, q _ Old.set ?_⟩
  · rw [List.getElem?_eq_getElem h1, List.getElem_idxOf]
  · obtain ⟨hl, hv⟩ := List.getElem?_eq_some_iff.mp hq
    have := List.not_of_lt_findIdx (p := (· == k)) (xs := ns) (i := m) hm
    rw [hv] at this
    simp at this
  · rw [← List.erase_eq_eraseIdx_of_idxOf rfl]; exact gup_same
end DL

namespace L2
open PySem PySem.Spec
open PyProof.Rows hiding St
section
variable {X : Cx} {e : Expr} {es : List Expr} {ta : TA}
/-- B.__init__(self, ..), B an own class that has ValueError's -/
theorem pe_baseinit {B : Str} {D : Addr} {mc : Value} {p1 p2 pos : Pos} {pl : Sem Bool} (hg : Gl X B) (hm : X.mg B = some (.ref D)) (cr : ClX.CRead X.K D mc) (vV : PySem.W.findCls X.K (.ref D) mc "__init__" = some (.val (.builtin "ValueError.__init__"))) (ha : PA X (e :: es) ta)
    (hev : eval (.Call (.Attribute (.Name B p1) "__init__" p2) (e :: es) [] pos) X.env = (do
      let ov ← eval (.Name B p1) X.env
      standAt p2.atName
      let (f, first) ← holding [ov] (getMethod ov "__init__" pl)
      callWith pos f first (backTo pos (starEach (e :: es) X.env)) (backToKw pos (keywordEach [] X.env))) := by rfl)
    (hs : starEach (e :: es) X.env = (false, eval e X.env) :: starEach es X.env := by rfl) (hpl : (backTo pos (starEach es X.env)).any (·.1) = false := by rfl) (hd : (B == ("__debug__" : Str)) = false := by decide) :
    PE X (.Call (.Attribute (.Name B p1) "__init__" p2) (e :: es) [] pos) (tVeI X.K ta) := by
  refine ⟨?_⟩
  intro pins s σ H Q I h
  refine PySem.W.methodCall_KW (ld_glob I hg hm ?_ hd) hev
  refine PySem.W.method_cls I.kIn cr.ga ?_
  refine PySem.W.cls_value I.kIn cr.rd vV rfl ?_
  have I1 := I.tok (t := s.toks + 1)
  refine callWith_method1 (thn (ha.run pos pins _ σ H _ I1 h) fun us s1 hh => ?_) hs hpl
  obtain ⟨vs, H1, I2, r, a, C, ws, rfl, hl, oc, he, q⟩ := hh
  cases r with
  | cons ra rr =>
    cases ra
    refine oinit_ok oc I2 he ?_ (fun s' I3 => ⟨.non, H1, I3, rfl, q⟩)
    have := rr.length
    rw [sizeLine_eq]
    omega
end
end L2
namespace L2
open PySem PySem.Spec
open PyProof.Rows hiding St
/-- what an error's __init__ leaves: its fields, in a dict of its own -/
def spInit (C : Addr) (fs : List Str) : Sp := fun vs H Q _ => ∃ (a : Addr) (ws : List V), vs = .ref a :: ws ∧ ws.length = fs.length ∧ H a = some (exo a C none) ∧
  ∀ dx, H dx = none → dx ≠ a → Q .non (upd (upd H dx (exd dx (fs.zip ws).reverse)) a (exo a C (some dx)))
section
variable {P : Program} {w : World} {K : PySem.W.Frag} {mg : Str → Option Value} {base : Heap} {qual : Str} {st : Stmt} {f C : Addr} {fd : FuncData} {k : Nat} {f1 f2 : Str} {tm : TE}
theorem ok_init1 (F : Fun K "__init__" qual st f fd) (S : FnScope ["self", f1] ["self", f1] (defScope st)) (oc : OexC K C) (n1 : PySem.W.findIn K (.ref C) f1 = some none)
    (hm : ∀ a v H (Q : V → Hp → Prop), (∀ u, Q u H) → tm [some (.ref a), some v] H Q)
    (hb : ∀ (cdv : Value) (A : Around) (outer : List Env) (s : Shared) (H : Hp) (E : XK) (c : Bool) (pn : List (Addr × Obj)), PSs (Cx.nox { cxOf CX0 P w K mg base ["self", f1] qual (defScope st) f cdv A outer s H E with calm := c, pn := pn }) (defBody st) (tSeq (tDrop (tVeI K (tCons (tVar 0) (tCons tm tNil)))) (tOst K f1 (tVar 0) (tVar 1)))) :
    FnOk P w K mg base CX0 (k + 1) f fd ["self", f1] (spInit C [f1]) ∧ L2H.FnH P w K mg base CX0 (k + 1) f fd ["self", f1] (spInit C [f1]) := by
  have len : ∀ vs H Q E, spInit C [f1] vs H Q E → vs.length = (["self", f1] : List Str).length := by
    rintro vs H Q E ⟨a, ws, rfl, hl, _⟩
    simpa using hl
  have post : ∀ vs H Q E, spInit C [f1] vs H Q E → (tSeq (tDrop (tVeI K (tCons (tVar 0) (tCons tm tNil)))) (tOst K f1 (tVar 0) (tVar 1))) { nx := fun _ H' => Q .non H', rt := Q } (start ["self", f1] vs) H := by
    rintro vs H Q E ⟨a, ws, rfl, hl, he, q⟩
    match ws, hl with
    | [v], _ =>
      refine ⟨.ref a, rfl, hm a v H _ fun u => ?_⟩
      refine ⟨a, C, [u], rfl, by simp, oc, he, ?_⟩
      refine ⟨v, rfl, .ref a, rfl, a, C, rfl, oc, n1, .inl ⟨he, fun dx hd hne => ?_⟩⟩
      exact q dx hd hne
  refine ⟨F.ok S len fun cdv A outer s H vs Q E hr hsp => ⟨_, hb cdv A outer s H E true [], post _ _ _ _ hsp⟩, ?_⟩
  obtain ⟨oc, od, kV, doc, pm, an, cdv, ct, osl, rfl, lk, hcd⟩ := F.ex
  exact L2H.fn_ofH lk hcd S len fun A outer s H vs Q E p hot hr hsp => ⟨_, (hb cdv A outer s H E false [p]).nox, post _ _ _ _ hsp⟩
theorem upd_swap {H : Hp} {a b : Addr} {x y z : HO} (h : b ≠ a) : upd (upd (upd H b x) a y) b z = upd (upd H b z) a y := by
  funext c
  by_cases h1 : c = b
  · subst h1
    rw [upd_same, upd_ne h, upd_same]
  · rw [upd_ne h1]
    by_cases h2 : c = a
    · subst h2; rw [upd_same, upd_same]
    · rw [upd_ne h2, upd_ne h2, upd_ne h1, upd_ne h1]
theorem ok_init2 (F : Fun K "__init__" qual st f fd) (S : FnScope ["self", f1, f2] ["self", f1, f2] (defScope st)) (oc : OexC K C) (n1 : PySem.W.findIn K (.ref C) f1 = some none) (n2 : PySem.W.findIn K (.ref C) f2 = some none)
    (hm : ∀ a v v2 H (Q : V → Hp → Prop), (∀ u, Q u H) → tm [some (.ref a), some v, some v2] H Q)
    (hb : ∀ (cdv : Value) (A : Around) (outer : List Env) (s : Shared) (H : Hp) (E : XK) (c : Bool) (pn : List (Addr × Obj)), PSs (Cx.nox { cxOf CX0 P w K mg base ["self", f1, f2] qual (defScope st) f cdv A outer s H E with calm := c, pn := pn }) (defBody st) (tSeq (tDrop (tVeI K (tCons (tVar 0) (tCons tm tNil)))) (tSeq (tOst K f1 (tVar 0) (tVar 1)) (tOst K f2 (tVar 0) (tVar 2))))) :
    FnOk P w K mg base CX0 (k + 1) f fd ["self", f1, f2] (spInit C [f1, f2]) ∧ L2H.FnH P w K mg base CX0 (k + 1) f fd ["self", f1, f2] (spInit C [f1, f2]) := by
  have len : ∀ vs H Q E, spInit C [f1, f2] vs H Q E → vs.length = (["self", f1, f2] : List Str).length := by
    rintro vs H Q E ⟨a, ws, rfl, hl, _⟩
    simpa using hl
  have post : ∀ vs H Q E, spInit C [f1, f2] vs H Q E → (tSeq (tDrop (tVeI K (tCons (tVar 0) (tCons tm tNil)))) (tSeq (tOst K f1 (tVar 0) (tVar 1)) (tOst K f2 (tVar 0) (tVar 2)))) { nx := fun _ H' => Q .non H', rt := Q } (start ["self", f1, f2] vs) H := by
    rintro vs H Q E ⟨a, ws, rfl, hl, he, q⟩
    match ws, hl with
    | [v, v2], _ =>
      refine ⟨.ref a, rfl, hm a v v2 H _ fun u => ?_⟩
      refine ⟨a, C, [u], rfl, by simp, oc, he, ?_⟩
      refine ⟨v, rfl, .ref a, rfl, a, C, rfl, oc, n1, .inl ⟨he, fun dx hd hne => ?_⟩⟩
      refine ⟨v2, rfl, .ref a, rfl, a, C, rfl, oc, n2, .inr ⟨dx, [(f1, v)], upd_same, by rw [upd_ne hne, upd_same], by simp, ?_⟩⟩
      rw [upd_swap hne]
      exact q dx hd hne
  refine ⟨F.ok S len fun cdv A outer s H vs Q E hr hsp => ⟨_, hb cdv A outer s H E true [], post _ _ _ _ hsp⟩, ?_⟩
  obtain ⟨oc, od, kV, doc, pm, an, cdv, ct, osl, rfl, lk, hcd⟩ := F.ex
  exact L2H.fn_ofH lk hcd S len fun A outer s H vs Q E p hot hr hsp => ⟨_, (hb cdv A outer s H E false [p]).nox, post _ _ _ _ hsp⟩
end
end L2
namespace PySem.W
open PySem
theorem bk_bexc : builtinKind "BaseException.__getattribute__" = some Manifest.AttrKind.slot := by decide +kernel
theorem sp_bexc : splitId "BaseException.__getattribute__" = some ("BaseException", "__getattribute__") := by decide +kernel
theorem isi_exc {M : Model} {h : Heap} {K : Frag} {x D : Addr} {ox : Obj} {od : Option Obj} (X : K.In h) (I : InstAt h x ox D od) (hs : subIn K (.ref D) (.type "BaseException") = some true) : Looks M h (isInstance (.ref x) (.type "BaseException")) true := by
  unfold isInstance
  exact Looks.andThen (InstAt.type I) (looks_subIn X hs)
theorem check_exc {M : Model} {A : Around} {E : Value → Shared → Prop} {s : Shared} {K : Frag} {x D : Addr} {ox : Obj} {od : Option Obj} {v : Value} {Q : Unit → Shared → Prop} (X : K.In s.heap) (I : InstAt s.heap x ox D od) (hs : subIn K (.ref D) (.type "BaseException") = some true) (q : Q () s) :
    wpAny M A (checkBuiltinCall "BaseException.__getattribute__" { pos := [.ref x, v] }) Q E s :=
  check_slot (i := "BaseException.__getattribute__") (owner := "BaseException") (n := "__getattribute__") (self := .ref x) (rest := [v]) (kw := []) bk_bexc sp_bexc (isi_exc X I hs) (F.args_bexc_ga (.ref x) v) q
theorem ga_exc {prog : Program} {w : World} {A : Around} {E : Value → Shared → Prop} {s : Shared} {K : Frag} {x D : Addr} {ox od : Obj} {tk : Nat} {Q : Fin → Shared → Prop} (X : K.In s.heap) (I : InstAt s.heap x ox D (some od)) (hm : mroIn K D (.type "object") = some true)
    (hf : findObj K D (some od) (Str.ofString "__class__") = some (Builtin.ObjectAttr.Found.bind (Value.builtin "getset_descriptor.__get__") (Value.builtin "object.__class__"))) (q : Q (.done (.ret (.ref D))) s) :
    wpAny (model prog w) A (Builtin.«object.__getattribute__» { pos := [.ref x, .str (Str.ofString "__class__") tk] }) Q E s := by
  obtain ⟨hp, g, dr, t, os⟩ := s
  unfold Builtin.«object.__getattribute__»
  refine wpAny_bind ?_
  refine wpAny_of_eq (a := (.ref x, [.str (Str.ofString "__class__") tk])) rfl ?_
  refine wpAny_bind (wpAny_of_eq (a := Str.ofString "__class__") rfl ?_)
  refine wpAny_bind (Looks.at (InstAt.type I) ?_)
  refine wpAny_bind (Looks.at (looks_find X I hf) ?_)
  show wpAny _ _ (Builtin.ObjectAttr.bindTo _ _ _ _) _ _ _
  unfold Builtin.ObjectAttr.bindTo
  refine wpAny_bind (wpAny_holding ?_)
  refine wpAny_call (class_get X I hm ?_)
  exact wpAny_pure q
theorem kin_classX {prog : Program} {w : World} {A : Around} {E : Value → Shared → Prop} {s : Shared} {K : Frag} {x D : Addr} {ox od : Obj} {Q : Option Value → Shared → Prop}
    (hg : findIn K (.ref D) "__getattribute__" = some (some (.builtin "BaseException.__getattribute__"))) (hk : findIn K (.ref D) "__getattr__" = some none) (hs : subIn K (.ref D) (.type "BaseException") = some true) (hd : hasDictIn K D = true)
    (ha : findIn K (.ref D) "__class__" = some (some (.builtin "object.__class__"))) (hn : specialIn K (.builtin "object.__class__") "__get__" = some (some (.builtin "getset_descriptor.__get__"))) (ht : takesIn K (.builtin "object.__class__") = some true)
    (hm : mroIn K D (.type "object") = some true) (X : K.In s.heap) (I : InstAt s.heap x ox D (some od)) (hq : Q (some (.ref D)) { s with toks := s.toks + 1 }) : wpAny (model prog w) A (getAttr? (.ref x) "__class__") Q E s := by
  obtain ⟨hp, g, dr, tk, os⟩ := s
  have hcl : (clsIn K D).isSome = true := by
    unfold hasDictIn at hd
    cases e : clsIn K D with
    | none => rw [e] at hd; cases hd
    | some c => rfl
  have hf := findObj_data (od := od) hcl ha hn ht
  unfold getAttr?
  refine wpAny_bind (wpAny_mkText ?_)
  unfold getAttrBy?
  refine wpAny_bind (wpAny_attempt ?_)
  unfold getAttrBy
  refine wpAny_holding ?_
  refine wpAny_bind (Looks.at (InstAt.type I) ?_)
  refine wpAny_bind (Looks.at (looks_findIn X hg) ?_)
  show wpAny _ _ (if _ then _ else _) _ _ _
  rw [if_neg (fun h => absurd (Bool.and_eq_true .. ▸ h : _ ∧ _).2 (by decide))]
  unfold getAttrByItsOwn
  refine wpAny_bind ?_
  unfold hookBefore
  rw [if_pos (show onTheHeap (.ref D) = true from rfl)]
  refine Looks.at (looks_findIn X hk) ?_
  refine wpAny_bind (wpAny_attempt (wpAny_holding ?_))
  unfold callGetattribute
  rw [if_neg (by simp)]
  unfold boundAndCalled
  refine wpAny_bind (wpAny_of_eq (F.excAttr_ValueError.ga.bind _) ?_)
  show wpAny _ _ (call _ [_, _]) _ _ _
  refine wpAny_call (codeAny_call_builtin F.excAttr_ValueError.ga.plain F.entry_bexc_ga ?_)
  refine check_exc X I hs ?_
  refine ga_exc X I hm hf ?_
  show wpAny _ _ (handedOut _) _ _ _
  rw [handedOut_of (v := .ref D) rfl]
  refine wpAny_pure ?_
  exact wpAny_pure hq
theorem handS_kitx_excX {K : Frag} {x D : Addr} {ox od : Obj} (hg : findIn K (.ref D) "__getattribute__" = some (some (.builtin "BaseException.__getattribute__"))) (hk : findIn K (.ref D) "__getattr__" = some none) (hs : subIn K (.ref D) (.type "BaseException") = some true) (hd : hasDictIn K D = true)
    (ha : findIn K (.ref D) "__class__" = some (some (.builtin "object.__class__"))) (hn : specialIn K (.builtin "object.__class__") "__get__" = some (some (.builtin "getset_descriptor.__get__"))) (ht : takesIn K (.builtin "object.__class__") = some true)
    (hm : mroIn K D (.type "object") = some true) : KitX K (.ref x) (.ref D) fun h => InstAt h x ox D (some od) := by
  have base := handS_kitx_exc (x := x) (ox := ox) hg hk hs hd ha hn ht hm
  obtain ⟨o, cd, ho, hdat⟩ : ∃ o cd, K.lookup D = some o ∧ o.data = .cls cd := by
    unfold hasDictIn clsIn at hd
    cases e : K.lookup D with
    | none => rw [e] at hd; cases hd
    | some o =>
      obtain ⟨oc, od', dat, sl⟩ := o
      rw [e] at hd
      cases dat <;> first | exact ⟨_, _, rfl, rfl⟩ | cases hd
  refine ⟨fun M h X I => InstAt.type I, fun M h X I => ?_, fun h tp dd its n sl X e => ?_, fun X I q => kin_classX hg hk hs hd ha hn ht hm X I q⟩
  · intro A Q E s k q
    unfold isType
    refine wpAny_bind (wpAny_loadPart (k _ _ (X _ _ ho)) ?_)
    rw [hdat]
    exact wpAny_pure q
  · exact base.ne h tp dd its n sl X e
end PySem.W
namespace L2
open PySem PySem.Spec
open PyProof.Rows hiding St
/-- isinstance of an error that has a dict of its own -/
def rIsEX (K : PySem.W.Frag) (cls : Value) (d : Option Addr) (a : Addr) : List V → Hp → VK → Prop := fun xs H Q => ∃ (D dd : Addr) (fs : List (Str × V)) (c : V) (cv : Value) (b : Bool), cls = .ref D ∧ d = some dd ∧ ExcC K D ∧ H dd = some (.xd fs) ∧ xs = [.ref a, c] ∧ (∀ u, RelV c u → u = cv) ∧ PySem.W.kitOne K (.ref D) cv = some b ∧ Q (.bl b) H
theorem call_isEX {X : Cx} {a : Addr} {oe : Obj} {cls : Value} {d : Option Addr} {pn : List (Addr × Obj)} (hz : Zc cls d oe) (hf : ∃ vs, oe.data = .fields vs) : CallR (X.suite a ((a, oe) :: pn)) (.builtin "isinstance") (rIsEX X.K cls d a) := by
  rintro pins s σ H xs us Q I rs ⟨D, dd, fs, c, cv, b, rfl, rfl, C, hd, rfl, hc, hb, q⟩
  obtain ⟨z1, z2⟩ := hz
  obtain ⟨vs, hf⟩ := hf
  obtain ⟨p1, _⟩ := I.pin (a, oe) (List.mem_append_left _ (List.mem_cons_self ..))
  obtain ⟨mA, hns, _⟩ := I.hok dd _ hd
  obtain ⟨od, es, ep, ho, _⟩ := hns
  cases rs with
  | cons ra rr =>
    cases rr with
    | cons rc rn =>
      cases rn
      cases ra
      cases hc _ rc
      refine PySem.W.kia_one (PySem.W.handS_kitx_excX (x := a) (ox := oe) (od := od) C.hg C.hk C.hs C.hd C.ha C.hn C.ht C.hm) I.kIn ⟨p1, z1, ?_, ?_⟩ hb (fun h => nomatch h) fun tk => ?_
      · unfold PySem.W.notCls
        rw [hf]
      · rw [z2]; exact ho
      · exact ⟨.bl b, H, I.tok _, rfl, q⟩
/-- an own error made: its __init__ is run by go; its context is None -/
theorem own_made {X : Cx} {CX : CXT} {C fI : Addr} {sp : Sp} {pins : List (Addr × Obj)} {σ : St} {H1 : Hp} {s1 : Shared} {us : List Value} {vs : List V} {Q : XK} (T : OexC X.K C) (iC : PySem.W.findIn X.K (.ref C) "__init__" = some (some (.ref fI)))
    (tI : PySem.W.typeIn X.K (.ref fI) = some (.type "function")) (hx : Passes CX X fun _ _ _ => False) (I1 : Inv X pins σ H1 s1) (r1 : Vals vs us) (few : vs.length ≤ 1000)
    (q1 : ∀ a, H1 a = none → sp (.ref a :: (vs ++ [])) (upd H1 a (exo a C none)) (fun v H2 => v = .non ∧ ∃ (d : Addr) (fs : List (Str × V)), H2 a = some (exo a C (some d)) ∧ H2 d = some (exd d fs) ∧ H1 d = none ∧ Q (.ref C) (some d) (upd (del H2 a) d (.xd fs))) fun _ _ _ => False)
    (go : ∀ (s2 : Shared) (H2 : Hp) (a : Addr) (R : VK), Inv X pins σ H2 s2 → sp (.ref a :: vs) H2 R (fun _ _ _ => False) →
      codeAny (model X.prog X.w) (X.A.under (.builtin "type.__call__" ⟨.ref C :: us, []⟩)) (.call (.ref fI) ⟨.ref a :: us, []⟩) (CR CX X.stack X.prog X.w H2 s2 R fun _ _ _ => False) s2) :
    wpAny (model X.prog X.w) X.A (call (.ref C) us) (L2N.MkP X pins σ Q) X.xe s1 := by
  obtain ⟨nm, qn, _, _, bm, _, _, _, _, _, _, _, _, _, _, inC, marks⟩ := T.cls
  obtain ⟨hp, gens, drawn, toks, os⟩ := s1
  have up := Nat.le_succ hp.objs.size
  have fresh : H1 (hp.objs.size + 1) = none := I1.hok.fresh up
  generalize hh : (hp.push (PySem.W.kdv_tup us)).push (PySem.HandSPX.excO C hp.objs.size) = hp3
  have keep : ∀ b o, hp.get? b = some o → hp3.get? b = some o := fun b o e => by
    rw [← hh]; exact Heap.get?_push_of_some _ (Heap.get?_push_of_some _ e)
  have there : hp3.get? (hp.objs.size + 1) = some (PySem.HandSPX.excO C hp.objs.size) := by rw [← hh]; heap_get
  have I2 : Inv X pins σ (upd H1 (hp.objs.size + 1) (exo (hp.objs.size + 1) C none)) ⟨hp3, gens, drawn, toks, os⟩ := I1.laid (t' := toks) keep up (exo_ok there)
  have run := q1 _ fresh
  rw [List.append_nil] at run
  have few' : us.length ≤ sizeLine := by rw [← Paired.length r1, sizeLine_eq]; omega
  subst hh
  refine wpAny_call (PySem.HandSPX.call_own F.excBase_ValueError (fun Y => PySem.HandSPX.refsVE_contains Y bm marks) (I1.kIn _ _ inC) (PySem.W.looks_findIn I1.kIn iC) (fun self => PySem.W.bind_fn I1.kIn self tI) few' (codeAny_mono (go _ _ _ _ I2 run) fun r s2 done => ?_))
  match r, done with
  | .error er, done => exact hx pins σ _ _ er s2 I2 done
  | .ok .next, done => exact done.elim
  | .ok .brk, done => exact done.elim
  | .ok .cont, done => exact done.elim
  | .ok (.ret u), ⟨v, H2, os2, bare2, un2, hok2, rv, ev, d, fs, ea, ed, nd, q2⟩ =>
    subst ev
    obtain ⟨h2, g2, d2, t2, o2⟩ := s2
    obtain ⟨t0, G, J, kG, gone, ob, na⟩ := mk_end0 (d2 := d2) (t2 := t2) I1 up keep un2 hok2 os2 bare2 ea ed nd
    refine ⟨rv, hp.objs.size + 1, _, _, ⟨G, g2, d2, t2, o2⟩, _, .ref C, some d, rfl, J, kG, gone, ob, ⟨rfl, rfl, fun ws hw => ?_⟩, rfl, rfl, na, rfl, bare2, raises_own T.exC T.tyC, q2⟩
    cases hw
    rfl
section
variable {X : Cx} {x : Str} {e : Expr} {es : List Expr} {ta : TA} {p pos : Pos} {C fI : Addr} {k : Nat} {fd : FuncData} {ps : List Str} {sp : Sp} {CX : CXT}
theorem pmk_oexN (T : OexC X.K C) (iC : PySem.W.findIn X.K (.ref C) "__init__" = some (some (.ref fI))) (tI : PySem.W.typeIn X.K (.ref fI) = some (.type "function")) (F1 : FnOk X.prog X.w X.K X.mg X.base CX k fI fd ps sp) (hr : Room (k + 1) X.A) (hb : Binds X.K fd ps [])
    (hx : Passes CX X fun _ _ _ => False) (hg : Gl X x) (hm : X.mg x = some (.ref C)) (ha : PA X (e :: es) ta) (hd : (x == ("__debug__" : Str)) = false := by decide) (he : starEach (e :: es) X.env = (false, eval e X.env) :: starEach es X.env := by rfl)
    (hpl : (backTo pos (starEach es X.env)).any (·.1) = false := by rfl) : L2N.PMk X (.Call (.Name x p) (e :: es) [] pos) (tMkO C sp [] ta) := by
  intro pins s σ H Q I h
  refine wpAny_Call_Name_kw (ld_glob I hg hm (PySem.W.callWith_K (h₀ := X.base) I.ok.mod.kin T.kC (thn (ha.run pos pins s σ H _ I h) fun us s1 ⟨vs, H1, I1, r1, few, q1⟩ => ⟨I1.kIn, ?_⟩) he hpl) hd)
  refine own_made T iC tI hx I1 r1 few q1 fun s2 H2 a R I2 h2 => ?_
  have rr : Vals (V.ref a :: vs) (Value.ref a :: us) := .cons rfl r1
  have b2 := hb _ (Value.ref a :: us) I2.kIn (by rw [List.append_nil, ← rr.length]; exact F1.len _ _ _ _ h2)
  rw [List.append_nil] at b2
  exact F1.run _ X.stack _ _ _ _ _ _ _ (hr.make C us []) (I2.env0.make C us []) b2 rr h2
/-- the same while an error is handled -/
theorem pmk_oexX (T : OexC X.K C) (iC : PySem.W.findIn X.K (.ref C) "__init__" = some (some (.ref fI))) (tI : PySem.W.typeIn X.K (.ref fI) = some (.type "function")) (F1 : L2H.FnH X.prog X.w X.K X.mg X.base CX k fI fd ps sp) (hr : L2H.RoomH (k + 1) X.A) (hot : L2H.HotC X) (hb : Binds X.K fd ps [])
    (hx : Passes CX X fun _ _ _ => False) (hg : Gl X x) (hm : X.mg x = some (.ref C)) (ha : PA X (e :: es) ta) (hd : (x == ("__debug__" : Str)) = false := by decide) (he : starEach (e :: es) X.env = (false, eval e X.env) :: starEach es X.env := by rfl)
    (hpl : (backTo pos (starEach es X.env)).any (·.1) = false := by rfl) : L2N.PMk X (.Call (.Name x p) (e :: es) [] pos) (tMkO C sp [] ta) := by
  intro pins s σ H Q I h
  refine wpAny_Call_Name_kw (ld_glob I hg hm (PySem.W.callWith_K (h₀ := X.base) I.ok.mod.kin T.kC (thn (ha.run pos pins s σ H _ I h) fun us s1 ⟨vs, H1, I1, r1, few, q1⟩ => ⟨I1.kIn, ?_⟩) he hpl) hd)
  refine own_made T iC tI hx I1 r1 few q1 fun s2 H2 a R I2 h2 => ?_
  have rr : Vals (V.ref a :: vs) (Value.ref a :: us) := .cons rfl r1
  have b2 := hb _ (Value.ref a :: us) I2.kIn (by rw [List.append_nil, ← rr.length]; exact F1.len _ _ _ _ h2)
  rw [List.append_nil] at b2
  obtain ⟨pn, hot1, mem⟩ := hot
  obtain ⟨c1, c2, c3, c4, c5⟩ := I2.pin pn (List.mem_append_left _ mem)
  exact F1.run _ X.stack _ _ _ _ _ _ _ pn ⟨by have := hr.dp; rw [make_depth]; omega, by have := hr.un; rw [make_units]; omega⟩ ⟨hot1.1, hot1.2⟩ ⟨c1, c2, fun hm => (List.mem_cons.mp (I2.stkSub pn.1 hm)).elim c3 c4, c5⟩ (I2.env0.make C us []) b2 rr h2
end
end L2
namespace DL
open PySem PySem.Spec L2
open PyProof.Rows hiding St
/-- where the program's own classes stand -/
class Cls where
  adr : Str → Addr
section
variable {K : PySem.W.Frag} {H : Hp} {xs : List (Str × V)} {ys : List (Str × DV)}
theorem FR.zip : ∀ {ks : List Str} {vs : List V} {ds : List DV}, VRs K H vs ds → FR K H (ks.zip vs) (ks.zip ds)
  | [], _, _, _ => by simp; exact .nil
  | k :: ks, _, _, .nil => .nil
  | k :: ks, _, _, .cons r t => .cons r (FR.zip t)
theorem FR.app : ∀ {xs zs : List (Str × V)} {ys us : List (Str × DV)}, FR K H xs ys → FR K H zs us → FR K H (xs ++ zs) (ys ++ us)
  | _, _, _, _, .nil, h => h
  | _, _, _, _, .cons r t, h => .cons r (t.app h)
theorem FR.rev : ∀ {xs : List (Str × V)} {ys : List (Str × DV)}, FR K H xs ys → FR K H xs.reverse ys.reverse
  | _, _, .nil => .nil
  | _, _, .cons r t => by
    rw [List.reverse_cons, List.reverse_cons]
    exact t.rev.app (.cons r .nil)
theorem FR.parts : ∀ {xs : List (Str × V)} {ys : List (Str × DV)}, FR K H xs ys → ∃ vs, xs = (ys.map Prod.fst).zip vs ∧ VRs K H vs (ys.map Prod.snd)
  | _, _, .nil => ⟨[], rfl, .nil⟩
  | _, _, .cons r t => by
    obtain ⟨vs, h1, h2⟩ := t.parts
    exact ⟨_ :: vs, by rw [h1]; rfl, .cons r h2⟩
end
/-- a class of errors: its fields, in the order in which __init__ lays them down -/
structure ErrAt (P : Program) (w : World) (K : PySem.W.Frag) (mg : Str → Option Value) (base : Heap) (x : Str) (C : Addr) (fs : List Str) : Prop where
  g : mg x = some (.ref C)
  oex : OexC K C
  ini : ∃ (fI : Addr) (fd : FuncData), PySem.W.findIn K (.ref C) "__init__" = some (some (.ref fI)) ∧ PySem.W.typeIn K (.ref fI) = some (.type "function") ∧ FnOk P w K mg base CX0 1 fI fd ("self" :: fs) (spInit C fs) ∧ Binds K fd ("self" :: fs) [] ∧ L2H.FnH P w K mg base CX0 1 fI fd ("self" :: fs) (spInit C fs)
def wRaise (C : Addr) (fs : List Str) (wr : DA) : DS := fun D env G => wr (fun C fs G' => D.ex C fs env G') env G fun ds G1 => ds.length = fs.length ∧ D.ex C (fs.zip ds).reverse env G1
section
variable {X : Cx} {W : WX} {e : Expr} {es : List Expr} {wr : DA} {x : Str} {C : Addr} {fs : List Str} {p pos pos' : Pos} {j : Nat}
theorem qs_raise (T : ErrAt X.prog X.w X.K X.mg X.base x C fs) (hc : X.calm = true) (hr : Room j X.A) (tk : Takes X W) (ha : QA X W (e :: es) wr) (hf : fs.length ≤ 900 := by decide) (hj : 2 ≤ j := by decide) (hg : Gl X x := by rfl) (hd : (x == ("__debug__" : Str)) = false := by decide)
    (he : starEach (e :: es) X.env = (false, eval e X.env) :: starEach es X.env := by rfl) (hpl : (backTo pos (starEach es X.env)).any (·.1) = false := by rfl) :
    QS X W (.Raise (some (.Call (.Name x p) (e :: es) [] pos)) none pos') (wRaise C fs wr) := by
  obtain ⟨fI, fd, iC, tI, F1, hb, _⟩ := T.ini
  refine ⟨PS.wk (L2N.ps_raise hc tk.n (pmk_oexN T.oex iC tI F1 (hr.mono hj) hb pass0 hg T.g ha.pa hd he hpl)) ?_⟩
  rintro D σ H ⟨env, G, De, er, wg, h, le⟩
  refine ⟨_, env, G, _, er, wg, h, fun ds G1 vs H1 h1 w1 x1 r1 => ?_, le.xle wg er⟩
  obtain ⟨hl, hx⟩ := h1
  have hl2 : vs.length = fs.length := by rw [r1.len, hl]
  refine ⟨by omega, fun a ha => ⟨a, vs, by rw [List.append_nil], hl2, upd_same, fun dx hd hne => ⟨rfl, dx, _, upd_same, by rw [upd_ne hne, upd_same], by rwa [upd_ne hne] at hd, ?_⟩⟩⟩
  have hd1 : H1 dx = none := by rwa [upd_ne hne] at hd
  have e : upd (del (upd (upd (upd H1 a (exo a C none)) dx (exd dx (fs.zip vs).reverse)) a (exo a C (some dx))) a) dx (.xd (fs.zip vs).reverse) = upd H1 dx (.xd (fs.zip vs).reverse) := by
    funext c
    by_cases h1 : c = dx
    · subst h1; rw [upd_same, upd_same]
    · rw [upd_ne h1, upd_ne h1]
      by_cases h2 : c = a
      · subst h2; rw [ha]; simp [del]
      · have : del (upd (upd (upd H1 a (exo a C none)) dx (exd dx (fs.zip vs).reverse)) a (exo a C (some dx))) a c = upd (upd (upd H1 a (exo a C none)) dx (exd dx (fs.zip vs).reverse)) a (exo a C (some dx)) c := by simp [del, h2]
        rw [this, upd_ne h2, upd_ne h1, upd_ne h2]
  rw [e]
  have x2 : Ext G1 H1 G1 (upd H1 dx (.xd (fs.zip vs).reverse)) := Ext.new hd1
  exact le.ex C _ env G1 σ (some dx) _ hx ⟨_, upd_same, ((FR.zip r1).rev).ext w1 x2⟩ (er.ext wg (x1.trans x2)) (w1.new hd1) (x1.trans x2)
end
/-- an error without an own __init__ -/
structure Err0At (K : PySem.W.Frag) (mg : Str → Option Value) (x : Str) (C : Addr) : Prop where
  g : mg x = some (.ref C)
  q : PySem.W.excIn K C [.type "ValueError", .type "Exception", .type "BaseException", .type "object"] "ValueError.__new__" = true
  k : PySem.W.keepIn K (.ref C) = true
  s : PySem.W.subIn K (.ref C) (.type "BaseException") = some true
  t : PySem.W.typeIn K (.ref C) = some (.type "type")
theorem exc_in {K : PySem.W.Frag} {C N : Addr} {nm q : Str} {bs sub : List Value} {hd ab : Bool} {sn : List Str} {col : Option Bool} {dd d0 : Option Addr} {m0 m1 m2 m3 m5 : Option Value} {c0 : Value} {es : Array DictEntry} {n : Nat} {sl : Array (Option Value)}
    (lk : K.lookup C = some (excClassObj nm q C N bs [.type "ValueError", .type "Exception", .type "BaseException", .type "object"] hd sn sub ab col dd m0 m1 m2 m3 m5 "ValueError.__new__")) (ln : K.lookup N = some ⟨c0, d0, .dict es n, sl⟩)
    (no : (es.all fun e => match e.key with | .str _ _ => true | _ => false) = true) (ni : PySem.W.nsIn K N "__init__" = some none) :
    PySem.W.excIn K C [.type "ValueError", .type "Exception", .type "BaseException", .type "object"] "ValueError.__new__" = true := by
  have e1 : PySem.W.nsOkIn K N = true := by unfold PySem.W.nsOkIn; rw [ln]; exact no
  unfold PySem.W.excIn
  rw [lk]
  simp [excClassObj, e1, ni, PySem.W.tailIn]
def wRaise0 (C : Addr) : DS := fun D env G => D.ex C [] env G
section
variable {X : Cx} {W : WX} {m x : Str} {C : Addr} {p p2 pos pos' : Pos} {j : Nat}
theorem qs_raise0 (T : Err0At X.K X.mg x C) (hc : X.calm = true) (tk : Takes X W) (hg : Gl X x := by rfl) (hd : (x == ("__debug__" : Str)) = false := by decide) :
    QS X W (.Raise (some (.Call (.Name x p) [.Constant (.str m) j p2] [] pos)) none pos') (wRaise0 C) := by
  refine ⟨PS.wk (L2N.ps_raise hc tk.n (L2N.pmk_own PySem.F.excBase_ValueError T.q T.g T.k (raises_own T.s T.t) hg hd)) ?_⟩
  rintro D σ H ⟨env, G, De, er, wg, h, le⟩
  exact le.ex C [] env G σ none H h rfl er wg Ext.refl
end
end DL

namespace L2
open PySem PySem.Spec
open PyProof.Rows hiding St
/-! ### an error, caught, is tracked from then on -/
theorem Inv.track {X : Cx} {pins : List (Addr × Obj)} {σ : St} {H : Hp} {s : Shared} {a : Addr} {u : HO} (I : Inv X pins σ H s) (un : H a = none) (old : X.s_0.heap.get? a = none) (lo : a ≠ X.env.locals) (ce : ∀ x c, X.env.cells.lookup x = some c → c ≠ a) (pi : ∀ p ∈ X.pn ++ pins, p.1 ≠ a)
    (good : ObjOk X.prog X.w (upd H a u) s.heap a u) : Inv X pins σ (upd H a u) s := by
  have off : ∀ b w, H b = some w → b ≠ a := fun b w e => ne_of_none e un
  have up : ∀ b w, H b = some w → upd H a u b = some w := fun b w e => (upd_ne (off b w e)).trans e
  have non : ∀ b, b ≠ a → H b = none → upd H a u b = none := fun b n e => (upd_ne n).trans e
  obtain ⟨b1, b2, b3, b4, b5, b6, b7⟩ := I.base
  refine ⟨I.ok, I.os, I.bare, ⟨b1, b2, fun b ob e n hx => non b (fun z => by rw [z, old] at e; cases e) (b3 b ob e n hx), b4, fun b xs e => up _ _ (b5 b xs e), fun b ob w e => up _ _ (b6 b ob w e), fun b ps e => ?_⟩, I.loc, I.cell, non _ lo.symm I.free, fun x c e => non _ (ce x c e) (I.freeC x c e), fun p hp => ?_, fun b w e => ?_, I.len⟩
  · obtain ⟨m, e2⟩ := b7 b ps e
    exact ⟨m, up _ _ e2⟩
  · obtain ⟨p1, p2, p3⟩ := I.pin p hp
    exact ⟨p1, non _ (pi p hp) p2, p3⟩
  · by_cases hb : b = a
    · rw [hb, upd_same] at e
      rw [hb]
      exact Option.some.inj e ▸ good
    · rw [upd_ne hb] at e
      exact (I.hok b w e).stay (fun _ _ _ q => q) (fun c q => up _ _ q) fun c xs q => up _ _ q
theorem excO_ok {P : Program} {w : World} {H : Hp} {h : Heap} {a C : Addr} {d : Option Addr} {ob : Obj} {vs : Array Value} (e : h.get? a = some ob) (z : Zc (.ref C) d ob) (f : ob.data = .fields vs) : ObjOk P w H h a (excO a C d) :=
  ⟨⟨ob, e, z, vs, f⟩, ⟨ob, e⟩, fun _ _ ⟨ob', e', r⟩ k => ⟨ob', k ob' e', r⟩⟩
section
variable {X : Cx} {pins : List (Addr × Obj)} {σ : St} {H : Hp} {s : Shared}
theorem Inv.into (I : Inv X pins σ H s) (a : Addr) : Inv (X.suite a (X.pn ++ pins)) [] σ H s := by
  obtain ⟨i1, i2, i3, i4, i5, i6, i7, i8, i9, i10, i11⟩ := I
  exact ⟨i1.suite _ _, i2, i3, i4, i5, i6, i7, i8, (fun p hp => i9 p (by simpa using hp)), i10, i11⟩
theorem Inv.outOf {a : Addr} {pn' : List (Addr × Obj)} (I : Inv (X.suite a (X.pn ++ pins)) pn' σ H s) (ok : X.Ok) : Inv X pins σ H s := by
  obtain ⟨i1, i2, i3, i4, i5, i6, i7, i8, i9, i10, i11⟩ := I
  exact ⟨ok, i2, i3, i4, i5, i6, i7, i8, (fun p hp => i9 p (List.mem_append_left pn' hp)), i10, i11⟩
end
/-- what the clause wishes of an exception of the body -/
def wCatch (K : PySem.W.Frag) (c : Value) (i : Nat) (ts : Addr → Addr → Option Addr → TS) (Wo : WX) (D : Ends) : WX := fun cls d σ H =>
  ∃ b, PySem.W.exmOne K cls c = some b ∧ (b = true → ∃ C, cls = .ref C ∧ ∀ a, H a = none →
      ts a C d { nx := fun st hp => D.nx (st.set i none) hp, bk := fun st hp => D.bk (st.set i none) hp, ct := fun st hp => D.ct (st.set i none) hp, rt := D.rt } (σ.set i (some (.ref a))) (upd H a (excO a C d))) ∧
    (b = false → Wo cls d σ H)
section
variable {X : Cx} {x n : Str} {c : Value} {i : Nat} {body more : List Stmt} {first : Stmt} {p1 p2 p3 : Pos} {tb : WX → TS} {ts : Addr → Addr → Option Addr → TS} {Wo : WX}
/-- an error in the air of X, of which Z is known -/
def XZ (Z : Value → Option Addr → Obj → Prop) (X : Cx) (W : WX) (u : Value) (t : Shared) : Prop :=
  ∃ (a : Addr) (B : Heap) (sI : Shared) (pins : List (Addr × Obj)) (σ : St) (H : Hp) (cls : Value) (d : Option Addr),
    u = .ref a ∧ Inv X pins σ H sI ∧ (∀ b o, sI.heap.get? b = some o → b ∉ frs X.stack → B.get? b = some o) ∧ sI.heap.UpToSlots t.heap ∧ Sky B X.stack a (Z cls d) X.env.locals t.heap ∧ H a = none ∧ t.os = sI.os ∧ AllBare t.gens ∧ W cls d σ H
theorem zc_steady1 {cls : Value} {d : Option Addr} : PXN.Steady1 (Zc cls d) := fun o v h => Zc.steady o _ h
theorem catchK {Z : Value → Option Addr → Obj → Prop} (hZ : ∀ cls d, PXN.Steady1 (Z cls d)) (zc : ∀ cls d o, Z cls d o → Zc cls d o) {pins : List (Addr × Obj)} {D : Ends} {xe : Value → Shared → Prop} {e : Value} {u : Shared}
    (hst : X.stack = X.env :: X.outer) (hfm : X.env.frame = some X.env.locals) (hex : X.ex = []) (nd : X.N.Nodup) (ix : X.N[i]? = some n) (lc : X.env.kindOf n = some .local) (nm : Names X x c) (tk : ∀ y t, XZ Z X Wo y t → X.xe y t)
    (hsuite : ∀ (a C : Addr) (dx : Option Addr) (pn : List (Addr × Obj)), PSs (X.suite a pn) (first :: more) (ts a C dx)) (allOk : X.Ok) (caught : XZ Z (X.tr (X.pn ++ pins) xe) (wCatch X.K c i ts Wo D) e u) :
    wpAny (model X.prog X.w) X.A (noteFrame e X.env) (fun _ u2 => wpAny (model X.prog X.w) X.A (setFlight e none) (fun _ u3 =>
      wpAny (model X.prog X.w) X.A (handleBy e X.env [.ExceptHandler (some (.Name x p1)) (some n) (first :: more) p2]) (SP X pins D) X.xe u3) X.xe u2) X.xe u := by
  obtain ⟨a, B, gr, pn1, st1, H1, cls, d, rfl, J0, below, slots, sky, un, os, bare, b, tested, yes, no⟩ := caught
  have J : Inv X pins st1 H1 gr := J0.ofTry allOk
  have frm : X.A.frames = some (X.env :: X.outer) := hst ▸ allOk.frames
  have sky : Sky B (X.env :: X.outer) a (Z cls d) X.env.locals u.heap := by have z := sky; rwa [show (X.tr (X.pn ++ pins) _).stack = X.env :: X.outer from hst] at z
  show wpAny (model X.prog X.w) X.A (noteFrame (.ref a) X.env) _ _ _
  refine L2N.Sky.land (hZ cls d) frm hfm sky fun hq fly slots2 => ?_
  have K3 : Inv X pins st1 H1 { u with heap := hq } := J.landed below fly.1 (slots.trans slots2) os bare
  obtain ⟨ob, vs, obAt, obZ, obF⟩ := fly.there
  have inB : B.get? a = none := fly.2.1
  have noFrame : a ∉ frs (X.env :: X.outer) := fun hm => by
    obtain ⟨_, ob', e', nf⟩ := fly.2.2.1.mem hm
    have e2 := obAt.symm.trans e'
    cases e2
    exact nf _ obF
  have noLoc : a ≠ X.env.locals := fun z => noFrame (List.mem_filterMap.mpr ⟨X.env, List.mem_cons_self, by rw [hfm, z]⟩)
  have noOut : ∀ b, b ≠ X.env.locals → b ∉ X.fs → b ∉ frs X.stack := fun b h1 h2 hm => by
    rw [hst] at hm
    obtain ⟨en, hen, q⟩ := List.mem_filterMap.mp hm
    rcases List.mem_cons.mp hen with z | z
    · rw [z, hfm] at q; exact h1 (Option.some.inj q).symm
    · exact h2 (List.mem_filterMap.mpr ⟨en, z, q⟩)
  have pinFar : ∀ p ∈ X.pn ++ pins, p.1 ≠ a := fun p hp z => by
    obtain ⟨q1, _, q3, q4, _⟩ := J.pin p hp
    have := below p.1 _ q1 (noOut _ q3 q4)
    rw [z, inB] at this; cases this
  have young : X.s_0.heap.get? a = none := by
    cases e : X.s_0.heap.get? a with
    | none => rfl
    | some o0 =>
      obtain ⟨o1, e1⟩ := J.base.there a o0 e (by rw [hex]; simp)
      have := below a o1 e1 (by rw [hst]; exact noFrame)
      rw [inB] at this; cases this
  have onTrack : ∀ {h9 : Heap} {C : Addr}, cls = .ref C → Inv X pins st1 H1 { u with heap := h9 } → (∃ o9 v9, h9.get? a = some o9 ∧ Zc cls d o9 ∧ o9.data = .fields v9) → Inv X pins st1 (upd H1 a (excO a C d)) { u with heap := h9 } := by
    rintro h9 C rfl K9 ⟨o9, v9, e9, z9, f9⟩
    refine K9.track un young noLoc (fun y cc ey z => ?_) pinFar (excO_ok e9 z9 f9)
    obtain ⟨w9, oc, ec, dc⟩ := K9.cell y cc ey
    rw [z] at ec
    have e2 := e9.symm.trans ec
    cases e2
    rw [f9] at dc; cases dc
  have notOut : a ∉ X.fs := fun hm => by
    obtain ⟨en, hen, q⟩ := List.mem_filterMap.mp hm
    exact noFrame (List.mem_filterMap.mpr ⟨en, List.mem_cons_of_mem _ hen, q⟩)
  have look := K3.suite obAt obF un noLoc notOut
  refine wpAny_handleBy_cons (codeAny_handlers_test ?_) (by intro q; cases q)
  have ty : PySem.W.Looks (model X.prog X.w) hq (typeOf (.ref a)) cls := fun A Q E z k q => wpAny_typeOf_ref (k _ _ obAt) ((zc _ _ _ obZ).1.symm ▸ q)
  have asked := PySem.W.exm_one (M := model X.prog X.w) K3.kIn ty tested
  have named : ∀ {Q : Value → Shared → Prop} {E : Value → Shared → Prop}, Q c { u with heap := hq } → wpAny (model X.prog X.w) (X.A.mark (some (.ref a))) (eval (.Name x p1) X.env) Q E { u with heap := hq } := fun {Q E} q => by
    obtain ⟨n1, n2, n3 | ⟨n3, n4, n5⟩⟩ := nm
    · exact ld_glob (X := X.suite a ((a, ob) :: (X.pn ++ pins))) look n1 n3 q n2
    · exact ld_blt (X := X.suite a ((a, ob) :: (X.pn ++ pins))) look n1 n3 n4 q n5 n2
  refine named (asked.here ?_)
  cases b with
  | false =>
    show wpAny _ X.A (handleBy (.ref a) X.env []) _ _ _
    refine wpAny_handleBy_nil ?_
    obtain ⟨_, _, _, o9, v9, T9, _, _, at9, _, fl9, tb9, _⟩ := id fly
    have gone : wpAny (model X.prog X.w) X.A (setFlight (.ref a) X.env.frame) (fun _ u4 => wpAny (model X.prog X.w) X.A (throw (.ref a) : Sem Flow) (SP X pins D) X.xe u4) X.xe { u with heap := hq } := by
      rw [hfm]
      exact HandSPX.setFlight_upZ fly fun h9 held slots9 => wpAny_throw (tk _ _ ⟨a, B, gr, pins, st1, H1, cls, d, rfl, J, below, (slots.trans slots2).trans slots9, .inr (.inr (by rw [hst]; exact held)), un, os, bare, no rfl⟩)
    unfold PySem.passOn
    refine wpAny_bind (wpAny_field at9 fl9 tb9 ?_)
    rw [if_neg (by simp)]
    first
      | exact wpAny_bind (wpAny_pure (wpAny_bind gone))
      | exact wpAny_bind gone
  | true =>
    obtain ⟨C, hC, run⟩ := yes rfl
    refine codeAny_handlers_suite_as (HandSPX.lands_againZ fly fun h9 fly9 slots9 => ?_)
    have K9 : Inv X pins st1 H1 { u with heap := h9 } := J.landed below fly9.1 ((slots.trans slots2).trans slots9) os bare
    have T9 := (onTrack hC K9 (by obtain ⟨o9, v9, e9, z9, f9⟩ := fly9.there; exact ⟨o9, v9, e9, (zc _ _ _ z9), f9⟩)).into a
    refine store_ok (X := X.suite a (X.pn ++ pins)) (v := .ref a) T9 nd ix (.inl lc) rfl (fun u5 T5 => ?_) (.inr lc)
    refine wpAny_mono ((hsuite a C d (X.pn ++ pins)).run [] u5 _ _ _ T5 (run a un)) (fun fl u6 ends => ?_) fun _ _ z => z.elim
    have leave : ∀ {st6 : St} {H6 : Hp} {Q : Shared → Prop}, Inv (X.suite a (X.pn ++ pins)) [] st6 H6 u6 → (∀ u7, Inv X pins (st6.set i none) H6 u7 → Q u7) →
        wpAny (model X.prog X.w) X.A (do bindName X.env n .none; unbindBehindTheSuite X.env n p2) (fun _ u7 => Q u7) X.xe u6 := fun T6 hq => gone_ok (T6.outOf allOk) nd ix lc hq
    cases fl with
    | ret r =>
      obtain ⟨v6, st6, H6, T6, r6, q6⟩ := ends
      exact leave T6 fun u7 K7 => ⟨_, _, _, K7, r6, q6⟩
    | next =>
      obtain ⟨st6, H6, T6, q6⟩ := ends
      exact leave T6 fun u7 K7 => ⟨_, _, K7, q6⟩
    | brk =>
      obtain ⟨st6, H6, T6, q6⟩ := ends
      exact leave T6 fun u7 K7 => ⟨_, _, K7, q6⟩
    | cont =>
      obtain ⟨st6, H6, T6, q6⟩ := ends
      exact leave T6 fun u7 K7 => ⟨_, _, K7, q6⟩
theorem ps_tryK (hst : X.stack = X.env :: X.outer) (hfm : X.env.frame = some X.env.locals) (hex : X.ex = []) (nd : X.N.Nodup) (ix : X.N[i]? = some n) (lc : X.env.kindOf n = some .local) (nm : Names X x c) (tk : DL.Takes X Wo)
    (hbody : ∀ (W : WX) (pn : List (Addr × Obj)) (xe : Value → Shared → Prop), DL.Takes (X.tr pn xe) W → PassesOwn (model X.prog X.w) X.A X.env xe → PSs (X.tr pn xe) body (tb W))
    (hsuite : ∀ (a C : Addr) (dx : Option Addr) (pn : List (Addr × Obj)), PSs (X.suite a pn) (first :: more) (ts a C dx)) :
    PS X (.Try body [.ExceptHandler (some (.Name x p1)) (some n) (first :: more) p2] [] [] p3) (fun D σ H => tb (wCatch X.K c i ts Wo D) D σ H) := by
  refine ⟨fun pins s σ H D I h => ?_⟩
  have allOk := I.ok
  refine wpAny_Try_except (wpAny_mono ((hbody (wCatch X.K c i ts Wo D) (X.pn ++ pins) (fun e u => wpAny (model X.prog X.w) X.A (noteFrame e X.env) (fun _ u2 => wpAny (model X.prog X.w) X.A (setFlight e none) (fun _ u3 =>
    wpAny (model X.prog X.w) X.A (handleBy e X.env [.ExceptHandler (some (.Name x p1)) (some n) (first :: more) p2]) (SP X pins D) X.xe u3) X.xe u2) X.xe u) ⟨fun e u caught => ?_, fun e u caught => ?_⟩ PassesOwn.looking).run [] s σ H D (I.toTry _) h) (fun fl u ends => ?_) fun _ _ q => q)
  · exact catchK (Z := L2N.Zn) (fun _ _ => L2N.Zn.steady) (fun _ _ _ z => z.zc) hst hfm hex nd ix lc nm tk.n hsuite allOk caught
  · obtain ⟨a, B, sI, pn1, st1, H1, cls, d, h1, h2, h3, h4, h5, h6, h7, h8, lo, b, tested, yes, no⟩ := caught
    exact catchK (Z := Zc) (Wo := DL.loosely X.mg Wo) (fun _ _ => zc_steady1) (fun _ _ _ z => z) hst hfm hex nd ix lc nm tk.c hsuite allOk ⟨a, B, sI, pn1, st1, H1, cls, d, h1, h2, h3, h4, h5, h6, h7, h8, b, tested, yes, fun z => ⟨lo, no z⟩⟩
  · cases fl with
    | ret r =>
      obtain ⟨v6, st6, H6, T6, r6, q6⟩ := ends
      exact ⟨v6, st6, H6, T6.ofTry allOk, r6, q6⟩
    | next =>
      obtain ⟨st6, H6, T6, q6⟩ := ends
      exact wpAny_execs_nil ⟨st6, H6, T6.ofTry allOk, q6⟩
    | brk =>
      obtain ⟨st6, H6, T6, q6⟩ := ends
      exact ⟨st6, H6, T6.ofTry allOk, q6⟩
    | cont =>
      obtain ⟨st6, H6, T6, q6⟩ := ends
      exact ⟨st6, H6, T6.ofTry allOk, q6⟩
end
end L2
namespace L2
open PySem PySem.Spec
open PyProof.Rows hiding St
/-- x.f, x a tracked error -/
def tXfK (K : PySem.W.Frag) (f : Str) (te : TE) : TE := fun σ H Q => te σ H fun x H1 => ∃ (a C dx : Addr) (fs : List (Str × V)) (v : V), x = .ref a ∧ H1 a = some (excO a C (some dx)) ∧ (XfC K C ∧ PySem.W.findIn K (.ref C) f = some none) ∧ H1 dx = some (.xd fs) ∧ fs.lookup f = some v ∧ Q v H1
theorem pe_xfK {X : Cx} {e : Expr} {te : TE} {pos : Pos} {n : Str} (he : PE X e te) (hb : attributeBase e n X.env (eval e X.env) = eval e X.env := by rfl) : PE X (.Attribute e n pos) (tXfK X.K n te) := by
  refine ⟨fun pins s σ H Q I h => attr_of hb (thn (he.run pins s σ H _ I h) fun u s1 hh => ?_)⟩
  obtain ⟨x, H1, I1, rx, a, C, dx, fs, v, rfl, ea, ⟨T, own⟩, ed, l, q⟩ := hh
  cases rx
  obtain ⟨⟨ob, e1, z, vs, f⟩, _⟩ := (show ObjOk X.prog X.w H1 s1.heap a (excO a C (some dx)) from I1.hok a _ ea)
  obtain ⟨mA, ns, look⟩ := (show ObjOk X.prog X.w H1 s1.heap dx (.xd fs) from I1.hok dx _ ed)
  obtain ⟨od, at_, has⟩ := lookIn_ns ns
  obtain ⟨w, hw, rw'⟩ := RelO.some_of (v := v) (o := mA n) (l ▸ look n)
  have J : PySem.W.InstAt s1.heap a ob C (some od) := ⟨e1, z.1, by unfold PySem.W.notCls; rw [f] <;> rfl, by rw [z.2]; exact at_⟩
  refine HandSPX.exc_get I1.kIn J T.ga T.gg T.exC (PySem.W.findObj_own T.hdC own rfl ?_) (handed_of rw') ⟨v, H1, I1.tok _, rw', q⟩
  rw [has, hw]
end L2
namespace DL
open PySem PySem.Spec L2
open PyProof.Rows hiding St
/-! ### try: .. except C as n: .. -/
def tryEx (i : Nat) (tab : Addr → Bool → Prop) (ws : DS) (De : DEnds) : Addr → List (Str × DV) → Dv → Gh → Prop := fun C fs env' G' => ∃ b, tab C b ∧
  (b = true → ∀ a d : Addr, ws { nx := fun e g => De.nx (e.set i none) g, rt := De.rt, bk := fun e g => De.bk (e.set i none) g, ct := fun e g => De.ct (e.set i none) g } (env'.set i (some (.exc a d C (fs.map Prod.fst) (fs.map Prod.snd)))) G') ∧
  (b = false → De.ex C fs env' G')
def wTryAs (i : Nat) (tab : Addr → Bool → Prop) (wb : DS) (ws : DS) : DS := fun De env G => wb { De with ex := tryEx i tab ws De } env G
section
variable {X : Cx} {W : WX} {x n : Str} {c : Value} {i : Nat} {body suite : List Stmt} {b₀ : Stmt} {np pos pos' : Pos} {wb ws : DS} {tab : Addr → Bool → Prop}
theorem qs_tryAs (i : Nat) (hs : X.stack = X.env :: X.outer) (hf : X.env.frame = some X.env.locals) (hx : X.ex = []) (hN : X.N.Nodup) (hi : X.N[i]? = some n) (hln : X.env.kindOf n = some .local) (hc : Names X x c) (hT : ∀ C b, tab C b → PySem.W.exmOne X.K (.ref C) c = some b) (tk : Takes X W)
    (hb : ∀ (W : WX) (pn : List (Addr × Obj)) (xe : Value → Shared → Prop), Takes (X.tr pn xe) W → PassesOwn (model X.prog X.w) X.A X.env xe → QSs (X.tr pn xe) W body wb)
    (hsu : ∀ (a : Addr) (pn : List (Addr × Obj)), QSs (X.suite a pn) W0 (b₀ :: suite) ws) :
    QS X W (.Try body [.ExceptHandler (some (.Name x np)) (some n) (b₀ :: suite) pos'] [] [] pos) (wTryAs i tab wb ws) := by
  refine ⟨PS.wk (ps_tryK (tb := fun W => TSl X.K W wb) (ts := fun _ _ _ => TSl X.K W0 ws) hs hf hx hN hi hln hc tk (fun W pn xe t p => (hb W pn xe t p).pss) (fun a _ _ pn => (hsu a pn).pss)) ?_⟩
  rintro D σ H ⟨env, G, De, er, wg, h, le⟩
  refine ⟨env, G, _, er, wg, h, le.nx, le.bk, le.ct, le.rt, ?_⟩
  intro C fs env' G' σ' d H' hx e er' wg' x'
  obtain ⟨b, hb, h1, h2⟩ := hx
  refine ⟨b, hT C b hb, fun hbt => ⟨C, rfl, fun a ha => ?_⟩, fun hbf => le.ex C fs env' G' σ' d H' (h2 hbf) e er' wg' x'⟩
  have x2 : Ext G' H' G' (upd H' a (excO a C d)) := Ext.new ha
  obtain ⟨dd, rv⟩ : ∃ dd : Addr, VR X.K (upd H' a (excO a C d)) (.ref a) (.exc a dd C (fs.map Prod.fst) (fs.map Prod.snd)) := by
    cases d with
    | none =>
      have e : fs = [] := e
      subst e
      exact ⟨a, .exn upd_same⟩
    | some d =>
      obtain ⟨xs, e, f⟩ := e
      obtain ⟨vs, hxs, rvs⟩ := f.parts
      exact ⟨d, .exc upd_same (by rw [upd_ne (ne_of_none e ha), ← hxs]; exact e) (rvs.ext wg' x2)⟩
  refine ⟨_, G', _, (er'.ext wg' x2).set rv i, wg'.new ha, h1 hbt a dd, ?_⟩
  have x3 := x'.trans x2
  refine ⟨fun e2 g2 σ2 H2 p er2 wg2 x4 => ?_, fun e2 g2 σ2 H2 p er2 wg2 x4 => ?_, fun e2 g2 σ2 H2 p er2 wg2 x4 => ?_, fun d2 g2 v2 H2 p r2 wg2 x4 => ?_, fun _ _ _ _ _ _ _ z => z.elim⟩
  · exact le.nx _ _ _ _ p (er2.setNone i none) wg2 (x3.trans x4)
  · exact le.bk _ _ _ _ p (er2.setNone i none) wg2 (x3.trans x4)
  · exact le.ct _ _ _ _ p (er2.setNone i none) wg2 (x3.trans x4)
  · exact le.rt _ _ _ _ p r2 wg2 (x3.trans x4)
end
/-! ### what is asked of an error -/
section
variable {X : Cx} {W : WX} {e : Expr} {we : DE} {pos p px : Pos} {n : Str}
/-- e.n -/
def xfK (tab : Addr → Prop) (n : Str) (Q : DV → Gh → Prop) (x : DV) (G1 : Gh) : Prop := match x with
  | .exc _ _ C ks ds => tab C ∧ ∃ v, (ks.zip ds).lookup n = some v ∧ Q v G1
  | _ => False
def wXf (tab : Addr → Prop) (n : Str) (we : DE) : DE := fun Y env G Q => we Y env G (xfK tab n Q)
theorem FR.look {K : PySem.W.Frag} {H : Hp} {n : Str} : ∀ {xs : List (Str × V)} {ys : List (Str × DV)} {v : DV}, FR K H xs ys → ys.lookup n = some v → ∃ u, xs.lookup n = some u ∧ VR K H u v
  | _, _, _, .nil, h => by cases h
  | _, _, _, .cons (k := k) r t, h => by
    rw [List.lookup_cons] at h ⊢
    cases hk : n == k
    · rw [hk] at h; exact t.look h
    · rw [hk] at h; cases h; exact ⟨_, rfl, r⟩
theorem q_xf {tab : Addr → Prop} (hT : ∀ C, tab C → XfC X.K C ∧ PySem.W.findIn X.K (.ref C) n = some none) (he : QE X W e we)
    (hat : attributeBase e n X.env (eval e X.env) = eval e X.env := by rfl) : QE X W (.Attribute e n pos) (wXf tab n we) := by
  refine ⟨PE.wk (pe_xfK he.pe hat) ?_⟩
  rintro σ H Q ⟨Y, env, G, P, er, wg, h, k, kx⟩
  refine ⟨Y, env, G, _, er, wg, h, fun x G1 v H1 h1 w1 x1 r1 => ?_, kx⟩
  cases x <;> first | exact h1.elim | skip
  obtain ⟨ht, v', hv, q⟩ := h1
  cases r1 with
  | exc ho hx rs =>
    obtain ⟨u, hu, ru⟩ := (FR.zip rs).look hv
    exact ⟨_, _, _, _, u, rfl, ho, hT _ ht, hx, hu, k _ _ _ _ q w1 x1 ru⟩
  | exn ho => cases hv
/-- isinstance(e, C), isinstance(e, (C, ..)) -/
def dIsE (tab : Addr → DV → Bool → Prop) : DC := fun ds G Q => match ds with
  | [.exc _ _ C _ _, c] => ∃ b, tab C c b ∧ Q (.bl b) G
  | _ => False
/-- what the second argument means -/
inductive ClsD (K : PySem.W.Frag) : DV → Value → Prop
  | own (u : Addr) : ClsD K (.ref u) (.ref u)
  | ty (n : String) : ClsD K (.ty n) (.type n)
inductive IsTab (K : PySem.W.Frag) (C : Addr) : DV → Bool → Prop
  | one {c : DV} {u : Value} {b : Bool} : ClsD K c u → PySem.W.kitOne K (.ref C) u = some b → IsTab K C c b
  | tup {cs : List DV} {us : List Value} {b : Bool} : Paired (ClsD K) cs us → PySem.W.kitAny K (.ref C) us = some b → IsTab K C (.tup cs) b
theorem vals_cls {K : PySem.W.Frag} {H : Hp} : ∀ {cs : List DV} {us : List Value} {xs : List V} {its : List Value}, Paired (ClsD K) cs us → VRs K H xs cs → Vals xs its → its = us
  | _, _, _, _, .nil, .nil, .nil => rfl
  | _, _, _, _, .cons (.own u) p, .cons (.ref _) r, .cons rv v => by rw [vals_cls p r v]; cases rv; rfl
  | _, _, _, _, .cons (.ty n) p, .cons (.ty _) r, .cons rv v => by rw [vals_cls p r v]; cases rv; rfl
theorem c_isE {tab : Addr → DV → Bool → Prop} (hT : ∀ C c b, tab C c b → ExcC X.K C ∧ IsTab X.K C c b) : CallD X (.builtin "isinstance") (dIsE tab) := by
  rintro pins s σ H xs us Q I rs ⟨ds, G, P, vs, wg, h, k⟩
  match ds, vs, h, rs with
  | [.exc a d C ks l, c], .cons r0 (.cons rc .nil), ⟨b, hb, q⟩, .cons ra (.cons rv .nil) =>
   cases r0 with
   | exc ho hx r =>
    cases ra
    obtain ⟨EC, tb⟩ := hT C c b hb
    obtain ⟨⟨oe, p1, ⟨z1, z2⟩, fv, hf⟩, _⟩ := (show ObjOk X.prog X.w H s.heap a (excO a C d) from I.hok a _ ho)
    obtain ⟨mA, hns, _⟩ := (show ObjOk X.prog X.w H s.heap d (.xd (ks.zip _)) from I.hok d _ hx)
    obtain ⟨od, es, ep, hod, _⟩ := hns
    have KX := PySem.W.handS_kitx_excX (x := a) (ox := oe) (od := od) EC.hg EC.hk EC.hs EC.hd EC.ha EC.hn EC.ht EC.hm
    have IA : PySem.W.InstAt s.heap a oe C (some od) := ⟨p1, z1, by unfold PySem.W.notCls; rw [hf], by rw [z2]; exact hod⟩
    have fin : ∀ tk : Nat, EP X pins σ Q (.bool b) { s with toks := tk } := fun tk => ⟨.bl b, H, I.tok tk, rfl, k _ _ _ _ q wg Ext.refl (.bl b)⟩
    cases tb with
    | one hc hk =>
      cases hc with
      | own u =>
        cases rc
        cases rv
        exact PySem.W.kia_one KX I.kIn IA hk (fun h => nomatch h) fin
      | ty n =>
        cases rc
        cases rv
        exact PySem.W.kia_one KX I.kIn IA hk (fun h => nomatch h) fin
    | tup hc hk =>
      cases rc with
      | tup sq rr =>
        cases rv
        obtain ⟨its, rvs, hT, _⟩ := I.tuple (SqT.of sq)
        obtain ⟨o, e, e1, n, e2⟩ := hT
        obtain ⟨oc, od', dat, sl⟩ := o
        have e1 : oc = _ := e1
        have e2 : dat = _ := e2
        subst e1 e2
        have hi := vals_cls hc rr rvs
        subst hi
        exact PySem.W.kia_tup KX I.kIn IA e hk (fun h => nomatch h) fin
   | exn ho =>
    cases ra
    obtain ⟨EC, tb⟩ := hT C c b hb
    obtain ⟨⟨oe, p1, ⟨z1, z2⟩, fv, hf⟩, _⟩ := (show ObjOk X.prog X.w H s.heap a (excO a C none) from I.hok a _ ho)
    have KX := PySem.W.handS_kitx_exc (x := a) (ox := oe) EC.hg EC.hk EC.hs EC.hd EC.ha EC.hn EC.ht EC.hm
    have IA : PySem.W.InstAt s.heap a oe C none := ⟨p1, z1, by unfold PySem.W.notCls; rw [hf], by rw [z2]; trivial⟩
    have fin : ∀ tk : Nat, EP X pins σ Q (.bool b) { s with toks := tk } := fun tk => ⟨.bl b, H, I.tok tk, rfl, k _ _ _ _ q wg Ext.refl (.bl b)⟩
    cases tb with
    | one hc hk =>
      cases hc with
      | own u =>
        cases rc
        cases rv
        exact PySem.W.kia_one KX I.kIn IA hk (fun h => nomatch h) fin
      | ty n =>
        cases rc
        cases rv
        exact PySem.W.kia_one KX I.kIn IA hk (fun h => nomatch h) fin
    | tup hc hk =>
      cases rc with
      | tup sq rr =>
        cases rv
        obtain ⟨its, rvs, hT, _⟩ := I.tuple (SqT.of sq)
        obtain ⟨o, e, e1, n, e2⟩ := hT
        obtain ⟨oc, od', dat, sl⟩ := o
        have e1 : oc = _ := e1
        have e2 : dat = _ := e2
        subst e1 e2
        have hi := vals_cls hc rr rvs
        subst hi
        exact PySem.W.kia_tup KX I.kIn IA e hk (fun h => nomatch h) fin
end
/-! ### the program's own errors, as the texts of the laws name them -/
section
variable [Cls]
/-- all are classes over DropError, over ValueError -/
def subB (x t : Str) : Bool := x == t || t == "DropError" || t == "ValueError"
def clsU (t : Str) : Value := if t = "ValueError" then .type "ValueError" else .ref (Cls.adr t)
def clsV (t : Str) : DV := if t = "ValueError" then .ty "ValueError" else .ref (Cls.adr t)
abbrev ERow := Str × List Str
structure Errs (P : Program) (w : World) (K : PySem.W.Frag) (mg : Str → Option Value) (base : Heap) (rows : List ERow) (T : List Str) : Prop where
  err : ∀ r ∈ rows, r.2 ≠ [] → ErrAt P w K mg base r.1 (Cls.adr r.1) r.2
  err0 : ∀ r ∈ rows, r.2 = [] → Err0At K mg r.1 (Cls.adr r.1)
  exc : ∀ r ∈ rows, ExcC K (Cls.adr r.1) ∧ XfC K (Cls.adr r.1)
  fld : ∀ r ∈ rows, ∀ f ∈ r.2, PySem.W.findIn K (.ref (Cls.adr r.1)) f = some none
  one : ∀ r ∈ rows, ∀ t ∈ T, PySem.W.kitOne K (.ref (Cls.adr r.1)) (clsU t) = some (subB r.1 t) ∧ PySem.W.exmOne K (.ref (Cls.adr r.1)) (clsU t) = some (subB r.1 t)
  glob : ∀ t ∈ T, t ≠ "ValueError" → mg t = some (.ref (Cls.adr t))
def tabX (rows : List ERow) (hn : Str) : Addr → Bool → Prop := fun C b => ∃ r ∈ rows, C = Cls.adr r.1 ∧ b = subB r.1 hn
def tabE (rows : List ERow) (f : Str) : Addr → Prop := fun C => ∃ r ∈ rows, C = Cls.adr r.1 ∧ f ∈ r.2
def tabI (rows : List ERow) (T : List Str) : Addr → DV → Bool → Prop := fun C c b => ∃ r ∈ rows, C = Cls.adr r.1 ∧ ((∃ t ∈ T, c = clsV t ∧ b = subB r.1 t) ∨ ∃ ts : List Str, (∀ t ∈ ts, t ∈ T) ∧ c = .tup (ts.map clsV) ∧ b = ts.any (subB r.1))
theorem clsD_of {K : PySem.W.Frag} (t : Str) : ClsD K (clsV t) (clsU t) := by
  unfold clsV clsU
  split
  · exact .ty _
  · exact .own _
section
variable {P : Program} {w : World} {K : PySem.W.Frag} {mg : Str → Option Value} {base : Heap} {rows : List ERow} {T : List Str}
theorem Errs.at (E : Errs P w K mg base rows T) (x : Str) (fs : List Str) (h : (x, fs) ∈ rows) (hn : fs ≠ [] := by exact List.cons_ne_nil _ _) : ErrAt P w K mg base x (Cls.adr x) fs := E.err (x, fs) h hn
theorem Errs.at0 (E : Errs P w K mg base rows T) (x : Str) (h : (x, []) ∈ rows) : Err0At K mg x (Cls.adr x) := E.err0 (x, []) h rfl
theorem Errs.x (E : Errs P w K mg base rows T) (hn : Str) (h : hn ∈ T) (hv : hn ≠ "ValueError") : ∀ C b, tabX rows hn C b → PySem.W.exmOne K (.ref C) (.ref (Cls.adr hn)) = some b := by
  rintro C b ⟨r, hr, rfl, rfl⟩
  have := (E.one r hr hn h).2
  unfold clsU at this
  rw [if_neg hv] at this
  exact this
theorem Errs.e (E : Errs P w K mg base rows T) (f : Str) : ∀ C, tabE rows f C → XfC K C ∧ PySem.W.findIn K (.ref C) f = some none := by
  rintro C ⟨r, hr, rfl, hf⟩
  exact ⟨(E.exc r hr).2, E.fld r hr f hf⟩
theorem kitAny_all {C : Addr} {b : Str → Bool} : ∀ {ts : List Str}, (∀ t ∈ ts, PySem.W.kitOne K (.ref C) (clsU t) = some (b t)) → PySem.W.kitAny K (.ref C) (ts.map clsU) = some (ts.any b)
  | [], _ => by rw [List.map_nil, PySem.W.kitAny.eq_1]; rfl
  | t :: ts, h => by
    rw [List.map_cons, PySem.W.kitAny.eq_2, h t (List.mem_cons_self ..), List.any_cons]
    cases b t
    · rw [Bool.false_or]; exact kitAny_all fun t ht => h t (List.mem_cons_of_mem _ ht)
    · rw [Bool.true_or]
theorem Errs.i (E : Errs P w K mg base rows T) : ∀ C c b, tabI rows T C c b → ExcC K C ∧ IsTab K C c b := by
  rintro C c b ⟨r, hr, rfl, h⟩
  refine ⟨(E.exc r hr).1, ?_⟩
  rcases h with ⟨t, ht, rfl, rfl⟩ | ⟨ts, hts, rfl, rfl⟩
  · exact .one (clsD_of t) (E.one r hr t ht).1
  · refine .tup (us := ts.map clsU) ?_ (kitAny_all fun t ht => (E.one r hr t (hts t ht)).1)
    clear hts
    induction ts with
    | nil => exact .nil
    | cons t ts ih => exact .cons (clsD_of t) ih
theorem Errs.g (E : Errs P w K mg base rows T) (t : Str) (h : t ∈ T) (hv : t ≠ "ValueError") : mg t = some (.ref (Cls.adr t)) := E.glob t h hv
end
end
/-- a def within a class -/
def inCls (s : Stmt) (j : Nat) : Stmt := match s with
  | .ClassDef _ _ _ body _ _ _ _ _ _ _ => body.getD j (.Pass ⟨0, 0, 0, 0⟩)
  | s => s
section
variable {D : DEnds} {env : Dv} {G : Gh} {C : Addr} {fs : List Str} {wr : DA}
theorem s_raise0 (q : D.ex C [] env G) : wRaise0 C D env G := q
theorem s_raise (q : wr (fun C fs G' => D.ex C fs env G') env G fun ds G1 => ds.length = fs.length ∧ D.ex C (fs.zip ds).reverse env G1) : wRaise C fs wr D env G := q
end
section
variable [Cls] {De : DEnds} {env : Dv} {G : Gh} {Y : DX} {i : Nat} {tab : Addr → Bool → Prop} {wb ws : DS} {rows : List ERow} {T : List Str} {a d : Addr} {ks : List Str} {l : List DV} {Q : DV → Gh → Prop}
theorem s_try (q : wb { De with ex := tryEx i tab ws De } env G) : wTryAs i tab wb ws De env G := q
theorem s_caught {x hn : Str} {fs : List Str} {vs : List (Str × DV)} (hr : (x, fs) ∈ rows) (hb : subB x hn = true)
    (q : ∀ a d : Addr, ws { nx := fun e g => De.nx (e.set i none) g, rt := De.rt, bk := fun e g => De.bk (e.set i none) g, ct := fun e g => De.ct (e.set i none) g } (env.set i (some (.exc a d (Cls.adr x) (vs.map Prod.fst) (vs.map Prod.snd)))) G) :
    tryEx i (tabX rows hn) ws De (Cls.adr x) vs env G := ⟨true, ⟨(x, fs), hr, rfl, hb.symm⟩, fun _ => q, fun h => nomatch h⟩
theorem s_isE1 {x t : Str} {fs : List Str} {c : DV} (hr : (x, fs) ∈ rows) (ht : t ∈ T) (hc : c = clsV t) (q : Q (.bl (subB x t)) G) : dIsE (tabI rows T) [.exc a d (Cls.adr x) ks l, c] G Q :=
  ⟨_, ⟨(x, fs), hr, rfl, .inl ⟨t, ht, hc, rfl⟩⟩, q⟩
theorem s_isET {x : Str} {fs : List Str} {cs : List DV} (ts : List Str) (hr : (x, fs) ∈ rows) (ht : ∀ t ∈ ts, t ∈ T) (hc : cs = ts.map clsV) (q : Q (.bl (ts.any (subB x))) G) : dIsE (tabI rows T) [.exc a d (Cls.adr x) ks l, .tup cs] G Q :=
  ⟨_, ⟨(x, fs), hr, rfl, .inr ⟨ts, ht, by rw [hc], rfl⟩⟩, q⟩
theorem clsV_own {t : Str} (h : (t == "ValueError") = false) : clsV t = .ref (Cls.adr t) := by
  unfold clsV
  rw [if_neg (by simpa using h)]
theorem s_xf {n : Str} {we : DE} (q : we Y env G (xfK (tabE rows n) n Q)) : wXf (tabE rows n) n we Y env G Q := q
theorem s_xfK {x n : Str} {fs : List Str} {v : DV} (hr : (x, fs) ∈ rows) (hn : n ∈ fs) (hv : (ks.zip l).lookup n = some v) (q : Q v G) : xfK (tabE rows n) n Q (.exc a d (Cls.adr x) ks l) G := ⟨⟨(x, fs), hr, rfl, hn⟩, v, hv, q⟩
end
theorem q_cls {X : Cx} {W : WX} {x : Str} {C : Addr} {pos : Pos} (hm : X.mg x = some (.ref C)) (hg : Gl X x := by rfl) (hd : (x == ("__debug__" : Str)) = false := by decide) : QE X W (.Name x pos) (wC (.ref C)) :=
  q_glob (v := .ref C) hm rfl (fun _ => .ref _) hg hd
section
variable {K : PySem.W.Frag} {x c : Addr} {b : Bool}
theorem kitc_own (hc : PySem.W.isClsIn K c = true) (tc : PySem.W.typeIn K (.ref c) = some (.type "type")) (hs : PySem.W.subIn K (.ref x) (.ref c) = some b) : PySem.W.kitCls K (.ref x) (.ref c) = some b := by
  have e2 : ((PySem.W.clsIn K c).isSome && PySem.W.typeIn K (.ref c) == some (.type "type")) = true := by
    have h2' : (PySem.W.clsIn K c).isSome = true := hc
    rw [h2', tc] <;> rfl
  show (if ((PySem.W.clsIn K c).isSome && PySem.W.typeIn K (.ref c) == some (.type "type")) = true then PySem.W.subIn K (.ref x) (.ref c) else none) = some b
  rw [if_pos e2]
  exact hs
theorem kit_own (hc : PySem.W.isClsIn K c = true) (tc : PySem.W.typeIn K (.ref c) = some (.type "type")) (hx : PySem.W.subIn K (.ref x) (.ref x) = some true) (hs : PySem.W.subIn K (.ref x) (.ref c) = some b) : PySem.W.kitOne K (.ref x) (.ref c) = some b := by
  unfold PySem.W.kitOne
  split
  · rename_i h
    have e : x = c := by
      have := of_decide_eq_true h
      cases this; rfl
    subst e
    rw [hx] at hs
    exact hs
  · exact kitc_own hc tc hs
theorem exm_own (hc : PySem.W.isClsIn K c = true) (tc : PySem.W.typeIn K (.ref c) = some (.type "type")) (bc : PySem.W.subIn K (.ref c) (.type "BaseException") = some true) (hs : PySem.W.subIn K (.ref x) (.ref c) = some b) : PySem.W.exmOne K (.ref x) (.ref c) = some b := by
  have e1 : (PySem.W.subIn K (.ref c) (.type "BaseException") == some true) = true := by rw [bc] <;> rfl
  show (if (PySem.W.subIn K (.ref c) (.type "BaseException") == some true) = true then PySem.W.kitCls K (.ref x) (.ref c) else none) = some b
  rw [if_pos e1]
  exact kitc_own hc tc hs
theorem kit_ve (hs : PySem.W.subIn K (.ref x) (.type "ValueError") = some true) : PySem.W.kitOne K (.ref x) (.type "ValueError") = some true := by
  unfold PySem.W.kitOne
  split
  · rfl
  · show (if PySem.W.kitMeta "ValueError" = true then PySem.W.subIn K (.ref x) (.type "ValueError") else none) = some true
    rw [if_pos (by decide +kernel)]
    exact hs
theorem exm_ve (hs : PySem.W.subIn K (.ref x) (.type "ValueError") = some true) : PySem.W.exmOne K (.ref x) (.type "ValueError") = some true := by
  show (if (PySem.W.subIn K (.type "ValueError") (.type "BaseException") == some true) = true then (if PySem.W.kitMeta "ValueError" = true then PySem.W.subIn K (.ref x) (.type "ValueError") else none) else none) = some true
  have e : (PySem.W.subIn K (.type "ValueError") (.type "BaseException") == some true) = true := by
    show ((fastBuiltinMro "ValueError").map (fun z => z.contains (.type "BaseException")) == some true) = true
    decide +kernel
  rw [if_pos e, if_pos (by decide +kernel)]
  exact hs
end
end DL

namespace PySem
def idxBody (items : Array Value) (x : Value) : Nat → Option Fin × Unit → Sem (ForInStep (Option Fin × Unit)) := fun i __s =>
  match items[i]? with
  | some y => do
    let b ← eqBool y x
    if b = true then do
      let r ← retInt ↑i
      pure (ForInStep.done (some r, ()))
    else pure (ForInStep.yield (none, ()))
  | _ => pure (ForInStep.yield (none, ()))
theorem idx_loop {prog : Program} {w : World} {A : Around} {E : Value → Shared → Prop} {s : Shared} {items : Array Value} {x : Value} {e : Value → Bool} {j : Nat} {Q : Option Fin × Unit → Shared → Prop} (he : ∀ y ∈ items, SeqAt.EqAt A s y x (e y)) (hj : j < items.size) (h1 : e items[j] = true) (h0 : ∀ (m : Nat) (hm : m < items.size), m < j → e items[m] = false)
    (q : Q (some (.done (.ret (.int (j : Nat) s.toks))), ()) { s with toks := s.toks + 1 }) : ∀ (k i len : Nat), i + k = j → j < i + len → wpAny (model prog w) A (forIn (List.range' i len 1) ((none : Option Fin), ()) (idxBody items x)) Q E s
  | k, i, 0, hk, hl => absurd hl (by omega)
  | 0, i, len + 1, hk, hl => by
    have : i = j := by omega
    subst this
    rw [List.range'_succ, List.forIn_cons]
    refine wpAny_bind ?_
    unfold idxBody
    rw [Array.getElem?_eq_getElem hj]
    refine wpAny_bind (he _ (Array.getElem_mem hj) prog w E _ ?_)
    rw [h1, if_pos rfl]
    unfold retInt
    refine wpAny_bind (wpAny_bind (wpAny_mkInt (wpAny_pure ?_)))
    refine wpAny_pure ?_
    exact wpAny_pure q
  | k + 1, i, len + 1, hk, hl => by
    have hi : i < items.size := by omega
    rw [List.range'_succ, List.forIn_cons]
    refine wpAny_bind ?_
    unfold idxBody
    rw [Array.getElem?_eq_getElem hi]
    refine wpAny_bind (he _ (Array.getElem_mem hi) prog w E _ ?_)
    rw [h0 i hi (by omega), if_neg Bool.false_ne_true]
    refine wpAny_pure ?_
    exact idx_loop he hj h1 h0 q k (i + 1) len (by omega) (by omega)
theorem tuple_indexAt (tp : Addr) (items : Array Value) (x : Value) (e : Value → Bool) (j : Nat) (hj : j < items.size) (h1 : e items[j] = true) (h0 : ∀ (m : Nat) (hm : m < items.size), m < j → e items[m] = false) :
    Meets (Builtin.«tuple.index» { pos := [Value.ref tp, x] }) fun A R s => s.heap.IsTuple tp items ∧ (∀ y ∈ items, SeqAt.EqAt A.in1 s y x (e y)) ∧
      R (Except.ok (Flow.ret (Value.int (↑j) s.toks))) { s with toks := s.toks + 1 } := by
  rintro prog w A R s ⟨ht, he, q⟩
  unfold Builtin.«tuple.index»
  refine wpAny_bind (wpAny_of_eq (a := (Value.ref tp, [x])) rfl ?_)
  obtain ⟨o, ho, _, n, hd⟩ := ht
  refine wpAny_bind (wpAny_tupleItemsOf ho hd ?_)
  show wpAny _ _ (_ >>= _) _ _ _
  refine wpAny_bind (wpAny_pure ?_)
  show wpAny _ _ (_ >>= _) _ _ _
  refine wpAny_bind (wpAny_pure ?_)
  refine wpAny_bind ?_
  rw [Std.Legacy.Range.forIn_eq_forIn_range']
  have hs : Std.Legacy.Range.size [0:min items.size items.size] = items.size := by simp [Std.Legacy.Range.size]
  rw [hs]
  refine idx_loop he hj h1 h0 ?_ j 0 items.size (by omega) (by omega)
  exact wpAny_pure q
end PySem
namespace DL
open PySem PySem.Spec L2
open PyProof.Rows hiding St
/-! ### tuple.index of texts -/
def dIndexT : DM := fun x ds G Q => match x, ds with
  | .tup l, [.str k] => ∃ (ns : List Str) (j : Nat), l = ns.map DV.str ∧ ns[j]? = some k ∧ (∀ m : Nat, m < j → ns[m]? ≠ some k) ∧ Q (.int (j : Nat)) G
  | _, _ => False
theorem m_indexT {X : Cx} : MtD X "tuple.index" dIndexT := by
  rintro pins s σ H x xs v us Q I rx rs ⟨dx, ds, G, P, vx, vs, wg, h, k⟩
  match dx, ds, vx, vs, h with
  | .tup l, [.str i], .tup sq rr, .cons (.str _) .nil, ⟨ns, j, hl, hj, hm, h⟩ =>
    subst hl
    have e := rr.ofStrs
    subst e
    cases rx
    cases rs with
    | cons rv rn =>
      cases rn
      obtain ⟨tk, rfl⟩ := (show ∃ t, _ = Value.str i t from rv)
      obtain ⟨its, rvs, hT, hz⟩ := I.tuple (SqT.of sq)
      have hlen := rvs.length
      have hjn : j < ns.length := (List.getElem?_eq_some_iff.mp hj).1
      have hji : j < its.length := by rw [← hlen, List.length_map]; exact hjn
      have val : ∀ m (hm : m < its.length), eqU (.str i) its[m] = decide (ns[m]? = some i) := fun m hm => by
        have hmn : m < ns.length := by rw [← hlen, List.length_map] at hm; exact hm
        have e1 : (ns.map V.str)[m]? = some (.str ns[m]) := by rw [List.getElem?_map, List.getElem?_eq_getElem hmn]; rfl
        obtain ⟨u, hu, ru⟩ := rvs.get e1
        have e2 : its[m] = u := by
          have := List.getElem?_eq_getElem hm
          rw [this] at hu; exact Option.some.inj hu
        rw [e2, eqU_of ru rfl, List.getElem?_eq_getElem hmn]
        show (ns[m] == i) = decide (some ns[m] = some i)
        rw [Bool.eq_iff_iff, beq_iff_eq, decide_eq_true_iff, Option.some.injEq]
      refine call_meets F.slot_tuple_index (by obtain ⟨o, ho, hc, _⟩ := hT; exact ⟨o, ho, hc⟩) F.entry_tuple_index (F.args_tuple_index_2 _ _) (tuple_indexAt _ its.toArray (.str i tk) (eqU (.str i)) j (by simpa using hji) ?_ ?_) ⟨hT, ?_, ?_⟩
      · rw [List.getElem_toArray, val j hji, decide_eq_true_iff]; exact hj
      · intro m hm1 hm2
        rw [List.getElem_toArray, val m (by simpa using hm1), decide_eq_false_iff_not]
        exact hm m hm2
      · intro y hy
        exact mem_eqAt (x := .str i) (v := .str i tk) ⟨tk, rfl⟩ rfl rvs (by rw [List.all_map, List.all_eq_true]; intro z _; rfl) y (by simpa using hy)
      · exact ⟨.int (j : Nat), H, I.tok _, ⟨_, rfl⟩, k _ _ _ _ h wg Ext.refl (.int _)⟩
end DL

/-! ### d.get(k, default) -/
namespace L2
open PySem PySem.Spec
open PyProof.Rows hiding St
theorem key_is {k : Key} {u : Value} (r : RelV (kV k) u) : keyIs k u = true := by
  cases k with
  | inl i => obtain ⟨t, rfl⟩ := (show ∃ t, u = Value.int i t from r); simp [keyIs, Value.isInt, Value.isStrOf]
  | inr x => obtain ⟨t, rfl⟩ := (show ∃ t, u = Value.str x t from r); simp [keyIs, Value.isInt, Value.isStrOf]
theorem mt_dget {X : Cx} : MtR X "dict.get" (fun x xs H Q => ∃ (a : Addr) (kvs : List (Key × V)) (k : Key) (y : V), x = .ref a ∧ xs = [kV k, y] ∧ H a = some (.dK kvs) ∧ Q ((valV kvs k).getD y) H) := by
  intro pins s σ H x xs v us Q I rx rs h
  obtain ⟨a, kvs, k, y, rfl, rfl, ea, q⟩ := h
  cases rx
  match us, rs with
  | [uk, uy], .cons rk (.cons ry .nil) =>
    obtain ⟨z, hd, vs, rel, dd⟩ := dk_of I.hok ea
    refine call_meetsIn PySem.F.slot_dict_get dd.typeIs PySem.F.entry_dict_get (PySem.F.args_dict_get_3 _ _ _) (meets_dict_get_default (mixKind X.prog X.w) (k := k) a (key_is rk) hd uy)
      ⟨_, dd.mapOf, _, H, I.tok _, ?_, q⟩
    have r := rel.val k
    cases h1 : valV kvs k with
    | none =>
      rw [h1] at r
      cases h2 : valueAt vs k with
      | none => exact ry
      | some w => rw [h2] at r; exact r.elim
    | some w =>
      rw [h1] at r
      cases h2 : valueAt vs k with
      | none => rw [h2] at r; exact r.elim
      | some u => rw [h2] at r; exact r
end L2
namespace DL
open PySem PySem.Spec L2
open PyProof.Rows hiding St
def dGet : DM := fun x ds G Q => match x, ds with
  | .ref a, [y, d] => ∃ kvs k, G a = some (.dic kvs) ∧ keyD y = some k ∧ Q ((valD kvs k).getD d) G
  | _, _ => False
theorem KR.none {K : PySem.W.Frag} {H : Hp} {κ : Type} [DecidableEq κ] {k : κ} {xs : List (κ × V)} {ys : List (κ × DV)} (r : KR K H xs ys) (h : valD ys k = .none) : valV xs k = .none := by
  have := r.isSome (k := k)
  rw [h] at this
  cases e : valV xs k with
  | none => rfl
  | some v => rw [e] at this; cases this
theorem m_get {X : Cx} : MtD X "dict.get" dGet := by
  rintro pins s σ H x xs v us Q I rx rs ⟨dx, ds, G, P, vx, vs, wg, h, k⟩
  match dx, ds, vx, vs, h with
  | .ref a, [y, d], .ref _, .cons vy (.cons vd .nil), ⟨kvs, kk, ga, hk, h⟩ =>
    obtain ⟨ws, ha, kr⟩ := wg _ _ ga
    have ey := vy.key hk
    subst ey
    cases hv : valD kvs kk with
    | none =>
      rw [hv] at h
      exact mt_dget pins s σ H _ _ v us Q I rx rs ⟨a, ws, kk, _, rfl, rfl, ha, by rw [kr.none hv]; exact k _ _ _ _ h wg Ext.refl vd⟩
    | some z =>
      rw [hv] at h
      obtain ⟨w, hw, rw'⟩ := kr.val hv
      exact mt_dget pins s σ H _ _ v us Q I rx rs ⟨a, ws, kk, _, rfl, rfl, ha, by rw [hw]; exact k _ _ _ _ h wg Ext.refl rw'⟩
theorem x_get {e : Addr} {kvs : List (Key × DV)} {y d : DV} {k : Key} {G : Gh} {Q : DV → Gh → Prop} (he : G e = some (.dic kvs)) (hk : keyD y = some k) (q : Q ((valD kvs k).getD d) G) : dGet (.ref e) [y, d] G Q := ⟨kvs, k, he, hk, q⟩
/-! ### dict(d) -/
def dDictC : DC := fun ds G Q => match ds with
  | [.ref a] => ∃ kvs, G a = some (.dic kvs) ∧ ∀ p, G p = none → Q (.ref p) (gup G p (.dic kvs))
  | _ => False
theorem c_dict {X : Cx} : CallD X (.type "dict") dDictC := by
  rintro pins s σ H xs us Q I rs ⟨ds, G, P, vs, wg, h, k⟩
  match ds, vs, h with
  | [.ref a], .cons (.ref _) .nil, ⟨kvs, ga, h⟩ =>
    obtain ⟨ws, ha, kr⟩ := wg _ _ ga
    exact call_dictD pins s σ H _ us Q I rs ⟨a, ws, rfl, .inl ha, fun p np => k _ _ _ _ (h p (wg.non np)) (wg.put (.inl np) ⟨_, upd_same, kr.ext wg (Put.ext (.inl np) (c := .dic kvs))⟩) (Ext.newC np) (.ref p)⟩
theorem x_dictC {e : Addr} {kvs : List (Key × DV)} {G : Gh} {Q : DV → Gh → Prop} (he : G e = some (.dic kvs)) (q : ∀ p G1, G p = none → Sub G G1 → G1 p = some (.dic kvs) → Q (.ref p) G1) : dDictC [.ref e] G Q :=
  ⟨kvs, he, fun p np => q p _ np (Sub.new np) gup_same⟩
end DL

namespace DL
open PySem PySem.Spec L2
open PyProof.Rows hiding St
/-! ### a, b = x, y: both sides written, the names plain locals -/
section
variable {X : Cx} {W : WX} {wr : DA}
theorem qs_par {i j : Nat} {x y : Str} {a b : Expr} {px py pt pos : Pos} {kt k2 pt2} (hc : X.calm = true) (hN : X.N.Nodup) (hi : X.N[i]? = some x) (hj : X.N[j]? = some y) (hij : i ≠ j)
    (hx : X.env.scope.names.lookup x = some .local) (hy : X.env.scope.names.lookup y = some .local) (ha : QA X W [a, b] wr)
    (hw : swappedStores [.Tuple [.Name x px, .Name y py] kt pt] (.Tuple [a, b] k2 pt2) X.env = pure (some [x, y]))
    (hs : swapsWithSole [.Tuple [.Name x px, .Name y py] kt pt] (.Tuple [a, b] k2 pt2) pos.line X.env = pure false := by rfl) :
    QS X W (.Assign [.Tuple [.Name x px, .Name y py] kt pt] (.Tuple [a, b] k2 pt2) pos) (wAsg (wTup wr) (wgTup (wgCons (wgName i) (wgCons (wgName j) wgNil)))) :=
  ⟨PS.wk (ps_par (i := i) (j := j) hc hN hi hj hij hx hy ha.pa hw hs) fun D σ H ⟨env, G, De, er, wg, h, le⟩ => ⟨_, env, G, _, er, wg, h, fun ds G1 vs H1 h1 w1 x1 r1 => by
    obtain ⟨_, h1⟩ := h1
    match ds, r1, h1 with
    | [d, e], .cons rd (.cons re .nil), h1 =>
      exact ⟨_, _, rfl, le.nx _ _ _ _ h1 (((er.ext wg x1).set rd i).set re j) w1 x1⟩, le.xle wg er⟩⟩
end
end DL

namespace L2
open PySem PySem.Spec
open PyProof.Rows hiding St
section
variable {X : Cx} {pos : Pos}
/-- {k: v}, the key a tuple; the new dict stands empty while the pair is made -/
def tDisp1T (tk tv : TE) : TE := fun σ H Q => ∀ p, H p = none → tk σ (upd H p (.dT [])) fun x H1 => tv σ H1 fun y H2 => H2 p = some (.dT []) ∧ ∃ ks b, x = .ref b ∧ H2 b = some (.tup (ks.map kV)) ∧ Q (.ref p) (upd H2 p (.dT [(ks, y)]))
theorem pe_disp1T {k v : Expr} {tk tv : TE} (hu : X.A.units + 1 < cLine) (hk : PE X k tk) (hv : PE X v tv) : PE X (.Dict [some k] [v] pos) (tDisp1T tk tv) := by
  refine ⟨fun pins s σ H Q I q => ?_⟩
  have hn := I.hok.fresh (Nat.le_refl s.heap.objs.size)
  have I1 := I.laid (a := s.heap.objs.size) (o := .dT []) (h' := s.heap.push { cls := .type "dict", data := .dict #[] }) (t' := s.toks) (fun _ _ q => Heap.get?_push_of_some _ q) (Nat.le_refl _) (dt_empty s.heap I.big)
  have hr : (tupleKind (mixKind X.prog X.w)).room X.A := Nat.lt_trans (Nat.lt_succ_self _) hu
  rw [arm_eval_Dict, zip_pairTrees [some k] [v] X.env pos rfl rfl, dictDisplay_pairs _ (by intro z; cases z) (by show 1 < 17; omega)]
  refine wpAny_bind (wpAny_standAt (wpAny_bind (wpAny_subDictH (knd := tupleKind (mixKind X.prog X.w)) hr (by show 1 ≤ 15; omega) ?_)))
  refine pairTrees_cons_walk (thn (hk.run pins _ σ _ _ I1 (q _ hn)) fun u s1 ⟨x, H1, I2, rx, q1⟩ => thn (hv.run pins s1 σ H1 _ I2 q1) fun w2 s2 ⟨y, H2, I3, ry, q2⟩ => pairTrees_nil_walk ?_)
  obtain ⟨e, ks, b, rfl, eb, q2⟩ := q2
  cases rx
  obtain ⟨z, hd, xs, rel, dd⟩ := dt_of I3.hok e
  cases rel
  refine ⟨[(ks, b, w2)], ⟨rfl, rfl, key_of I3.hok eb, trivial⟩, dd, fun h' tk dd' hs => wpAny_pure ⟨.ref s.heap.objs.size, _, ?_, rfl, q2⟩⟩
  obtain ⟨o, es, ep, hq, h2, h3, h4, _, h5⟩ := dd'
  have ne : b ≠ s.heap.objs.size := ne_of eb e (fun z => nomatch z)
  have ht : ∀ c ys, H2 c = some (.tup ys) → (upd H2 s.heap.objs.size (.dT [(ks, y)])) c = some (.tup ys) := fun c ys ec => by
    rw [upd_ne (ne_of ec e (fun z => nomatch z))]; exact ec
  exact d_write I3 (by rw [e]; exact True.intro) hs ⟨o, hq⟩ ⟨by rw [sizeLine_eq]; show 1 ≤ _; omega, hd, _, .cons ⟨rfl, ht _ _ eb, ry⟩ .nil, o, es, ep, hq, h2, h3, h4, h5⟩
theorem op_inDg (hu : X.A.units + 1 < cLine) : OpR X (compareOp .In) (fun y x H Q => ∃ a o, x = .ref a ∧ DGet H a y o ∧ Q (.bl o.isSome) H) := by
  intro pins s σ H y x u v Q I ry rx h
  obtain ⟨a, o, rfl, g, q⟩ := h
  obtain rfl : v = Value.ref a := rx
  exact d_in hu I g ry fun s3 I3 => ⟨.bl o.isSome, H, I3, rfl, q⟩
theorem op_notInDg (hu : X.A.units + 1 < cLine) : OpR X (compareOp .NotIn) (fun y x H Q => ∃ a o, x = .ref a ∧ DGet H a y o ∧ Q (.bl (!o.isSome)) H) := by
  intro pins s σ H y x u v Q I ry rx h
  obtain ⟨a, o, rfl, g, q⟩ := h
  obtain rfl : v = Value.ref a := rx
  exact d_notIn hu I g ry fun s3 I3 => ⟨.bl (!o.isSome), H, I3, rfl, q⟩
end
end L2
namespace DL
open PySem PySem.Spec L2
open PyProof.Rows hiding St
section
variable {X : Cx} {W : WX} {pos : Pos} {k v : Expr} {wk wv : DE}
/-- {k: v}, the key a tuple of numbers and texts -/
def disp1K (Q : DV → Gh → Prop) (x y : DV) (G2 : Gh) : Prop := ∃ ks, keyT x = some ks ∧ ∀ p, G2 p = none → Q (.ref p) (gup G2 p (.dt [(ks, y)]))
def wDisp1T (wk wv : DE) : DE := fun Y env G Q => wk Y env G fun x G1 => wv Y env G1 fun y G2 => disp1K Q x y G2
theorem q_disp1T (hu : X.A.units + 64 < cLine) (hk : QE X W k wk) (hv : QE X W v wv) : QE X W (.Dict [some k] [v] pos) (wDisp1T wk wv) := by
  refine ⟨PE.wk (pe_disp1T (by omega) hk.pe hv.pe) ?_⟩
  rintro σ H Q ⟨Y, env, G, P, er, wg, h, kq, kx⟩ p hp
  have x0 : Ext G H G (upd H p (.dT [])) := Ext.new hp
  refine ⟨Y, env, G, _, er.ext wg x0, wg.new hp, h, fun x G1 vx H1 h1 w1 x1 r1 => ⟨Y, env, G1, _, (er.ext wg x0).ext (wg.new hp) x1, w1, h1, fun y G2 vy H2 h2 w2 x2 r2 => ?_, (kx.step x0).step x1⟩, kx.step x0⟩
  obtain ⟨ks, hk, q⟩ := h2
  obtain ⟨b, rfl, eb⟩ := (r1.ext w1 x2).keyT hk
  obtain ⟨e2, n2⟩ := (x1.trans x2) p _ upd_same (wg.non hp)
  have wp : WG X.K (gup G2 p (.dt [])) H2 := fun a c e => by
    by_cases ha : a = p
    · subst ha
      rw [gup_same] at e; cases e
      exact ⟨[], e2, .nil⟩
    · rw [gup_ne ha] at e; exact w2 a c e
  have kr : KR X.K H2 [(ks, vy)] [(ks, y)] := .cons r2 .nil
  have xp : Ext (gup G2 p (.dt [])) H2 (gup (gup G2 p (.dt [])) p (.dt [(ks, y)])) (upd H2 p (.dT [(ks, vy)])) := Ext.setC gup_same
  have w3 : WG X.K (gup G2 p (.dt [(ks, y)])) (upd H2 p (.dT [(ks, vy)])) := by
    have := wp.put (a := p) (c := .dt [(ks, y)]) (o := .dT [(ks, vy)]) (.inr ⟨_, gup_same⟩) ⟨_, upd_same, kr.ext wp xp⟩
    rw [gup_gup] at this
    exact this
  refine ⟨e2, ks, b, rfl, eb, kq _ _ _ _ (q p n2) w3 (fun a o e n => ?_) (.ref p)⟩
  have hap : a ≠ p := by rintro rfl; rw [hp] at e; cases e
  have e0 : (upd H p (.dT [])) a = some o := by rw [upd_ne hap]; exact e
  obtain ⟨e3, n3⟩ := (x1.trans x2) a o e0 n
  exact ⟨by rw [upd_ne hap]; exact e3, by rw [gup_ne hap]; exact n3⟩
/-- x in d -/
def dInD (neg : Bool) : D2 := fun y x G Q => match x with
  | .ref a => (∃ kvs k, G a = some (.dic kvs) ∧ keyD y = some k ∧ Q (.bl (neg ^^ (valD kvs k).isSome)) G) ∨ ∃ kvs k, G a = some (.dt kvs) ∧ keyT y = some k ∧ Q (.bl (neg ^^ (valD kvs k).isSome)) G
  | _ => False
theorem inD_get {K : PySem.W.Frag} {H : Hp} {G : Gh} {dy : DV} {y : V} {a : Addr} {P : Bool → Prop} (wg : WG K G H) (vy : VR K H y dy)
    (h : (∃ kvs k, G a = some (.dic kvs) ∧ keyD dy = some k ∧ P (valD kvs k).isSome) ∨ ∃ kvs k, G a = some (.dt kvs) ∧ keyT dy = some k ∧ P (valD kvs k).isSome) : ∃ o, DGet H a y o ∧ P o.isSome := by
  rcases h with ⟨kvs, kk, ga, hk, q⟩ | ⟨kvs, kk, ga, hk, q⟩
  · obtain ⟨ws, ha, kr⟩ := wg _ _ ga
    rw [vy.key hk]
    exact ⟨_, DGet.k ha, by rw [kr.isSome]; exact q⟩
  · obtain ⟨ws, ha, kr⟩ := wg _ _ ga
    obtain ⟨b, rfl, eb⟩ := vy.keyT hk
    exact ⟨_, DGet.t ha eb, by rw [kr.isSome]; exact q⟩
theorem o_inD (hu : X.A.units + 64 < cLine) : OpD X (compareOp .In) (dInD false) := by
  rintro pins s σ H y x u v Q I ry rx ⟨dy, dx, G, P, vy, vx, wg, h, k⟩
  cases dx <;> first | exact h.elim | skip
  rename_i a
  cases vx
  obtain ⟨o, g, q⟩ := inD_get (P := fun b => P (.bl (false ^^ b)) G) wg vy h
  exact op_inDg (by omega) pins s σ H _ _ u v Q I ry rx ⟨a, o, rfl, g, op_end wg k q (by rw [Bool.false_xor]; exact .bl _)⟩
theorem o_notinD (hu : X.A.units + 64 < cLine) : OpD X (compareOp .NotIn) (dInD true) := by
  rintro pins s σ H y x u v Q I ry rx ⟨dy, dx, G, P, vy, vx, wg, h, k⟩
  cases dx <;> first | exact h.elim | skip
  rename_i a
  cases vx
  obtain ⟨o, g, q⟩ := inD_get (P := fun b => P (.bl (true ^^ b)) G) wg vy h
  exact op_notInDg (by omega) pins s σ H _ _ u v Q I ry rx ⟨a, o, rfl, g, op_end wg k q (by rw [Bool.true_xor]; exact .bl _)⟩
variable {Y : DX} {env : Dv} {G : Gh} {Q : DV → Gh → Prop} {x y : DV} {e : Addr} {ks : List Key} {kvs : List (List Key × DV)}
theorem s_disp1T (q : wk Y env G fun x G1 => wv Y env G1 fun y G2 => disp1K Q x y G2) : wDisp1T wk wv Y env G Q := q
theorem x_disp1 (h : keyT x = some ks) (q : ∀ p G1, G p = none → Sub G G1 → G1 p = some (.dt [(ks, y)]) → Q (.ref p) G1) : disp1K Q x y G := ⟨ks, h, fun p hp => q p _ hp (Sub.new hp) gup_same⟩
theorem s_inDt (he : G e = some (.dt kvs)) (h : keyT x = some ks) (q : Q (.bl (valD kvs ks).isSome) G) : dInD false x (.ref e) G Q := .inr ⟨kvs, ks, he, h, by rw [Bool.false_xor]; exact q⟩
theorem s_ninDt (he : G e = some (.dt kvs)) (h : keyT x = some ks) (q : Q (.bl (!(valD kvs ks).isSome)) G) : dInD true x (.ref e) G Q := .inr ⟨kvs, ks, he, h, by rw [Bool.true_xor]; exact q⟩
theorem s_inDk {k : Key} {kvs : List (Key × DV)} (he : G e = some (.dic kvs)) (h : keyD x = some k) (q : Q (.bl (valD kvs k).isSome) G) : dInD false x (.ref e) G Q := .inl ⟨kvs, k, he, h, by rw [Bool.false_xor]; exact q⟩
theorem s_ninDk {k : Key} {kvs : List (Key × DV)} (he : G e = some (.dic kvs)) (h : keyD x = some k) (q : Q (.bl (!(valD kvs k).isSome)) G) : dInD true x (.ref e) G Q := .inl ⟨kvs, k, he, h, by rw [Bool.true_xor]; exact q⟩
theorem keyT_ints {l : List Int} : keyT (.tup (l.map DV.int)) = some (l.map Sum.inl) := keysD_ints l
/-- a tuple of the module's own -/
theorem s_inKt {d : DV} {l : List DV} (h : d.flat = true) (h2 : l.all DV.flat = true) (q : Q (.bl (l.any fun e => e.same d)) G) : dIn false d (.kt l) G Q := ⟨h, h2, by rw [Bool.false_xor]; exact q⟩
theorem s_ninKt {d : DV} {l : List DV} (h : d.flat = true) (h2 : l.all DV.flat = true) (q : Q (.bl (!l.any fun e => e.same d)) G) : dIn true d (.kt l) G Q := ⟨h, h2, by rw [Bool.true_xor]; exact q⟩
end
end DL

namespace DL
open PySem PySem.Spec L2
open PyProof.Rows hiding St
/-! ### a, b = [..]: a list unpacked; list.index of flat values -/
section
variable {X : Cx} {W : WX} {pos : Pos}
def wgUnl (gs : DGs) : DG := fun d env G Q => match d with | .ref a => ∃ l, G a = some (.lst l) ∧ gs l env G Q | _ => False
theorem qg_unlN {tgs : List Expr} {k : Nat} {ts : TGs} {gs : DGs} {n : Nat} (hc : X.calm = true) (h : QGs X tgs ts gs) (hl : LenG n gs) (hn : (assignEach tgs X.env).length = n := by rfl) (hst : (assignEach tgs X.env).findIdx? (·.1) = none := by rfl) :
    QG X (.Tuple tgs k pos) (gUnl X.K n ts) (wgUnl gs) :=
  ⟨pg_unl hc h.pg hn hst, fun v σ H Q ⟨d, env, G, P, r, er, wg, hh, kk⟩ => by
    cases d <;> first | exact hh.elim | skip
    obtain ⟨l, ga, hh⟩ := hh
    cases r
    obtain ⟨xs, ha, rs⟩ := wg _ _ ga
    exact ⟨_, _, rfl, SqL.of ha, by rw [rs.len]; exact hl _ _ _ _ hh, h.sim _ _ _ _ ⟨_, env, G, P, rs, er, wg, hh, kk⟩⟩⟩
theorem s_gUnl {gs : DGs} {a : Addr} {l : List DV} {env : Dv} {G : Gh} {K : Dv → Gh → Prop} (he : G a = some (.lst l)) (q : gs l env G K) : wgUnl gs (.ref a) env G K := ⟨l, he, q⟩
def dIndexL : DM := fun x ds G Q => match x, ds with
  | .ref a, [y] => ∃ (l : List DV) (j : Nat) (z : DV), G a = some (.lst l) ∧ y.flat = true ∧ l.all DV.flat = true ∧ l[j]? = some z ∧ z.same y = true ∧ (∀ (m : Nat) (z' : DV), m < j → l[m]? = some z' → z'.same y = false) ∧ Q (.int (j : Nat)) G
  | _, _ => False
theorem VRs.getD {K : PySem.W.Frag} {H : Hp} : ∀ {vs : List V} {ds : List DV}, VRs K H vs ds → ∀ {j : Nat} {z : DV}, ds[j]? = some z → ∃ v, vs[j]? = some v ∧ VR K H v z
  | _, _, .nil, j, z, h => by simp at h
  | _, _, .cons r t, 0, z, h => by simp at h; subst h; exact ⟨_, rfl, r⟩
  | _, _, .cons r t, j + 1, z, h => by simpa using VRs.getD t (j := j) (by simpa using h)
theorem VRs.getW {K : PySem.W.Frag} {H : Hp} : ∀ {vs : List V} {ds : List DV}, VRs K H vs ds → ∀ {j : Nat} {v : V}, vs[j]? = some v → ∃ z, ds[j]? = some z ∧ VR K H v z
  | _, _, .nil, j, z, h => by simp at h
  | _, _, .cons r t, 0, z, h => by simp at h; subst h; exact ⟨_, rfl, r⟩
  | _, _, .cons r t, j + 1, z, h => by simpa using VRs.getW t (j := j) (by simpa using h)
theorem m_indexL : MtD X "list.index" dIndexL := by
  rintro pins s σ H x xs v us Q I rx rs ⟨dx, ds, G, P, vx, vs, wg, h, k⟩
  match dx, ds, vx, vs, h with
  | .ref a, [y], .ref _, .cons vy .nil, ⟨l, j, z, ga, fy, fl, hj, hz, hm, h⟩ =>
    obtain ⟨xs, ha, rl⟩ := wg _ _ ga
    obtain ⟨vz, hv, rz⟩ := rl.getD hj
    have fz : z.flat = true := List.all_eq_true.mp fl z (List.mem_of_getElem? hj)
    refine mt_index pins s σ H _ _ v us Q I rx rs ⟨_, xs, _, j, vz, rfl, rfl, SqL.of ha, vy.flatV fy, rl.flatV fl, hv, by rw [rz.same vy fz fy]; exact hz, fun m z' hmj hz' => ?_, op_end wg k h (.int _)⟩
    obtain ⟨d, hd, rd⟩ := rl.getW hz'
    rw [rd.same vy (List.all_eq_true.mp fl d (List.mem_of_getElem? hd)) fy]
    exact hm m d hmj hd
theorem x_indexI {a : Addr} {l : List Int} {i : Int} {j : Nat} {G : Gh} {Q : DV → Gh → Prop} (he : G a = some (.lst (l.map DV.int))) (hj : l[j]? = some i) (hm : ∀ m : Nat, m < j → l[m]? ≠ some i) (q : Q (.int (j : Nat)) G) : dIndexL (.ref a) [.int i] G Q :=
  ⟨_, j, .int i, he, rfl, by rw [List.all_map]; exact List.all_eq_true.mpr fun _ _ => rfl, by rw [List.getElem?_map, hj]; rfl, by show (i == i) = true; simp, fun m z' hmj hz' => by
    rw [List.getElem?_map] at hz'
    cases e : l[m]? with
    | none => rw [e] at hz'; cases hz'
    | some u =>
      rw [e] at hz'
      cases hz'
      show (u == i) = false
      rw [beq_eq_false_iff_ne]
      rintro rfl
      exact hm m hmj e, q⟩
end
end DL

namespace DL
open PySem PySem.Spec L2
open PyProof.Rows hiding St
/-! ### tuples of numbers compared -/
theorem eqvAllI : ∀ (a b : List Int), PyData.eqvAll (a.map PyData.int) (b.map PyData.int) = decide (a = b)
  | [], [] => by simp [PyData.eqvAll]
  | x :: a, [] => by simp [PyData.eqvAll]
  | [], y :: b => by simp [PyData.eqvAll]
  | x :: a, y :: b => by
    have h := eqvAllI a b
    simp only [List.map_cons, PyData.eqvAll, PyData.eqv, h]
    rw [Bool.eq_iff_iff]
    simp
theorem eqvTI (a b : List Int) : PyData.eqv (.tuple (a.map PyData.int)) (.tuple (b.map PyData.int)) = decide (a = b) := eqvAllI a b
theorem eqvLI (a b : List Int) : PyData.eqv (.list (a.map PyData.int)) (.list (b.map PyData.int)) = decide (a = b) := eqvAllI a b
theorem drsI {G : Gh} : ∀ l : List Int, DRs G (l.map DV.int) (l.map PyData.int)
  | [] => .nil
  | i :: l => .cons (.int i) (drsI l)
theorem drTI {G : Gh} (l : List Int) : DR G (.tup (l.map DV.int)) (.tuple (l.map PyData.int)) := .tup (drsI l)
theorem shapedTI (ns : List Int) : SeqAt.shaped (.tuple (ns.map PyData.int)) = true := by
  simp [SeqAt.shaped, PyData.canLay0, PyData.depth, PySem.W.ke_canLayAll0, PySem.W.ke_depthAll]
section
variable {G : Gh} {Q : DV → Gh → Prop} {a b : List Int}
theorem s_eqTI (q : Q (.bl (decide (a = b))) G) : dEq false (.tup (a.map .int)) (.tup (b.map .int)) G Q :=
  ⟨_, _, drTI a, drTI b, shapedTI a, shapedTI b, by rw [eqvTI, Bool.false_xor]; exact q⟩
theorem s_neTI (q : Q (.bl (!decide (a = b))) G) : dEq true (.tup (a.map .int)) (.tup (b.map .int)) G Q :=
  ⟨_, _, drTI a, drTI b, shapedTI a, shapedTI b, by rw [eqvTI, Bool.true_xor]; exact q⟩
end
end DL

/-! ### dicts with tuple keys: get with a default, setdefault, dict(pairs), sorted(d); x in a list of rows -/
namespace L2
open PySem PySem.Spec
open PyProof.Rows hiding St
section
variable {X : Cx}
theorem relO_getD {o : Option V} {p : Option Value} {y : V} {u : Value} (r : RelO o p) (ry : RelV y u) : RelV (o.getD y) (p.getD u) := by
  cases o <;> cases p <;> first | exact ry | exact r | exact (show False from r).elim
theorem mt_dgetT (hu : X.A.units + 1 < cLine) : MtR X "dict.get" (fun x xs H Q => ∃ (a b : Addr) (kvs : List (List Key × V)) (k : List Key) (y : V), x = .ref a ∧ xs = [.ref b, y] ∧ H a = some (.dT kvs) ∧ H b = some (.tup (k.map kV)) ∧ Q ((valV kvs k).getD y) H) := by
  intro pins s σ H x xs v us Q I rx rs h
  obtain ⟨a, b, kvs, k, y, rfl, rfl, ea, eb, q⟩ := h
  cases rx
  obtain ⟨uk, uy, rfl, rk, ry⟩ := vals2 rs
  cases rk
  obtain ⟨z, hd, ws, rel, dd⟩ := dt_of I.hok ea
  exact call_meetsIn PySem.F.slot_dict_get dd.typeIs PySem.F.entry_dict_get (PySem.F.args_dict_get_3 _ _ _) (meetsH_dict_get_default (tupleKind (mixKind X.prog X.w)) a b hd uy)
    ⟨tupleKind_room_in1 hu, k, ws, key_of I.hok eb, dd, _, H, I.tok _, relO_getD (rel.val k) ry, q⟩
theorem mt_dsetdT (hu : X.A.units + 1 < cLine) : MtR X "dict.setdefault" (fun x xs H Q => ∃ (a b : Addr) (kvs : List (List Key × V)) (k : List Key) (y : V), x = .ref a ∧ xs = [.ref b, y] ∧ H a = some (.dT kvs) ∧ H b = some (.tup (k.map kV)) ∧ kvs.length < sizeLine ∧
    (∀ v, valV kvs k = some v → Q v H) ∧ (valV kvs k = none → Q y (upd H a (.dT (putK kvs k y))))) := by
  intro pins s σ H x xs v us Q I rx rs h
  obtain ⟨a, b, kvs, k, y, rfl, rfl, ea, eb, hl, q1, q2⟩ := h
  cases rx
  obtain ⟨uk, uy, rfl, rk, ry⟩ := vals2 rs
  cases rk
  obtain ⟨z, hd, ws, rel, dd⟩ := dt_of I.hok ea
  have r := rel.val k
  refine call_setdefault_heap (hsz := by rw [← Paired.length rel]; exact z) (tupleKind_room_in1 hu) (key_of I.hok eb) hd dd (fun p hp => ?_) fun hn h' dd' hs => ?_
  · rw [hp] at r
    cases e : valV kvs k with
    | none => rw [e] at r; exact (show False from r).elim
    | some v0 => rw [e] at r; exact ⟨v0, H, I.tok _, r, q1 v0 e⟩
  · rw [hn] at r
    have e : valV kvs k = none := by
      cases e : valV kvs k with
      | none => rfl
      | some v0 => rw [e] at r; exact (show False from r).elim
    obtain ⟨o, es, ep, hq, h2, h3, h4, _, h5⟩ := dd'
    have hl2 : (putK kvs k y).length ≤ sizeLine := by have := length_putK kvs k y; omega
    refine ⟨y, upd H a (.dT (putK kvs k y)), ?_, ry, q2 e⟩
    refine d_write I (by rw [ea]; exact True.intro) hs ⟨o, hq⟩ ⟨hl2, hd, _, (rel.put k eb ry).keeps fun c ys ec => ?_, o, es, ep, hq, h2, h3, h4, h5⟩
    rw [upd_ne (ne_of ec ea (fun z => nomatch z))]
    exact ec
/-- dict(xs), xs a list of pairs whose keys are tuples -/
def mergeT (kvs more : List (List Key × V)) : List (List Key × V) := more.foldl (fun acc kv => putK acc kv.1 kv.2) kvs
theorem KT.merge {H : Hp} : ∀ {more : List (List Key × V)} {rs : List (List Key × Addr × Value)} {kvs : List (List Key × V)} {xs : List (List Key × Addr × Value)}, KT H more rs → KT H kvs xs → KT H (mergeT kvs more) (storedAllH xs rs) := by
  intro more rs kvs xs r
  unfold KT at r
  induction r generalizing kvs xs with
  | nil => intro q; exact q
  | @cons p x ps ys h t ih =>
    intro q
    have e : storedH xs x.1 x.2.1 x.2.2 = storedH xs p.1 x.2.1 x.2.2 := by rw [h.1]
    show KT H (mergeT (putK kvs p.1 p.2) ps) (storedAllH (storedH xs x.1 x.2.1 x.2.2) ys)
    rw [e]
    exact ih (KT.put q p.1 h.2.1 h.2.2)
theorem length_mergeT : ∀ (more kvs : List (List Key × V)), (mergeT kvs more).length ≤ kvs.length + more.length
  | [], kvs => by show kvs.length ≤ kvs.length + 0; omega
  | p :: r, kvs => by
    have h1 := length_mergeT r (putK kvs p.1 p.2)
    have h2 := length_putK kvs p.1 p.2
    show (mergeT (putK kvs p.1 p.2) r).length ≤ kvs.length + (r.length + 1)
    omega
theorem pairsT_of {pins : List (Addr × Obj)} {σ : St} {H : Hp} {s : Shared} (I : Inv X pins σ H s) : ∀ {ps : List Addr} {kvs : List (List Key × V)}, Paired (fun p kv => ∃ b, H p = some (.tup [.ref b, kv.2]) ∧ H b = some (.tup (kv.1.map kV))) ps kvs →
    ∃ rs : List (List Key × Addr × Value), KT H kvs rs ∧ rs.length = ps.length ∧ ∀ (j : Nat) x, rs[j]? = some x → ∃ p, ps[j]? = some p ∧ s.heap.IsTuple p #[.ref x.2.1, x.2.2]
  | _, _, .nil => ⟨[], .nil, rfl, fun j q e => by simp at e⟩
  | _, _, .cons (a := p) (b := kv) h t => by
    obtain ⟨rs, r, hl, hp⟩ := pairsT_of I t
    obtain ⟨b, h1, h2⟩ := h
    obtain ⟨its, rv, ⟨o, ho, hc, n, hd⟩, _⟩ := I.tuple (xs := [.ref b, kv.2]) (.inl (.inl h1))
    obtain ⟨u, y, ei, ru, ry⟩ := vals2 rv
    subst ei
    cases ru
    refine ⟨(kv.1, b, y) :: rs, .cons ⟨rfl, h2, ry⟩ r, by rw [List.length_cons, List.length_cons, hl], fun j q e => ?_⟩
    cases j with
    | zero =>
      have e' : (kv.1, b, y) = q := Option.some.inj e
      subst e'
      exact ⟨p, rfl, o, ho, hc, n, hd⟩
    | succ j =>
      obtain ⟨p', e1, e2⟩ := hp j q (by simpa using e)
      exact ⟨p', by simpa using e1, e2⟩
theorem kt_keys {P : Program} {w : World} {H : Hp} {h : Heap} (ok : HOk P w H h) : ∀ {l : List (List Key × V)} {m : List (List Key × Addr × Value)}, KT H l m → ∀ x ∈ m, (tupleKind (mixKind P w)).is h x.1 x.2.1 := by
  intro l m q
  induction q with
  | nil => intro x hx; exact nomatch hx
  | @cons p q ps qs hq t ih =>
    intro x hx
    rcases List.mem_cons.mp hx with e | hx
    · subst e
      exact key_of ok (by rw [← hq.1]; exact hq.2.1)
    · exact ih x hx
theorem cr_dictPT (hcalm : X.calm = true) (hu : X.A.units + 64 < cLine) : CallR X (.type "dict") (fun xs H Q => ∃ (a : Addr) (ps : List Addr) (kvs : List (List Key × V)), xs = [.ref a] ∧ SqL X.K H a (ps.map V.ref) ∧ Paired (fun p kv => ∃ b, H p = some (.tup [.ref b, kv.2]) ∧ H b = some (.tup (kv.1.map kV))) ps kvs ∧
    ∀ p, H p = none → Q (.ref p) (upd H p (.dT (mergeT [] kvs)))) := by
  intro pins s σ H xs us Q I r q
  obtain ⟨a, ps, kvs, rfl, hq, hp, q⟩ := q
  obtain ⟨u, rfl, rx⟩ := vals1 r
  cases rx
  obtain ⟨its, rv, pl, hz⟩ := I.list hq
  have ei := refs_at rv
  subst ei
  rw [List.length_map] at hz
  obtain ⟨rs, rel, hl, hpr⟩ := pairsT_of I hp
  have st : HeapKind.Stays (tupleKind (mixKind X.prog X.w)) := tupleKind_stays
  have hsz : (rs.map fun x : List Key × Addr × Value => (Value.ref x.2.1, x.2.2)).length = rs.length := List.length_map ..
  refine call_dict_pairsH (knd := tupleKind (mixKind X.prog X.w)) (ps := rs) (PairArg.list a (ps.map Value.ref).toArray (fun j => ps.getD j 0) (rs.map fun x => (Value.ref x.2.1, x.2.2))) (I.ok.hd hcalm) (by show X.A.units + 1 + 1 < cLine; omega) ⟨?_, ?_⟩ ⟨hsz.symm, ?_⟩ ?_ (by rw [hsz, hl]; exact hz) fun h' tk hd' k => ?_
  · obtain ⟨o, n, ho, hc, hd, hdat⟩ := pl
    exact ⟨o, n, ho, hc, hd, hdat⟩
  · refine ⟨by simp [hl], fun j k v e => ?_⟩
    rw [List.getElem?_map] at e
    cases e2 : rs[j]? with
    | none => rw [e2] at e; cases e
    | some x =>
      rw [e2] at e
      cases e
      obtain ⟨p, e3, e4⟩ := hpr j x e2
      refine ⟨by simp [e3], .inl ?_⟩
      show s.heap.IsTuple (ps.getD j 0) _
      rw [List.getD_eq_getElem?_getD, e3]
      exact e4
  · intro i key v e
    have e : (rs.map fun x : List Key × Addr × Value => (Value.ref x.2.1, x.2.2))[i]? = some (key, v) := e
    rw [List.getElem?_map] at e
    cases e2 : rs[i]? with
    | none => rw [e2] at e; cases e
    | some x => rw [e2] at e; cases e; exact ⟨x.1, x.2.1, rfl, rfl⟩
  · intro h' hk x hx
    refine st.stays (fun b o vs n e _ => hk b o (Nat.ne_of_lt (Heap.lt_size e)) (by simp) e) (kt_keys I.hok rel x hx)
  · have hm : (s.heap.objs.size == sysModules) = false := beq_eq_false_iff_ne.mpr (Nat.ne_of_gt I.big)
    have hlen : (mergeT [] kvs).length ≤ sizeLine := by
      refine Nat.le_trans (length_mergeT kvs []) ?_
      rw [List.length_nil, Nat.zero_add, Paired.length rel, hl]
      exact hz
    obtain ⟨o, es, ep, hq, h2, h3, h4, _, h5⟩ := hd'
    have hn := I.hok.fresh (Nat.le_refl s.heap.objs.size)
    refine ⟨.ref s.heap.objs.size, upd H s.heap.objs.size (.dT (mergeT [] kvs)), I.laid (t' := tk) (fun b o e => k b o (by simp) e) (Nat.le_refl _) (show ObjOk X.prog X.w _ _ _ (.dT (mergeT [] kvs)) from ⟨hlen, hm, _, (KT.merge rel .nil).keeps fun c ys ec => ?_, o, es, ep, hq, h2, h3, h4, h5⟩), rfl, q _ hn⟩
    rw [upd_ne (ne_of_none ec hn)]
    exact ec
/-! sorted(d), the keys tuples of numbers -/
theorem readsInts {h : Heap} : ∀ {l : List Int} {us : List Value}, Vals (l.map V.int) us → ReadsAll h us (l.map PyData.int) []
  | [], _, r => by rw [List.map_nil] at r; cases r; exact .nil
  | i :: l, _, r => by
    rw [List.map_cons] at r
    cases r with
    | cons h t =>
      obtain ⟨t', rfl⟩ := (show ∃ t', _ = Value.int i t' from h)
      exact ReadsAll.cons (as := []) (bs := []) (.int i t') (readsInts t)
theorem keysT_of {H : Hp} : ∀ {kvs : List (List Key × V)} {ws : List (List Key × Addr × Value)} {ks : List (List Int)}, KT H kvs ws → kvs.map (·.1) = ks.map (fun l => l.map Sum.inl) →
    ∃ bs : List (List Int × Addr), bs.map (·.1) = ks ∧ bs.map (fun b => Value.ref b.2) = ws.map (fun x => Value.ref x.2.1) ∧ ∀ b ∈ bs, H b.2 = some (.tup (b.1.map V.int))
  | _, _, [], .nil, _ => ⟨[], rfl, rfl, fun _ h => nomatch h⟩
  | _, _, _ :: _, .nil, e => nomatch e
  | _, _, [], .cons _ _, e => nomatch e
  | _, _, k :: ks, .cons (a := p) (b := x) h t, e => by
    rw [List.map_cons, List.map_cons] at e
    injection e with e1 e2
    obtain ⟨bs, b1, b2, b3⟩ := keysT_of t e2
    refine ⟨(k, x.2.1) :: bs, by simp [b1], by simp [b2], fun b hb => ?_⟩
    rcases List.mem_cons.mp hb with rfl | hb
    · have := h.2.1
      rw [e1, List.map_map] at this
      exact this
    · exact b3 b hb
theorem vals_refs2 : ∀ zs : List (List Int × Addr), Vals (zs.map fun z => V.ref z.2) (zs.map fun z => Value.ref z.2)
  | [] => .nil
  | z :: zs => .cons rfl (vals_refs2 zs)
theorem each_refs {R : Value → List Int × Addr → Prop} : ∀ {bs : List (List Int × Addr)}, (∀ b ∈ bs, R (.ref b.2) b) → PySem.W.EachIs R (bs.map fun b => Value.ref b.2) bs
  | [], _ => .nil
  | b :: bs, h => .cons (h b (by simp)) (each_refs fun c hc => h c (by simp [hc]))
theorem of_refs : ∀ {us : List Value} {bs : List (List Int × Addr)}, PySem.W.EachIs (fun u b => u = .ref b.2) us bs → us = bs.map fun b => Value.ref b.2
  | _, _, .nil => rfl
  | _, _, .cons h t => by rw [h, of_refs t]; rfl
theorem cr_sortedDT (hcalm : X.calm = true) (hu : X.A.units + 64 < cLine) : CallR X (.builtin "sorted") (fun xs H Q => ∃ (d : Addr) (kvs : List (List Key × V)) (ks : List (List Int)), xs = [.ref d] ∧ H d = some (.dT kvs) ∧ kvs.map (·.1) = ks.map (fun l => l.map Sum.inl) ∧ (∀ k ∈ ks, k ≠ []) ∧
    ∀ (zs : List (List Int × Addr)) p, (zs.map (·.1)).Perm ks → (zs.map (·.1)).Pairwise (fun a b => PySem.W.dataLe false (fun l : List Int => PyData.tuple (l.map .int)) a b = true) → (∀ z ∈ zs, H z.2 = some (.tup (z.1.map V.int))) → H p = none → Q (.ref p) (upd H p (.lst (zs.map fun z => .ref z.2)))) := by
  intro pins s σ H xs us Q I r h
  obtain ⟨d, kvs, ks, rfl, hd, hk, hne, q⟩ := h
  obtain ⟨u, rfl, rx⟩ := vals1 r
  cases rx
  obtain ⟨z, hs, ws, pr, o, es, ep, ho, hx, hdt, he, hn⟩ := (show ObjOk X.prog X.w H s.heap d (.dT kvs) from I.hok d _ hd)
  have l1 : es.size = ws.length := size_of_entries he
  have l2 : kvs.length = ws.length := Paired.length pr
  obtain ⟨bs, b1, b2, b3⟩ := keysT_of pr hk
  have l3 : bs.length = ws.length := by have := congrArg List.length b2; rwa [List.length_map, List.length_map] at this
  refine Calls.call_function_entry PyProof.Rows.kind_sorted PyProof.Rows.plain_sorted PyProof.Rows.entry_sorted (PyProof.Rows.args_sorted1 _) ?_
  unfold Builtin.«sorted»
  refine wpAny_bind (m := checkCount "sorted" 1 1 _) (wpAny_pure ?_)
  refine wpAny_bind (PySem.W.kdu_collect (A := X.A.in1) (kdl_raw hs hx hdt) (I.ok.hd hcalm) ho (by omega) fun h' tk acc kp it => ?_)
  have hal : acc.toList.length = ws.length := by rw [Array.length_toList, it.1]; exact l1
  have ea : acc.toList = bs.map fun b => Value.ref b.2 := by
    rw [b2]
    apply List.ext_getElem?
    intro j
    rw [List.getElem?_map]
    cases hj : acc.toList[j]? with
    | none =>
      have h1 := List.getElem?_eq_none_iff.mp hj
      rw [List.getElem?_eq_none (by omega)]
      all_goals rfl
    | some v =>
      obtain ⟨en, hen, hv⟩ := it.2 j v (by rw [← Array.getElem?_toList]; exact hj)
      have qe := entry_at he j
      rw [hen] at qe
      cases hb : ws[j]? with
      | none => rw [hb] at qe; exact nomatch (show some en = none from qe)
      | some b =>
        rw [hb] at qe
        have e2 : en = entryOfKey (tupleKind (mixKind X.prog X.w)) b := Option.some.inj qe
        rw [hv, e2]
        all_goals rfl
  have I1 : Inv X pins σ H { s with heap := h', toks := tk } := I.kept kp
  rw [ea]
  refine wpAny_bind (wpAny_newList ?_ (by rw [List.length_map]; omega))
  have hoL : (h'.push (seqObj "list" (bs.map fun b => Value.ref b.2).toArray 0)).get? h'.objs.size = some (seqObj "list" (bs.map fun b => Value.ref b.2).toArray 0) := Heap.get?_push_size _ rfl
  show wpAny _ _ _ _ _ { s with heap := h'.push (seqObj "list" (bs.map fun b => Value.ref b.2).toArray 0), toks := tk }
  have er : PySem.W.EachIs (fun v b => ∃ as, Reads (h'.push (seqObj "list" (bs.map fun b => Value.ref b.2).toArray 0)) v (PyData.tuple (b.1.map .int)) as ∧ h'.objs.size ∉ as) (bs.map fun b => Value.ref b.2) bs := by
    refine each_refs fun b hb => ⟨[], ?_, by simp⟩
    obtain ⟨its, rv, ⟨ob, eb, hc, n, hdd⟩, _⟩ := I1.tuple (xs := b.1.map V.int) (.inl (.inl (b3 b hb)))
    exact .tuple (Heap.get?_push_of_some _ eb) hc hdd (readsInts rv)
  refine wpAny_bind (wpAny_holding (PySem.W.list_sort_data (s := { s with heap := h'.push (seqObj "list" (bs.map fun b => Value.ref b.2).toArray 0), toks := tk }) (R := fun u b => u = .ref b.2) (enc := fun b : List Int × Addr => PyData.tuple (b.1.map .int)) hoL (each_refs fun b _ => rfl) er ?_ ?_ (by omega) ?_ fun out hlen eo => ?_))
  · exact PySem.W.AllAlike.of fun b b' => by
      show PySem.W.alike (.tuple (b.1.map .int)) (.tuple (b'.1.map .int)) = true
      rw [PySem.W.alike]; exact PySem.W.alike_ints _ _
  · refine .inl fun dd hdd => ?_
    obtain ⟨b, hb, rfl⟩ := List.mem_map.mp hdd
    have : b.1 ≠ [] := hne _ (by rw [← b1]; exact List.mem_map.mpr ⟨b, hb, rfl⟩)
    cases e : b.1 with
    | nil => exact absurd e this
    | cons x r => exact ⟨.int x, r.map .int, rfl⟩
  · intro b _
    show X.A.units + 1 + 1 + (PyData.tuple (b.1.map .int)).depth < cLine
    have : (PyData.tuple (b.1.map .int)).depth = 1 := by rw [PyData.depth, PySem.W.depth_ints]
    omega
  · have eo' := of_refs eo
    subst eo'
    obtain ⟨e', he'⟩ := PyProof.Rows.sortedHeap_at (vs := bs.map fun b => Value.ref b.2) (out := (List.toArray ((bs.mergeSort (PySem.W.dataLe false fun b : List Int × Addr => PyData.tuple (b.1.map .int))).map fun b => Value.ref b.2))) hoL
    generalize hzs : bs.mergeSort (PySem.W.dataLe false fun b : List Int × Addr => PyData.tuple (b.1.map .int)) = zs at *
    have pz : zs.Perm bs := by rw [← hzs]; exact List.mergeSort_perm _ _
    have tot : PySem.W.TotalLe (PySem.W.dataLe false (fun b : List Int × Addr => PyData.tuple (b.1.map .int))) := PySem.W.sortLe_total _ false _
    have sz := List.pairwise_mergeSort (le := PySem.W.dataLe false (fun b : List Int × Addr => PyData.tuple (b.1.map .int))) tot.trans (fun a b => by rw [Bool.or_eq_true]; exact tot.total a b) bs
    rw [hzs] at sz
    have lz : zs.length = bs.length := pz.length_eq
    have hlen2 : (zs.map fun z => V.ref z.2).length ≤ sizeLine := by rw [List.length_map]; omega
    have rv : Vals (zs.map fun z => V.ref z.2) (zs.map fun z => Value.ref z.2) := vals_refs2 zs
    refine wpAny_pure ⟨_, rfl, .ref h'.objs.size, upd H h'.objs.size (.lst (zs.map fun z => V.ref z.2)), I1.laid (t' := tk) (fun b u e => ?_) (Nat.le_refl _) (show ObjOk X.prog X.w _ _ _ (.lst (zs.map fun z => V.ref z.2)) from ⟨hlen2, _, e', rv, he'⟩), rfl,
      q zs _ (by rw [← b1]; exact pz.map _) (List.pairwise_map.mpr sz) (fun z hz => b3 z (pz.mem_iff.mp hz)) (I1.hok.fresh (Nat.le_refl _))⟩
    have hb : b < h'.objs.size := Heap.lt_size e
    rw [PyProof.Rows.sortedHeap_old (Nat.ne_of_lt hb) (by rw [size_push']; exact Nat.lt_succ_of_lt hb)]
    exact Heap.get?_push_of_some _ e
end
end L2

namespace DL
open PySem PySem.Spec L2
open PyProof.Rows hiding St
section
variable {X : Cx}
def dGetT : DM := fun x ds G Q => match x, ds with
  | .ref a, [y, d] => ∃ kvs k, G a = some (.dt kvs) ∧ keyT y = some k ∧ Q ((valD kvs k).getD d) G
  | _, _ => False
theorem m_getT (hu : X.A.units + 64 < cLine) : MtD X "dict.get" dGetT := by
  rintro pins s σ H x xs v us Q I rx rs ⟨dx, ds, G, P, vx, vs, wg, h, k⟩
  match dx, ds, vx, vs, h with
  | .ref a, [y, d], .ref _, .cons vy (.cons vd .nil), ⟨kvs, kk, ga, hk, h⟩ =>
    obtain ⟨ws, ha, kr⟩ := wg _ _ ga
    obtain ⟨b, rfl, eb⟩ := vy.keyT hk
    cases hv : valD kvs kk with
    | none =>
      rw [hv] at h
      exact mt_dgetT (by omega) pins s σ H _ _ v us Q I rx rs ⟨a, b, ws, kk, _, rfl, rfl, ha, eb, by rw [kr.none hv]; exact k _ _ _ _ h wg Ext.refl vd⟩
    | some z =>
      rw [hv] at h
      obtain ⟨w, hw, rw'⟩ := kr.val hv
      exact mt_dgetT (by omega) pins s σ H _ _ v us Q I rx rs ⟨a, b, ws, kk, _, rfl, rfl, ha, eb, by rw [hw]; exact k _ _ _ _ h wg Ext.refl rw'⟩
def dSetdT : DM := fun x ds G Q => match x, ds with
  | .ref a, [y, d] => ∃ kvs k, G a = some (.dt kvs) ∧ keyT y = some k ∧ kvs.length < sizeLine ∧ (∀ v, valD kvs k = some v → Q v G) ∧ (valD kvs k = none → Q d (gup G a (.dt (putD kvs k d))))
  | _, _ => False
theorem m_setdT (hu : X.A.units + 64 < cLine) : MtD X "dict.setdefault" dSetdT := by
  rintro pins s σ H x xs v us Q I rx rs ⟨dx, ds, G, P, vx, vs, wg, h, k⟩
  match dx, ds, vx, vs, h with
  | .ref a, [y, d], .ref _, .cons vy (.cons (v := vy0) vd .nil), ⟨kvs, kk, ga, hk, hl, h1, h2⟩ =>
    obtain ⟨ws, ha, kr⟩ := wg _ _ ga
    obtain ⟨b, rfl, eb⟩ := vy.keyT hk
    refine mt_dsetdT (by omega) pins s σ H _ _ v us Q I rx rs ⟨a, b, ws, kk, _, rfl, rfl, ha, eb, by rw [kr.len]; exact hl, fun v0 hv => ?_, fun hv => ?_⟩
    · cases hd : valD kvs kk with
      | none => rw [kr.none hd] at hv; cases hv
      | some z =>
        obtain ⟨w, hw, rw'⟩ := kr.val hd
        rw [hw] at hv
        cases hv
        exact k _ _ _ _ (h1 z hd) wg Ext.refl rw'
    · have hd : valD kvs kk = none := by
        have := kr.isSome (k := kk)
        rw [hv] at this
        cases e : valD kvs kk with
        | none => rfl
        | some z => rw [e] at this; cases this
      have x0 : Ext G H (gup G a (.dt (putD kvs kk d))) (upd H a (.dT (putK ws kk vy0))) := Ext.setC ga
      exact k _ _ _ _ (h2 hd) (wg.put (.inr ⟨_, ga⟩) ⟨_, upd_same, (kr.put vd).ext wg x0⟩) x0 (vd.ext wg x0)
theorem room_u5 {k : Nat} {A : Around} (hr : Room k A) : A.units + 65 < cLine := by have := hr.un; omega
def dClear : DM := fun x ds G Q => match x, ds with
  | .ref a, [] => ∃ l, G a = some (.lst l) ∧ Q .non (gup G a (.lst []))
  | _, _ => False
theorem m_clear : MtD X "list.clear" dClear := by
  rintro pins s σ H x xs v us Q I rx rs ⟨dx, ds, G, P, vx, vs, wg, h, k⟩
  match dx, ds, vx, vs, h with
  | .ref a, [], .ref _, .nil, ⟨l, ga, h⟩ =>
    obtain ⟨ys, ha, ra⟩ := wg _ _ ga
    exact mt_clear pins s σ H _ _ v us Q I rx rs ⟨a, ys, rfl, rfl, ha, k _ _ _ _ h (wg.setL ga .nil) (Ext.setC ga) .non⟩
theorem x_clear {e : Addr} {l : List DV} {G : Gh} {Q : DV → Gh → Prop} (he : G e = some (.lst l)) (q : ∀ G1, Old e G G1 → G1 e = some (.lst []) → Q .non G1) : dClear (.ref e) [] G Q := ⟨l, he, q _ Old.set gup_same⟩
/-- dict(pairs), the keys tuples -/
def dDictPT : DC := fun ds G Q => match ds with
  | [.ref a] => ∃ kvs : List (DV × List Key × DV), G a = some (.lst (kvs.map fun t => .tup [t.1, t.2.2])) ∧ (∀ t ∈ kvs, keyT t.1 = some t.2.1) ∧ ∀ p, G p = none → Q (.ref p) (gup G p (.dt (mergeD [] (kvs.map (·.2)))))
  | _ => False
theorem KR_mergeT {K : PySem.W.Frag} {H : Hp} : ∀ {us : List (List Key × V)} {ds : List (List Key × DV)} {xs : List (List Key × V)} {ys : List (List Key × DV)}, KR K H us ds → KR K H xs ys → KR K H (L2.mergeT xs us) (mergeD ys ds) := by
  intro us ds xs ys h
  induction h generalizing xs ys with
  | nil => exact fun r => r
  | @cons k v d us ds hv t ih =>
    intro r
    exact ih (r.put hv)
theorem prsT {K : PySem.W.Frag} {H : Hp} : ∀ {kvs : List (DV × List Key × DV)} {us : List V}, VRs K H us (kvs.map fun t => .tup [t.1, t.2.2]) → (∀ t ∈ kvs, keyT t.1 = some t.2.1) →
    ∃ (ps : List Addr) (ws : List (List Key × V)), us = ps.map V.ref ∧ Paired (fun p kv => ∃ b, H p = some (.tup [.ref b, kv.2]) ∧ H b = some (.tup (kv.1.map kV))) ps ws ∧ KR K H ws (kvs.map (·.2))
  | [], _, r, _ => by cases r; exact ⟨[], [], rfl, .nil, .nil⟩
  | t :: kvs, _, r, hk => by
    cases r with
    | cons r1 rs =>
      obtain ⟨ps, ws, rfl, pr, kr⟩ := prsT rs fun u hu => hk u (by simp [hu])
      cases r1 with
      | tup h1 h2 =>
        cases h2 with
        | cons k1 k2 =>
          cases k2 with
          | cons k2 k3 =>
            cases k3
            obtain ⟨b, rfl, eb⟩ := k1.keyT (hk t (by simp))
            exact ⟨_ :: ps, (t.2.1, _) :: ws, rfl, .cons ⟨b, h1, eb⟩ pr, .cons k2 kr⟩
theorem c_dictPT (hc : X.calm = true) (hu : X.A.units + 64 < cLine) : CallD X (.type "dict") dDictPT := by
  rintro pins s σ H xs us Q I rs ⟨ds, G, P, vs, wg, h, k⟩
  match ds, vs, h with
  | [.ref a], .cons (.ref _) .nil, ⟨kvs, ga, hk, h⟩ =>
    obtain ⟨ws, ha, vr⟩ := wg _ _ ga
    obtain ⟨ps, zs, rfl, pr, kr⟩ := prsT vr hk
    exact cr_dictPT hc hu pins s σ H _ us Q I rs ⟨a, ps, zs, rfl, SqL.of ha, pr, fun p np => k _ _ _ _ (h p (wg.non np)) (wg.put (.inl np) ⟨_, upd_same, (KR_mergeT kr .nil).ext wg (Put.ext (.inl np) (c := .dt (mergeD [] (kvs.map (·.2)))))⟩) (Ext.newC np) (.ref p)⟩
/-- sorted(d), the keys tuples of numbers -/
def rowLe (a b : List Int) : Bool := PySem.W.dataLe false (fun l : List Int => PyData.tuple (l.map .int)) a b
def dSortedDT : DC := fun ds G Q => match ds with
  | [.ref a] => ∃ (kvs : List (List Key × DV)) (ks : List (List Int)), G a = some (.dt kvs) ∧ kvs.map (·.1) = ks.map (fun l => l.map Sum.inl) ∧ (∀ k ∈ ks, k ≠ []) ∧
      ∀ (ys : List (List Int)) p, ys.Perm ks → ys.Pairwise (fun a b => rowLe a b = true) → G p = none → Q (.ref p) (gup G p (.lst (ys.map fun y => .tup (y.map .int))))
  | _ => False
theorem KR.fsts {K : PySem.W.Frag} {H : Hp} {κ : Type} : ∀ {xs : List (κ × V)} {ys : List (κ × DV)}, KR K H xs ys → xs.map (·.1) = ys.map (·.1)
  | _, _, .nil => rfl
  | _, _, .cons _ t => by rw [List.map_cons, List.map_cons, t.fsts]
theorem vrs_rows {K : PySem.W.Frag} {H : Hp} : ∀ {zs : List (List Int × Addr)}, (∀ z ∈ zs, H z.2 = some (.tup (z.1.map V.int))) → VRs K H (zs.map fun z => V.ref z.2) ((zs.map (·.1)).map fun y => DV.tup (y.map .int))
  | [], _ => .nil
  | z :: zs, h => .cons (.tup (h z (by simp)) (VRs.ints z.1)) (vrs_rows fun y hy => h y (by simp [hy]))
theorem c_sortedDT (hc : X.calm = true) (hu : X.A.units + 64 < cLine) : CallD X (.builtin "sorted") dSortedDT := by
  rintro pins s σ H xs us Q I rs ⟨ds, G, P, vs, wg, h, k⟩
  match ds, vs, h with
  | [.ref a], .cons (.ref _) .nil, ⟨kvs, ks, ga, hk, hne, h⟩ =>
    obtain ⟨ws, ha, kr⟩ := wg _ _ ga
    exact cr_sortedDT hc hu pins s σ H _ us Q I rs ⟨a, ws, ks, rfl, ha, kr.fsts.trans hk, hne, fun zs p hp hs hz np => k _ _ _ _ (h (zs.map Prod.fst) p hp hs (wg.non np)) (wg.newL np (vrs_rows hz)) (Ext.newC np) (.ref p)⟩
/-- x in a list of data -/
def dInL (neg : Bool) : D2 := fun y x G Q => ∃ d ds, DR G y d ∧ DR G x (.list ds) ∧ SeqAt.shaped d = true ∧ SeqAt.shaped (.list ds) = true ∧ Q (.bl (neg ^^ (ds.any fun z => PyData.eqv z d))) G
theorem o_inL (hu : X.A.units + 65 < cLine) : OpD X (compareOp .In) (dInL false) := by
  rintro pins s σ H y x v u Q I ry rx ⟨dy, dx, G, P, vy, vx, wg, ⟨d, ds, h1, h2, h3, h4, h⟩, k⟩
  exact op_inD hu pins s σ H _ _ v u Q I ry rx ⟨d, ds, h1.dp wg vy, h2.dp wg vx, h3, h4, op_end wg k h (by rw [Bool.false_xor]; exact .bl _)⟩
theorem o_notinL (hu : X.A.units + 65 < cLine) : OpD X (compareOp .NotIn) (dInL true) := by
  rintro pins s σ H y x v u Q I ry rx ⟨dy, dx, G, P, vy, vx, wg, ⟨d, ds, h1, h2, h3, h4, h⟩, k⟩
  exact op_notInD hu pins s σ H _ _ v u Q I ry rx ⟨d, ds, h1.dp wg vy, h2.dp wg vx, h3, h4, op_end wg k h (by rw [Bool.true_xor]; exact .bl _)⟩
end
theorem drRows {G : Gh} : ∀ rows : List (List Int), DRs G (rows.map fun r => .tup (r.map .int)) (rows.map fun r => PyData.tuple (r.map .int))
  | [] => .nil
  | r :: rows => .cons (drTI r) (drRows rows)
theorem anyRows (l : List Int) : ∀ rows : List (List Int), ((rows.map fun r => PyData.tuple (r.map .int)).any fun z => PyData.eqv z (.tuple (l.map .int))) = decide (l ∈ rows)
  | [] => by simp
  | r :: rows => by
    rw [List.map_cons, List.any_cons, anyRows l rows, eqvTI]
    by_cases h : r = l
    · subst h; simp
    · rw [decide_eq_false h, Bool.false_or]
      have : (l ∈ r :: rows) ↔ l ∈ rows := by
        rw [List.mem_cons]
        exact ⟨fun q => q.elim (fun e => absurd e.symm h) id, .inr⟩
      simp only [this]
theorem depthRows : ∀ rows : List (List Int), PyData.depthAll (rows.map fun r => PyData.tuple (r.map .int)) ≤ 1
  | [] => by simp [PyData.depthAll]
  | r :: rows => by
    have h := depthRows rows
    simp only [List.map_cons, PyData.depthAll, PyData.depth, PySem.W.depth_ints]
    omega
theorem shapedRows (rows : List (List Int)) : SeqAt.shaped (.list (rows.map fun r => PyData.tuple (r.map .int))) = true := by
  have h0 : ∀ rows : List (List Int), PyData.canLayAll0 (rows.map fun r => PyData.tuple (r.map .int)) = true := fun rows => by
    induction rows with
    | nil => simp [PyData.canLayAll0]
    | cons r rows ih => simp only [List.map_cons, PyData.canLayAll0, PyData.canLay0, PySem.W.ke_canLayAll0, ih]; rfl
  have h := depthRows rows
  simp only [SeqAt.shaped, PyData.canLay0, PyData.depth, h0]
  simp; omega
section
variable {G : Gh} {Q : DV → Gh → Prop} {e : Addr}
theorem s_inRows {l : List Int} {rows : List (List Int)} (he : G e = some (.lst (rows.map fun r => .tup (r.map .int)))) (q : Q (.bl (decide (l ∈ rows))) G) : dInL false (.tup (l.map .int)) (.ref e) G Q :=
  ⟨_, _, drTI l, .ref he (drRows rows), shapedTI l, shapedRows rows, by rw [anyRows, Bool.false_xor]; exact q⟩
theorem s_ninRows {l : List Int} {rows : List (List Int)} (he : G e = some (.lst (rows.map fun r => .tup (r.map .int)))) (q : Q (.bl (!decide (l ∈ rows))) G) : dInL true (.tup (l.map .int)) (.ref e) G Q :=
  ⟨_, _, drTI l, .ref he (drRows rows), shapedTI l, shapedRows rows, by rw [anyRows, Bool.true_xor]; exact q⟩
theorem x_getDt {kvs : List (List Key × DV)} {y d : DV} {k : List Key} (he : G e = some (.dt kvs)) (hk : keyT y = some k) (q : Q ((valD kvs k).getD d) G) : dGetT (.ref e) [y, d] G Q := ⟨kvs, k, he, hk, q⟩
theorem x_setdT {kvs : List (List Key × DV)} {y d : DV} {k : List Key} (he : G e = some (.dt kvs)) (hk : keyT y = some k) (hl : kvs.length < sizeLine) (h1 : ∀ v, valD kvs k = some v → Q v G)
    (h2 : valD kvs k = none → ∀ G1, Old e G G1 → G1 e = some (.dt (putD kvs k d)) → Q d G1) : dSetdT (.ref e) [y, d] G Q := ⟨kvs, k, he, hk, hl, h1, fun hn => h2 hn _ Old.set gup_same⟩
theorem x_dictPT {kvs : List (DV × List Key × DV)} (he : G e = some (.lst (kvs.map fun t => .tup [t.1, t.2.2]))) (hk : ∀ t ∈ kvs, keyT t.1 = some t.2.1) (q : ∀ p G1, G p = none → Sub G G1 → G1 p = some (.dt (mergeD [] (kvs.map (·.2)))) → Q (.ref p) G1) : dDictPT [.ref e] G Q :=
  ⟨kvs, he, hk, fun p np => q p _ np (Sub.new np) gup_same⟩
theorem x_sortedDT {kvs : List (List Key × DV)} {ks : List (List Int)} (he : G e = some (.dt kvs)) (hk : kvs.map (·.1) = ks.map (fun l => l.map Sum.inl)) (hne : ∀ k ∈ ks, k ≠ []) (q : ∀ (ys : List (List Int)) p G1, ys.Perm ks → ys.Pairwise (fun a b => rowLe a b = true) → G p = none → Sub G G1 → G1 p = some (.lst (ys.map fun y => .tup (y.map .int))) → Q (.ref p) G1) : dSortedDT [.ref e] G Q :=
  ⟨kvs, ks, he, hk, hne, fun ys p hp hs np => q ys p _ hp hs np (Sub.new np) gup_same⟩
end
/-- [x for x in xs if ..], the test unknown -/
theorem lcT_sub {α : Type} {stay : Gh → Prop} {g : DG} {tt : DT} {te : DE} {env : Dv} {Q : DV → Gh → Prop} {xs : List α} {G : Gh} (enc : α → DV) (R : Nat → Gh → Prop) (h0 : R 0 G) (hs : ∀ i G, R i G → stay G) (hn : xs.length ≤ sizeLine)
    (ht : ∀ i a G (K : DV → Gh → Prop) (K2 : Gh → Prop), xs[i]? = some a → a ∈ xs → R i G → (∀ G1, R (i + 1) G1 → K (enc a) G1) → (∀ G1, R (i + 1) G1 → K2 G1) → g (enc a) env G fun env1 G1 => tt (fun _ _ _ => False) env1 G1 fun b G2 => if b = true then te (fun _ _ _ => False) env1 G2 K else K2 G2)
    (he : ∀ G (bs : List α), R xs.length G → (∀ b ∈ bs, b ∈ xs) → bs.length ≤ xs.length → ∀ p G1, G p = none → Sub G G1 → G1 p = some (.lst (bs.map enc)) → Q (.ref p) G1) : lcL stay g tt te env Q (xs.map enc) [] G := by
  refine lcL_inv (fun i acc G => (∃ bs : List α, acc = bs.map enc ∧ bs.length ≤ i ∧ ∀ b ∈ bs, b ∈ xs) ∧ R i G) ⟨⟨[], rfl, Nat.le_refl _, fun b h => nomatch h⟩, h0⟩ (fun i acc G _ h => hs i G h.2) (fun i d acc G K e hi ⟨⟨bs, ea, el, eb⟩, r⟩ k => ?_)
    (fun acc G ⟨⟨bs, ea, el, eb⟩, r⟩ p hp => he G bs (by rw [List.length_map] at r; exact r) eb (by rw [List.length_map] at el; exact el) p _ hp (Sub.new hp) (by rw [← ea]; exact gup_same))
  obtain ⟨a, e', rfl⟩ := map_get e
  rw [List.length_map] at hi
  exact ht i a G (fun y G3 => acc.length < sizeLine ∧ K (acc ++ [y]) G3) (K acc) e' (List.mem_of_getElem? e') r
    (fun G1 r1 => ⟨by rw [ea, List.length_map]; omega, k _ _ ⟨⟨bs ++ [a], by rw [ea]; simp, by simp; omega, fun b hb => by
      rcases List.mem_append.mp hb with hb | hb
      · exact eb b hb
      · rw [List.mem_singleton.mp hb]; exact List.mem_of_getElem? e'⟩, r1⟩⟩)
    (fun G1 r1 => k _ _ ⟨⟨bs, ea, by omega, eb⟩, r1⟩)
section
variable {X : Cx} {W : WX} {pos : Pos} {Y : DX} {env : Dv} {G : Gh} {Q : DV → Gh → Prop}
/-- {}, its keys to be tuples -/
def wDnewT : DE := fun _ _ G Q => ∀ p, G p = none → Q (.ref p) (gup G p (.dt []))
theorem q_dnewT : QE X W (.Dict [] [] pos) wDnewT :=
  ⟨PE.wk pe_dnewT fun σ H Q ⟨Y, env, G, P, er, wg, h, k, kx⟩ p hp => k _ _ _ _ (h p (wg.non hp)) (wg.put (.inl hp) ⟨[], upd_same, .nil⟩) (Ext.newC hp) (.ref p)⟩
theorem x_dnewT (q : ∀ p G1, G p = none → Sub G G1 → G1 p = some (.dt []) → Q (.ref p) G1) : wDnewT Y env G Q := fun p hp => q p _ hp (Sub.new hp) gup_same
end
end DL

namespace DL
open PySem PySem.Spec L2
open PyProof.Rows hiding St
variable [Cls]
/-! ### defs handed over as values, and called by a local name -/
theorem ConstAt.fn {K : PySem.W.Frag} {mg : Str → Option Value} {x : Str} {a : Addr} (h : mg x = some (.ref a)) : ConstAt K mg x (.ref a) := ⟨_, .ref a, h, rfl, fun H => .ref a⟩
/-- the defs that a local name may hold -/
inductive Fvs (P : Program) (w : World) (K : PySem.W.Frag) (mg : Str → Option Value) (base : Heap) (j : Nat) : List (Str × DF) → Prop
  | nil : Fvs P w K mg base j []
  | cons {x : Str} {ps : List Str} {d : DF} {k : Nat} {T : List (Str × DF)} : Has P w K mg base k x ps d → mg x = some (.ref (Cls.adr x)) → k ≤ j → Fvs P w K mg base j T → Fvs P w K mg base j ((x, d) :: T)
theorem Fvs.get {P : Program} {w : World} {K : PySem.W.Frag} {mg : Str → Option Value} {base : Heap} {j : Nat} {x : Str} {d : DF} : ∀ {T : List (Str × DF)}, Fvs P w K mg base j T → (x, d) ∈ T → ∃ (k : Nat) (ps : List Str), Has P w K mg base k x ps d ∧ mg x = some (.ref (Cls.adr x)) ∧ k ≤ j
  | _, .nil, h => by simp at h
  | _, .cons a b c t, h => by
    rcases List.mem_cons.mp h with h | h
    · cases h; exact ⟨_, _, a, b, c⟩
    · exact t.get h
def wCallV (i : Nat) (T : List (Str × DF)) (wr : DA) : DE := fun Y env G Q => ∃ (n : Str) (d : DF), env[i]? = some (some (.ref (Cls.adr n))) ∧ (n, d) ∈ T ∧ wr Y env G fun ds G1 => d ds G1 Q Y
section
variable {X : Cx} {W : WX} {i : Nat} {x : Str} {p pos : Pos} {e : Expr} {es : List Expr} {wr : DA} {T : List (Str × DF)} {j : Nat}
theorem VR.refA {K : PySem.W.Frag} {H : Hp} {v : V} {a : Addr} (r : VR K H v (.ref a)) : v = .ref a := by cases r; rfl
theorem q_callV (F : Fvs X.prog X.w X.K X.mg X.base j T) (hgd : X.A.guards = some []) (hr : Room j X.A) (tk : Takes X W) (ha : QA X W (e :: es) wr) (hN : X.N[i]? = some x := by rfl) (hv : Vis X.env.scope x := by first | exact Or.inl rfl | exact Or.inr (Or.inl rfl) | exact Or.inr (Or.inr rfl))
    (hdb : (x == ("__debug__" : Str)) = false := by decide) (hcd : (x == ("__classdict__" : Str)) = false := by decide)
    (he : starEach (e :: es) X.env = (false, eval e X.env) :: starEach es X.env := by rfl) (hpl : (backTo pos (starEach es X.env)).any (·.1) = false := by rfl) :
    QE X W (.Call (.Name x p) (e :: es) [] pos) (wCallV i T wr) := by
  refine ⟨⟨?_⟩⟩
  rintro pins s σ H Q I ⟨Y, env, G, P, er, wg, ⟨n, d, hs, hT, h⟩, kq, kx⟩
  obtain ⟨k, ps, Fh, hm, hk⟩ := F.get hT
  obtain ⟨f, fd, F, m, kp, b⟩ := Fh.ex
  have hf : f = Cls.adr n := by
    rw [hm] at m
    have := Option.some.inj m
    cases this; rfl
  subst hf
  obtain ⟨v, hsv, rv⟩ := er.get hs
  have := rv.refA
  subst this
  refine wpAny_Call_Name_kw (thn ((pe_var (pos := p) hN hv hdb hcd).run pins s σ H (fun v H1 => v = .ref (Cls.adr n) ∧ H1 = H) I ⟨_, hsv, rfl, rfl⟩) fun u s1 ⟨v, H1, I1, r1, q1⟩ => ?_)
  obtain ⟨rfl, rfl⟩ := q1
  cases r1
  refine PySem.W.callWith_K (h₀ := X.base) I.ok.mod.kin kp ?_ he hpl
  refine thn (ha.pa.run pos pins s1 σ _ (fun vs H1 => liftF X.K d vs H1 Q (WE W σ)) I1 ⟨Y, env, G, _, er, wg, h, fun ds G1 vs H1 h1 w1 x1 r1 => ?_, kx⟩) ?_
  · exact ⟨ds, G1, P, Y, r1, w1, h1, fun r G' v H' q w' x' r' => kq r G' v H' q w' (x1.trans x') r', kx.step x1⟩
  · rintro us s2 ⟨vs, H2, I2, r, q⟩
    exact ⟨I2.kIn, run_call F hgd (hr.mono hk) b tk I2 r q⟩
theorem s_callV {Y : DX} {env : Dv} {G : Gh} {Q : DV → Gh → Prop} (n : Str) (d : DF) (hs : env[i]? = some (some (.ref (Cls.adr n)))) (hT : (n, d) ∈ T) (q : wr Y env G fun ds G1 => d ds G1 Q Y) : wCallV i T wr Y env G Q := ⟨n, d, hs, hT, q⟩
end
end DL

namespace DL
open PySem PySem.Spec L2
open PyProof.Rows hiding St
/-! ### texts: a sign by its place, int of a text, split, join -/
section
variable {X : Cx}
def dIntZ : DC := fun ds G Q => match ds with
  | [.str a] => ∃ n, PySem.intText? a = some n ∧ a.length ≤ 640 ∧ Q (.int n) G
  | _ => False
theorem c_intZ : CallD X (.type "int") dIntZ := by
  rintro pins s σ H xs us Q I rs ⟨ds, G, P, vs, wg, h, k⟩
  match ds, vs, h with
  | [.str a], .cons (.str _) .nil, ⟨n, hn, hl, h⟩ => exact call_int_str pins s σ H _ us Q I rs ⟨a, n, rfl, hn, hl, op_end wg k h (.int _)⟩
def dSplit : DM := fun x ds G Q => match x, ds with
  | .str a, [.str b] => (b.length == 0) = false ∧ a.length + 2 ≤ sizeLine ∧ ∀ p, G p = none → Q (.ref p) (gup G p (.lst ((Txt.split a b).map .str)))
  | _, _ => False
theorem vrs_strs {K : PySem.W.Frag} {H : Hp} : ∀ ys : List Str, VRs K H (ys.map V.str) (ys.map DV.str)
  | [] => .nil
  | y :: ys => .cons (.str y) (vrs_strs ys)
theorem strs_vrs {K : PySem.W.Frag} {H : Hp} : ∀ {ys : List Str} {vs : List V}, VRs K H vs (ys.map DV.str) → vs = ys.map V.str
  | [], _, .nil => rfl
  | y :: ys, _, .cons (.str _) t => by rw [strs_vrs t]; rfl
theorem m_split : MtD X "str.split" dSplit := by
  rintro pins s σ H x xs v us Q I rx rs ⟨dx, ds, G, P, vx, vs, wg, h, k⟩
  match dx, ds, vx, vs, h with
  | .str a, [.str b], .str _, .cons (.str _) .nil, ⟨hb, hz, h⟩ =>
    exact mt_split pins s σ H _ _ v us Q I rx rs ⟨a, b, rfl, rfl, hb, hz, fun p np => k _ _ _ _ (h p (wg.non np)) (wg.newL np (vrs_strs _)) (Ext.newC np) (.ref p)⟩
def dJoin : DM := fun x ds G Q => match x, ds with
  | .str a, [.ref p] => ∃ ys : List Str, G p = some (.lst (ys.map .str)) ∧ (ys.map (·.length)).sum + ys.length * a.length ≤ 16777216 ∧ Q (.str (Txt.join a ys)) G
  | _, _ => False
theorem m_join : MtD X "str.join" dJoin := by
  rintro pins s σ H x xs v us Q I rx rs ⟨dx, ds, G, P, vx, vs, wg, h, k⟩
  match dx, ds, vx, vs, h with
  | .str a, [.ref p], .str _, .cons (.ref _) .nil, ⟨ys, gp, hz, h⟩ =>
    obtain ⟨zs, hp, r⟩ := wg _ _ gp
    rw [strs_vrs r] at hp
    exact mt_join pins s σ H _ _ v us Q I rx rs ⟨a, p, ys, rfl, rfl, .inl (SqL.of hp), hz, op_end wg k h (.str _)⟩
end
section
variable {G : Gh} {Q : DV → Gh → Prop} {z a b : Str} {i : Int}
theorem s_intZ {n : Int} (hn : PySem.intText? a = some n) (hl : a.length ≤ 640) (q : Q (.int n) G) : dIntZ [.str a] G Q := ⟨n, hn, hl, q⟩
theorem x_split (hb : (b.length == 0) = false) (hz : a.length + 2 ≤ sizeLine) (q : ∀ p G1, G p = none → Sub G G1 → G1 p = some (.lst ((Txt.split a b).map .str)) → Q (.ref p) G1) : dSplit (.str a) [.str b] G Q := ⟨hb, hz, fun p hp => q p _ hp (Sub.new hp) gup_same⟩
theorem s_joinL {p : Addr} {ys : List Str} (hp : G p = some (.lst (ys.map .str))) (hz : (ys.map (·.length)).sum + ys.length * a.length ≤ 16777216) (q : Q (.str (Txt.join a ys)) G) : dJoin (.str a) [.ref p] G Q := ⟨ys, hp, hz, q⟩
end
/-! ### split of joined texts -/
theorem str_ext {x y : Str} (h : x.cps.toList = y.cps.toList) : x = y := by
  cases x; cases y
  simp only at h
  congr 1
  exact Array.toList_inj.mp h
theorem join_one {c : Nat} {x : Str} : Str.join ⟨#[c]⟩ [x] = x := rfl
theorem join_cps (c : Nat) (x y : Str) (r : List Str) : (Str.join ⟨#[c]⟩ (x :: y :: r)).cps.toList = x.cps.toList ++ c :: (Str.join ⟨#[c]⟩ (y :: r)).cps.toList := by
  show ((x.cps ++ #[c]) ++ (Str.join ⟨#[c]⟩ (y :: r)).cps).toList = _
  simp
theorem cut_eq {c : Nat} : ∀ {x y u v : List Nat}, c ∉ x → c ∉ y → x ++ c :: u = y ++ c :: v → x = y ∧ u = v
  | [], [], u, v, _, _, h => by simpa using h
  | [], b :: y, u, v, _, hy, h => by
    have h := (List.cons.inj (show c :: u = b :: (y ++ c :: v) from h)).1
    exact absurd (by rw [h]; exact List.mem_cons_self ..) hy
  | a :: x, [], u, v, hx, _, h => by
    have h := (List.cons.inj (show a :: (x ++ c :: u) = c :: v from h)).1
    exact absurd (by rw [h]; exact List.mem_cons_self ..) hx
  | a :: x, b :: y, u, v, hx, hy, h => by
    obtain ⟨h1, h2⟩ := List.cons.inj (show a :: (x ++ c :: u) = b :: (y ++ c :: v) from h)
    obtain ⟨h3, h4⟩ := cut_eq (fun m => hx (List.mem_cons_of_mem _ m)) (fun m => hy (List.mem_cons_of_mem _ m)) h2
    exact ⟨by rw [h1, h3], h4⟩
theorem join_inj {c : Nat} : ∀ {a b : List Str}, a ≠ [] → b ≠ [] → (∀ w ∈ a, c ∉ w.cps.toList) → (∀ w ∈ b, c ∉ w.cps.toList) → Str.join ⟨#[c]⟩ a = Str.join ⟨#[c]⟩ b → a = b
  | [], _, h, _, _, _, _ => absurd rfl h
  | _ :: _, [], _, h, _, _, _ => absurd rfl h
  | [x], [y], _, _, _, _, h => by rw [join_one, join_one] at h; rw [h]
  | [x], y :: z :: r, _, _, hx, _, h => by
    have h := congrArg (fun s : Str => s.cps.toList) h
    simp only [join_one, join_cps] at h
    exact absurd (by rw [h]; simp) (hx x (List.mem_cons_self ..))
  | x :: z :: r, [y], _, _, _, hy, h => by
    have h := congrArg (fun s : Str => s.cps.toList) h
    simp only [join_one, join_cps] at h
    exact absurd (by rw [← h]; simp) (hy y (List.mem_cons_self ..))
  | x :: x2 :: r, y :: y2 :: s, _, _, hx, hy, h => by
    have h := congrArg (fun s : Str => s.cps.toList) h
    simp only [join_cps] at h
    obtain ⟨h1, h2⟩ := cut_eq (hx x (List.mem_cons_self ..)) (hy y (List.mem_cons_self ..)) h
    have := join_inj (a := x2 :: r) (b := y2 :: s) (by simp) (by simp) (fun w hw => hx w (List.mem_cons_of_mem _ hw)) (fun w hw => hy w (List.mem_cons_of_mem _ hw)) (str_ext h2)
    rw [str_ext h1, this]
theorem split_join {c : Nat} {ws : List Str} (hne : ws ≠ []) (h : ∀ w ∈ ws, c ∉ w.cps.toList) : Txt.split (Txt.join ⟨#[c]⟩ ws) ⟨#[c]⟩ = ws := by
  have e : Txt.join ⟨#[c]⟩ ws = Str.join ⟨#[c]⟩ ws := StrLaws.glued_eq_join _ _
  have p := PyProof.Rows.split_pos (Txt.join ⟨#[c]⟩ ws) ⟨#[c]⟩
  refine join_inj (c := c) (fun z => by rw [z] at p; simp at p) hne (fun w hw => StrLaws.split_free _ c w hw) h ?_
  rw [StrLaws.join_split, e]
theorem join_split' (a : Str) (c : Nat) : Txt.join ⟨#[c]⟩ (Txt.split a ⟨#[c]⟩) = a := by
  have e : Txt.join ⟨#[c]⟩ (Txt.split a ⟨#[c]⟩) = Str.join ⟨#[c]⟩ (Txt.split a ⟨#[c]⟩) := StrLaws.glued_eq_join _ _
  rw [e, StrLaws.join_split]
end DL

namespace DL
open PySem PySem.Spec L2
open PyProof.Rows hiding St
/-! ### a text some times -/
section
variable {X : Cx}
theorem op_mulZ : OpR X (binaryOp .Mult) (fun x y H Q => ∃ (a : Str) (n : Int), x = .str a ∧ y = .int n ∧ PySem.MulOk a n ∧ Q (.str (Txt.mul a n)) H) := by
  intro pins s σ H x y v u Q I rx ry h
  obtain ⟨a, n, rfl, rfl, hok, q⟩ := h
  obtain ⟨t, rfl⟩ := rx
  obtain ⟨t', rfl⟩ := ry
  exact SB.mul hok fun t' k => ⟨.str _, H, I.tok k, ⟨t', rfl⟩, q⟩
def dMulZ : D2 := fun x y G Q => match x, y with
  | .str a, .int n => PySem.MulOk a n ∧ Q (.str (Txt.mul a n)) G
  | _, _ => False
theorem o_mulZ : OpD X (binaryOp .Mult) dMulZ := by
  rintro pins s σ H x y v u Q I rx ry ⟨dx, dy, G, P, vx, vy, wg, h, k⟩
  match dx, dy, vx, vy, h with
  | .str a, .int n, .str _, .int _, ⟨hok, h⟩ => exact op_mulZ pins s σ H _ _ v u Q I rx ry ⟨a, n, rfl, rfl, hok, op_end wg k h (.str _)⟩
end
theorem s_mulZ {G : Gh} {Q : DV → Gh → Prop} {a : Str} {n : Int} (h : PySem.MulOk a n) (q : Q (.str (Txt.mul a n)) G) : dMulZ (.str a) (.int n) G Q := ⟨h, q⟩
/-- one sign some times -/
theorem mul_sign {c : Nat} {m : Nat} (h : 1 ≤ m) (hm : m ≤ 1000000) : PySem.MulOk ⟨#[c]⟩ (m : Nat) ∧ (Txt.mul ⟨#[c]⟩ (m : Nat)).cps.toList = List.replicate m c := by
  have fl : ∀ (k : Nat) (acc : Array Nat), ((List.replicate k #[c]).foldl (· ++ ·) acc).toList = acc.toList ++ List.replicate k c := by
    intro k
    induction k with
    | zero => intro acc; simp
    | succ k ih => intro acc; rw [List.replicate_succ, List.foldl_cons, ih, List.replicate_succ]; simp
  constructor
  · refine ⟨by simp; omega, fun _ _ => ?_, fun _ _ => ?_⟩
    · show ¬ ((1 : Nat) : Int) > _
      have : (1 : Int) ≤ (2 ^ 63 - 1) / (m : Int) := (Int.le_ediv_iff_mul_le (by omega)).mpr (by omega)
      omega
    · show Builtin.Str.tooLong (1 * (m : Int).toNat) = false
      rw [Int.toNat_natCast, Nat.one_mul]
      unfold Builtin.Str.tooLong
      exact decide_eq_false (by have := sizeLine_eq; omega)
  · unfold Txt.mul
    rw [if_neg (by omega)]
    split
    · rename_i h1
      have : m = 1 := by
        simp only [Bool.or_eq_true, beq_iff_eq] at h1
        rcases h1 with h1 | h1
        · omega
        · exact absurd (show (1 : Nat) = 0 from h1) (by decide)
      subst this; rfl
    · rw [Int.toNat_natCast, fl]; simp
end DL

namespace DL
open PySem PySem.Spec L2
open PyProof.Rows hiding St
/-! ### instances of own classes: an attribute read -/
section
variable {X : Cx} {W : WX} {e : Expr} {we : DE} {pos : Pos} {n : Str} {C : Addr}
def flK (C : Addr) (n : Str) (Q : DV → Gh → Prop) (x : DV) (G1 : Gh) : Prop := match x with
  | .ref a => ∃ fs v, G1 a = some (.ins C fs) ∧ fs.lookup n = some v ∧ Q v G1
  | _ => False
def wFl (C : Addr) (n : Str) (we : DE) : DE := fun Y env G Q => we Y env G (flK C n Q)
theorem q_fl (hC : L2.Cls X.K C) (hn : L2.NoAttr X.K C n) (he : QE X W e we) (hat : attributeBase e n X.env (eval e X.env) = eval e X.env := by rfl) : QE X W (.Attribute e n pos) (wFl C n we) := by
  refine ⟨PE.wk (pe_fld he.pe hat) ?_⟩
  rintro σ H Q ⟨Y, env, G, P, er, wg, h, k, kx⟩
  refine ⟨Y, env, G, _, er, wg, h, fun x G1 v H1 h1 w1 x1 r1 => ?_, kx⟩
  cases x <;> first | exact h1.elim | skip
  obtain ⟨fs, v', ga, hv, q⟩ := h1
  cases r1
  obtain ⟨dx, xs, ha, _, fr⟩ := w1 _ _ ga
  obtain ⟨u, hu, ru⟩ := fr.look hv
  exact ⟨_, _, _, _, u, rfl, ha, hC, hn, hu, k _ _ _ _ q w1 x1 ru⟩
end
def putFd (f : Str) (d : DV) : List (Str × DV) → List (Str × DV)
  | [] => [(f, d)]
  | (g, x) :: r => if g = f then (g, d) :: r else (g, x) :: putFd f d r
theorem FR.putF {K : PySem.W.Frag} {H : Hp} {f : Str} {v : V} {d : DV} (r : VR K H v d) : ∀ {xs : List (Str × V)} {ys : List (Str × DV)}, FR K H xs ys → FR K H (L2.putF f v xs) (putFd f d ys)
  | _, _, .nil => .cons r .nil
  | _, _, .cons (k := g) q t => by
    unfold L2.putF putFd
    by_cases h : g = f
    · rw [if_pos h, if_pos h]; exact .cons r t
    · rw [if_neg h, if_neg h]; exact .cons q (t.putF r)
theorem FR.len {K : PySem.W.Frag} {H : Hp} : ∀ {xs : List (Str × V)} {ys : List (Str × DV)}, FR K H xs ys → xs.length = ys.length
  | _, _, .nil => rfl
  | _, _, .cons _ t => by simp [t.len]
def wStFl (C : Addr) (n : Str) (wo wv : DE) : DS := fun D env G => wv (fun C fs G' => D.ex C fs env G') env G fun y G1 => wo (fun C fs G' => D.ex C fs env G') env G1 fun x G2 => match x with
  | .ref a => ∃ fs, G2 a = some (.ins C fs) ∧ fs.length < 1000 ∧ D.nx env (gup G2 a (.ins C (putFd n y fs)))
  | _ => False
theorem qs_fl {X : Cx} {W : WX} {o value : Expr} {wo wv : DE} {pos pos' : Pos} {n : Str} {C : Addr} (hC : L2.Cls X.K C) (hn : L2.NoAttr X.K C n) (ho : QE X W o wo) (hv : QE X W value wv) (hs : swapsWith value (some (.Attribute o n pos')) pos.line X.env = pure false := by rfl) :
    QS X W (.Assign [.Attribute o n pos'] value pos) (wStFl C n wo wv) := by
  refine ⟨PS.wk (ps_fld ho.pe hv.pe hs) ?_⟩
  rintro D σ H ⟨env, G, De, er, wg, h, le⟩
  refine ⟨_, env, G, _, er, wg, h, fun y G1 v H1 h1 w1 x1 r1 => ⟨_, env, G1, _, er.ext wg x1, w1, h1, fun x G2 u H2 h2 w2 x2 r2 => ?_, (le.step x1).xle w1 (er.ext wg x1)⟩, le.xle wg er⟩
  cases x <;> first | exact h2.elim | skip
  obtain ⟨fs, ga, hl, q⟩ := h2
  cases r2
  obtain ⟨dx, xs, ha, hdx, fr⟩ := w2 _ _ ga
  have r1' := r1.ext w1 x2
  have hne : dx ≠ _ := fun e => by rw [e, ha] at hdx; cases hdx
  refine ⟨_, _, dx, xs, rfl, ha, hC, hn, by rw [fr.len]; exact hl, ?_⟩
  have px := x1.trans x2
  have w3 : WG X.K (gup G2 _ (.ins C (putFd n y fs))) (upd H2 _ (.ins C dx (L2.putF n v xs))) := w2.put (.inr ⟨_, ga⟩) ⟨dx, _, upd_same, (upd_ne hne).trans hdx, (fr.putF r1').ext w2 (Put.ext (c := .ins C (putFd n y fs)) (.inr ⟨_, ga⟩))⟩
  exact le.nx _ _ _ _ q (((er.ext wg px)).ext w2 (Ext.setC (c' := .ins C (putFd n y fs)) ga)) w3 (px.trans (Ext.setC ga))
theorem s_stFl {D : DEnds} {env : Dv} {G : Gh} {C : Addr} {n : Str} {wo wv : DE} (q : wv (fun C fs G' => D.ex C fs env G') env G fun y G1 => wo (fun C fs G' => D.ex C fs env G') env G1 fun x G2 => match x with
    | .ref a => ∃ fs, G2 a = some (.ins C fs) ∧ fs.length < 1000 ∧ D.nx env (gup G2 a (.ins C (putFd n y fs)))
    | _ => False) : wStFl C n wo wv D env G := q
theorem s_fl {Y : DX} {env : Dv} {G : Gh} {Q : DV → Gh → Prop} {C : Addr} {n : Str} {we : DE} (q : we Y env G (flK C n Q)) : wFl C n we Y env G Q := q
theorem s_flK {G : Gh} {Q : DV → Gh → Prop} {C a : Addr} {n : Str} {fs : List (Str × DV)} {v : DV} (ha : G a = some (.ins C fs)) (hv : fs.lookup n = some v) (q : Q v G) : flK C n Q (.ref a) G := ⟨fs, v, ha, hv, q⟩
/-! ### a method's call -/
def mtK (C : Addr) (d : DF) (wr : DA) (Y : DX) (env : Dv) (m : Str) (Q : DV → Gh → Prop) (x : DV) (G1 : Gh) : Prop := match x with
  | .ref a => ∃ fs, G1 a = some (.ins C fs) ∧ fs.lookup m = none ∧ wr Y env G1 fun ds G2 => d (.ref a :: ds) G2 Q Y
  | _ => False
def wMeth (C : Addr) (m : Str) (d : DF) (wo : DE) (wr : DA) : DE := fun Y env G Q => wo Y env G (mtK C d wr Y env m Q)
theorem FR.none {K : PySem.W.Frag} {H : Hp} {n : Str} : ∀ {xs : List (Str × V)} {ys : List (Str × DV)}, FR K H xs ys → ys.lookup n = none → xs.lookup n = none
  | _, _, .nil, _ => rfl
  | _, _, .cons (k := k) r t, h => by
    rw [List.lookup_cons] at h ⊢
    cases hk : n == k
    · rw [hk] at h; exact t.none h
    · rw [hk] at h; cases h
theorem q_meth {X : Cx} {W : WX} {o e : Expr} {es : List Expr} {wo : DE} {wr : DA} {m : Str} {C f : Addr} {fd : FuncData} {ps : List Str} {d : DF} {k : Nat} {pos apos : Pos} {pl : Sem Bool} (c : L2.Cls X.K C) (hm : L2.Meth X.K C m f) (F : FG X.prog X.w X.K X.mg X.base k f fd ps d) (hgd : X.A.guards = some []) (hr : Room k X.A) (hb : Binds X.K fd ps []) (tk : Takes X W)
    (ho : QE X W o wo) (ha : QA X W (e :: es) wr)
    (hst : starEach (e :: es) X.env = (false, eval e X.env) :: starEach es X.env := by rfl) (hpl : (backTo pos (starEach es X.env)).any (·.1) = false := by rfl)
    (ht : eval (.Call (.Attribute o m apos) (e :: es) [] pos) X.env = (do
      let ov ← eval o X.env
      standAt apos.atName
      let (f, first) ← holding [ov] (getMethod ov m pl)
      callWith pos f first (backTo pos (starEach (e :: es) X.env)) (backToKw pos (keywordEach [] X.env))) := by rfl) :
    QE X W (.Call (.Attribute o m apos) (e :: es) [] pos) (wMeth C m d wo wr) := by
  refine ⟨⟨?_⟩⟩
  rintro pins s σ H Q I ⟨Y, env, G, P, er, wg, h, kq, kx⟩
  refine PySem.W.methodCall_KW (pl := pl) (thn (ho.pe.run pins s σ H (fun x H1 => ∃ dv G1, mtK C d wr Y env m P dv G1 ∧ WG X.K G1 H1 ∧ Ext G H G1 H1 ∧ VR X.K H1 x dv) I ⟨Y, env, G, _, er, wg, h, fun x G1 v H1 h1 w1 x1 r1 => ⟨x, G1, h1, w1, x1, r1⟩, kx⟩) fun u s1 ⟨x, H1, I1, rx, dv, G1, h1, w1, x1, r1⟩ => ?_) ht
  cases dv <;> first | exact h1.elim | skip
  rename_i a
  obtain ⟨fs, ga, hl, h2⟩ := h1
  cases r1
  obtain ⟨dx, xs, hA, _, fr⟩ := w1 _ _ ga
  cases rx
  refine getmeth_ok I1 hA c hm (fr.none hl) ?_
  refine PySem.W.callWith_K (first := [.ref a]) (h₀ := X.base) I.ok.mod.kin hm.kp ?_ hst hpl
  refine thn (ha.pa.run pos pins s1 σ _ (fun vs H2 => liftF X.K d (.ref a :: vs) H2 Q (WE W σ)) I1 ⟨Y, env, G1, _, er.ext wg x1, w1, h2, fun ds G2 vs H2 h3 w2 x2 r2 => ?_, kx.step x1⟩) ?_
  · exact ⟨_, G2, P, Y, .cons (.ref a) r2, w2, h3, fun r G' v H' q w' x' r' => kq r G' v H' q w' ((x1.trans x2).trans x') r', kx.step (x1.trans x2)⟩
  · rintro us s2 ⟨vs, H2, I2, r, q⟩
    exact ⟨I2.kIn, run_call (us := .ref a :: us) (vs := .ref a :: vs) F hgd hr hb tk I2 (.cons rfl r) q⟩
theorem q_meth0 {X : Cx} {W : WX} {o : Expr} {wo : DE} {m : Str} {C f : Addr} {fd : FuncData} {ps : List Str} {d : DF} {k : Nat} {pos apos : Pos} {pl : Sem Bool} (c : L2.Cls X.K C) (hm : L2.Meth X.K C m f) (F : FG X.prog X.w X.K X.mg X.base k f fd ps d) (hgd : X.A.guards = some []) (hr : Room k X.A) (hb : Binds X.K fd ps []) (tk : Takes X W)
    (ho : QE X W o wo)
    (ht : eval (.Call (.Attribute o m apos) [] [] pos) X.env = (do
      let ov ← eval o X.env
      standAt apos.atName
      let (f, first) ← holding [ov] (getMethod ov m pl)
      callWith pos f first (backTo pos (starEach [] X.env)) (backToKw pos (keywordEach [] X.env))) := by rfl) :
    QE X W (.Call (.Attribute o m apos) [] [] pos) (wMeth C m d wo wNil) := by
  refine ⟨⟨?_⟩⟩
  rintro pins s σ H Q I ⟨Y, env, G, P, er, wg, h, kq, kx⟩
  refine PySem.W.methodCall_KW (pl := pl) (thn (ho.pe.run pins s σ H (fun x H1 => ∃ dv G1, mtK C d wNil Y env m P dv G1 ∧ WG X.K G1 H1 ∧ Ext G H G1 H1 ∧ VR X.K H1 x dv) I ⟨Y, env, G, _, er, wg, h, fun x G1 v H1 h1 w1 x1 r1 => ⟨x, G1, h1, w1, x1, r1⟩, kx⟩) fun u s1 ⟨x, H1, I1, rx, dv, G1, h1, w1, x1, r1⟩ => ?_) ht
  cases dv <;> first | exact h1.elim | skip
  rename_i a
  obtain ⟨fs, ga, hl, h2⟩ := h1
  cases r1
  obtain ⟨dx, xs, hA, _, fr⟩ := w1 _ _ ga
  cases rx
  refine getmeth_ok I1 hA c hm (fr.none hl) ?_
  refine PySem.W.callWith_K0 (first := [.ref a]) I1.kIn hm.kp (run_call (us := [.ref a]) (vs := [.ref a]) F hgd hr hb tk I1 (.cons rfl .nil) ?_)
  exact ⟨_, G1, P, Y, .cons (.ref a) .nil, w1, h2, fun r G' v H' q w' x' r' => kq r G' v H' q w' (x1.trans x') r', kx.step x1⟩
/-! ### an object made -/
def mkK (C : Addr) (d : DF) (Y : DX) (Q : DV → Gh → Prop) (ds : List DV) (G1 : Gh) : Prop := ∀ p, G1 p = none → d (.ref p :: ds) (gup G1 p (.ins C [])) (fun r G2 => r = .non ∧ Q (.ref p) G2) Y
def wMake (C : Addr) (d : DF) (wr : DA) : DE := fun Y env G Q => wr Y env G (mkK C d Y Q)
section
variable {X : Cx} {W : WX} {k : Nat} {f C : Addr} {fd : FuncData} {ps : List Str} {d : DF} {x : Str} {p pos : Pos} {e : Expr} {es : List Expr} {wr : DA}
theorem run_mk {pins : List (Addr × Obj)} {σ : L2.St} {H : Hp} {s : Shared} {Q : VK} {us : List Value} {vs : List V} {Y : DX} {G : Gh} {P : DV → Gh → Prop} {ds : List DV} (M : L2.Mk X.K C f) (F : FG X.prog X.w X.K X.mg X.base k f fd ps d) (hg : X.A.guards = some []) (hr : Room (k + 1) X.A) (hb : Binds X.K fd ps [])
    (tk : Takes X W) (I : Inv X pins σ H s) (r : Vals vs us) (rv : VRs X.K H vs ds) (wg : WG X.K G H) (h : mkK C d Y P ds G)
    (kq : ∀ d G' v H', P d G' → WG X.K G' H' → Ext G H G' H' → VR X.K H' v d → Q v H') (kx : XLe X.K G H Y (WE W σ)) : wpAny (model X.prog X.w) X.A (call (.ref C) us) (EP X pins σ Q) X.xe s := by
  have nx : H (s.heap.objs.size + 1) = none := I.hok.fresh (Nat.le_succ _)
  have nd : H s.heap.objs.size = none := I.hok.fresh (Nat.le_refl _)
  have ne : s.heap.objs.size ≠ s.heap.objs.size + 1 := Nat.ne_of_lt (Nat.lt_succ_self _)
  have hq := h (s.heap.objs.size + 1) (wg.non nx)
  have x1 : Ext G H G (upd H s.heap.objs.size (.own (s.heap.objs.size + 1))) := Ext.new nd
  have w1 := wg.new (o := .own (s.heap.objs.size + 1)) nd
  have nx1 : (upd H s.heap.objs.size (.own (s.heap.objs.size + 1))) (s.heap.objs.size + 1) = none := by rw [upd_ne ne.symm]; exact nx
  have x2 : Ext G (upd H s.heap.objs.size (.own (s.heap.objs.size + 1))) (gup G (s.heap.objs.size + 1) (.ins C [])) (upd (upd H s.heap.objs.size (.own (s.heap.objs.size + 1))) (s.heap.objs.size + 1) (.ins C s.heap.objs.size [])) := Ext.newC nx1
  have w2 : WG X.K (gup G (s.heap.objs.size + 1) (.ins C [])) (upd (upd H s.heap.objs.size (.own (s.heap.objs.size + 1))) (s.heap.objs.size + 1) (.ins C s.heap.objs.size [])) :=
    w1.put (.inl nx1) ⟨_, [], upd_same, by rw [upd_ne ne]; exact upd_same, .nil⟩
  have I2 := Inv.made (C := C) I
  have x3 := x1.trans x2
  have hsp : liftF X.K d (.ref (s.heap.objs.size + 1) :: vs) (upd (upd H s.heap.objs.size (.own (s.heap.objs.size + 1))) (s.heap.objs.size + 1) (.ins C s.heap.objs.size [])) (fun v H2 => v = .non ∧ Q (.ref (s.heap.objs.size + 1)) H2) (WE W σ) := by
    refine ⟨_, _, _, Y, .cons (.ref _) ((rv.ext wg x1).ext w1 x2), w2, hq, ?_, kx.step x3⟩
    rintro r G' v H' ⟨rfl, q⟩ w' x' r'
    cases r'
    exact ⟨rfl, kq _ _ _ _ q w' (x3.trans x') (.ref _)⟩
  have r2 : Vals (V.ref (s.heap.objs.size + 1) :: vs) (Value.ref (s.heap.objs.size + 1) :: us) := .cons rfl r
  have hl : (Value.ref (s.heap.objs.size + 1) :: us).length = ps.length := by
    have := F.len _ _ _ _ hq
    rw [← r2.length, List.length_cons, rv.len]
    rw [List.length_cons] at this
    exact this
  have bb := hb _ (Value.ref (s.heap.objs.size + 1) :: us) I2.kIn (by rw [List.append_nil]; exact hl)
  rw [List.append_nil] at bb
  refine wpAny_call (make_map (f := f) I.kIn M.makes M.init (beq_iff_eq.mp M.fn) (codeAny_mono (F.run _ X.stack _ _ ⟨Value.ref (s.heap.objs.size + 1) :: us, []⟩ _ _ _ _ hg (hr.make C us [])
    (I2.env0.make C us []) bb r2 hsp) fun r s' hq' => ?_))
  cases r with
  | error e => exact passAt tk σ pins _ _ e s' I2 hq'
  | ok fl =>
    cases fl with
    | ret u =>
      obtain ⟨v, H', I3, rv, ev, q3⟩ := I2.after hq'
      subst ev
      exact ⟨rv, ⟨V.ref (s.heap.objs.size + 1), H', I3, rfl, q3⟩⟩
    | next => exact False.elim hq'
    | brk => exact False.elim hq'
    | cont => exact False.elim hq'
theorem q_make (M : L2.Mk X.K C f) (F : FG X.prog X.w X.K X.mg X.base k f fd ps d) (hgd : X.A.guards = some []) (hr : Room (k + 1) X.A) (hm : X.mg x = some (.ref C)) (hb : Binds X.K fd ps []) (tk : Takes X W)
    (ha : QA X W (e :: es) wr) (hg : Gl X x := by rfl) (hdb : (x == ("__debug__" : Str)) = false := by decide) (he : starEach (e :: es) X.env = (false, eval e X.env) :: starEach es X.env := by rfl) (hpl : (backTo pos (starEach es X.env)).any (·.1) = false := by rfl) :
    QE X W (.Call (.Name x p) (e :: es) [] pos) (wMake C d wr) := by
  refine ⟨⟨?_⟩⟩
  rintro pins s σ H Q I ⟨Y, env, G, P, er, wg, h, kq, kx⟩
  refine wpAny_Call_Name_kw (ld_glob I hg hm ?_ hdb)
  refine PySem.W.callWith_K (h₀ := X.base) I.ok.mod.kin M.kp ?_ he hpl
  refine thn (ha.pa.run pos pins s σ H (fun vs H1 => ∃ ds G1, mkK C d Y P ds G1 ∧ WG X.K G1 H1 ∧ Ext G H G1 H1 ∧ VRs X.K H1 vs ds) I ⟨Y, env, G, _, er, wg, h, fun ds G1 vs H1 h1 w1 x1 r1 => ⟨ds, G1, h1, w1, x1, r1⟩, kx⟩) ?_
  rintro us s1 ⟨vs, H1, I1, r, ds, G1, h1, w1, x1, r1⟩
  exact ⟨I1.kIn, run_mk M F hgd hr hb tk I1 r r1 w1 h1 (fun r G' v H' q w' x' r' => kq r G' v H' q w' (x1.trans x') r') (kx.step x1)⟩
theorem q_make0 (M : L2.Mk X.K C f) (F : FG X.prog X.w X.K X.mg X.base k f fd ps d) (hgd : X.A.guards = some []) (hr : Room (k + 1) X.A) (hm : X.mg x = some (.ref C)) (hb : Binds X.K fd ps []) (tk : Takes X W)
    (hg : Gl X x := by rfl) (hdb : (x == ("__debug__" : Str)) = false := by decide) : QE X W (.Call (.Name x p) [] [] pos) (wMake C d wNil) := by
  refine ⟨⟨?_⟩⟩
  rintro pins s σ H Q I ⟨Y, env, G, P, er, wg, h, kq, kx⟩
  refine wpAny_Call_Name_kw (ld_glob I hg hm ?_ hdb)
  exact PySem.W.callWith_K0 I.kIn M.kp (run_mk (us := []) (vs := []) M F hgd hr hb tk I .nil .nil wg h kq kx)
end
/-! ### own classes, as the texts name them -/
section
variable [Cls]
/-- a class: where it stands, what attributes its objects have -/
structure ClsAt (P : Program) (K : PySem.W.Frag) (mg : Str → Option Value) (x : Str) (fs : List Str) : Prop where
  g : mg x = some (.ref (Cls.adr x))
  c : L2.Cls K (Cls.adr x)
  no : ∀ f ∈ fs, L2.NoAttr K (Cls.adr x) f
theorem ClsAt.f {P : Program} {K : PySem.W.Frag} {mg : Str → Option Value} {x : Str} {fs : List Str} (C : ClsAt P K mg x fs) (f : Str) (h : f ∈ fs) : L2.NoAttr K (Cls.adr x) f := C.no f h
/-- a method that may be called -/
structure HasM (P : Program) (w : World) (K : PySem.W.Frag) (mg : Str → Option Value) (base : Heap) (k : Nat) (x m : Str) (ps : List Str) (d : DF) : Prop where
  ex : ∃ (f : Addr) (fd : FuncData), FG P w K mg base k f fd ps d ∧ L2.Meth K (Cls.adr x) m f ∧ Binds K fd ps []
/-- a class whose objects may be made -/
structure HasI (P : Program) (w : World) (K : PySem.W.Frag) (mg : Str → Option Value) (base : Heap) (k : Nat) (x : Str) (ps : List Str) (d : DF) : Prop where
  ex : ∃ (f : Addr) (fd : FuncData), FG P w K mg base k f fd ps d ∧ L2.Mk K (Cls.adr x) f ∧ Binds K fd ps []
section
variable {X : Cx} {W : WX} {e o : Expr} {es : List Expr} {wo : DE} {wr : DA} {pos apos p : Pos} {x m : Str} {ps fs : List Str} {d : DF} {j k : Nat} {pl : Sem Bool}
theorem q_methH (T : ClsAt X.prog X.K X.mg x fs) (F : HasM X.prog X.w X.K X.mg X.base k x m ps d) (hgd : X.A.guards = some []) (hr : Room j X.A) (tk : Takes X W) (ho : QE X W o wo) (ha : QA X W (e :: es) wr) (hjk : k ≤ j := by decide)
    (hst : starEach (e :: es) X.env = (false, eval e X.env) :: starEach es X.env := by rfl) (hpl : (backTo pos (starEach es X.env)).any (·.1) = false := by rfl)
    (ht : eval (.Call (.Attribute o m apos) (e :: es) [] pos) X.env = (do
      let ov ← eval o X.env
      standAt apos.atName
      let (f, first) ← holding [ov] (getMethod ov m pl)
      callWith pos f first (backTo pos (starEach (e :: es) X.env)) (backToKw pos (keywordEach [] X.env))) := by rfl) :
    QE X W (.Call (.Attribute o m apos) (e :: es) [] pos) (wMeth (Cls.adr x) m d wo wr) := by
  obtain ⟨f, fd, F, M, b⟩ := F.ex
  exact q_meth T.c M F hgd (hr.mono hjk) b tk ho ha hst hpl ht
theorem q_methH0 (T : ClsAt X.prog X.K X.mg x fs) (F : HasM X.prog X.w X.K X.mg X.base k x m ps d) (hgd : X.A.guards = some []) (hr : Room j X.A) (tk : Takes X W) (ho : QE X W o wo) (hjk : k ≤ j := by decide)
    (ht : eval (.Call (.Attribute o m apos) [] [] pos) X.env = (do
      let ov ← eval o X.env
      standAt apos.atName
      let (f, first) ← holding [ov] (getMethod ov m pl)
      callWith pos f first (backTo pos (starEach [] X.env)) (backToKw pos (keywordEach [] X.env))) := by rfl) :
    QE X W (.Call (.Attribute o m apos) [] [] pos) (wMeth (Cls.adr x) m d wo wNil) := by
  obtain ⟨f, fd, F, M, b⟩ := F.ex
  exact q_meth0 T.c M F hgd (hr.mono hjk) b tk ho ht
theorem q_makeH (T : ClsAt X.prog X.K X.mg x fs) (F : HasI X.prog X.w X.K X.mg X.base k x ps d) (hgd : X.A.guards = some []) (hr : Room j X.A) (tk : Takes X W) (ha : QA X W (e :: es) wr) (hjk : k + 1 ≤ j := by decide)
    (hg : Gl X x := by rfl) (hdb : (x == ("__debug__" : Str)) = false := by decide) (he : starEach (e :: es) X.env = (false, eval e X.env) :: starEach es X.env := by rfl) (hpl : (backTo pos (starEach es X.env)).any (·.1) = false := by rfl) :
    QE X W (.Call (.Name x p) (e :: es) [] pos) (wMake (Cls.adr x) d wr) := by
  obtain ⟨f, fd, F, M, b⟩ := F.ex
  exact q_make M F hgd (hr.mono hjk) T.g b tk ha hg hdb he hpl
theorem q_makeH0 (T : ClsAt X.prog X.K X.mg x fs) (F : HasI X.prog X.w X.K X.mg X.base k x ps d) (hgd : X.A.guards = some []) (hr : Room j X.A) (tk : Takes X W) (hjk : k + 1 ≤ j := by decide)
    (hg : Gl X x := by rfl) (hdb : (x == ("__debug__" : Str)) = false := by decide) : QE X W (.Call (.Name x p) [] [] pos) (wMake (Cls.adr x) d wNil) := by
  obtain ⟨f, fd, F, M, b⟩ := F.ex
  exact q_make0 M F hgd (hr.mono hjk) T.g b tk hg hdb
end
/-- a method at its place -/
structure MetAt (K : PySem.W.Frag) (x m qual : Str) (st : Stmt) (ps : List Str) : Prop where
  ex : ∃ (f : Addr) (fd : FuncData), L2.Fun K m qual st f fd ∧ Binds K fd ps [] ∧ PySem.W.findIn K (.ref (Cls.adr x)) m = some (some (.ref f)) ∧ PySem.W.isFn K (.ref f) = true
theorem MetAt.has {P : Program} {w : World} {K : PySem.W.Frag} {mg : Str → Option Value} {base : Heap} {k : Nat} {x m qual : Str} {st : Stmt} {ps : List Str} {d : DF} (D : MetAt K x m qual st ps) (h : ∀ f fd, L2.Fun K m qual st f fd → FG P w K mg base k f fd ps d) : HasM P w K mg base k x m ps d := by
  obtain ⟨f, fd, F, b, a, i⟩ := D.ex
  exact ⟨f, fd, h f fd F, ⟨a, i, F.kp⟩, b⟩
theorem MetAt.hasI {P : Program} {w : World} {K : PySem.W.Frag} {mg : Str → Option Value} {base : Heap} {k : Nat} {x qual : Str} {st : Stmt} {ps : List Str} {d : DF} (D : MetAt K x "__init__" qual st ps) (hm : PySem.W.makesIn K (Cls.adr x) = true) (hk : PySem.W.keepIn K (.ref (Cls.adr x)) = true) (h : ∀ f fd, L2.Fun K "__init__" qual st f fd → FG P w K mg base k f fd ps d) : HasI P w K mg base k x ps d := by
  obtain ⟨f, fd, F, b, a, i⟩ := D.ex
  exact ⟨f, fd, h f fd F, ⟨hm, a, i, hk⟩, b⟩
end
section
variable {Y : DX} {D : DEnds} {env : Dv} {G : Gh} {Q : DV → Gh → Prop} {C a : Addr} {m n : Str} {d : DF} {wo wv : DE} {wr : DA} {fs gs : List (Str × DV)} {ds : List DV} {y : DV}
theorem s_meth (q : wo Y env G (mtK C d wr Y env m Q)) : wMeth C m d wo wr Y env G Q := q
theorem s_metK (ha : G a = some (.ins C fs)) (hl : fs.lookup m = none) (q : wr Y env G fun ds G2 => d (.ref a :: ds) G2 Q Y) : mtK C d wr Y env m Q (.ref a) G := ⟨fs, ha, hl, q⟩
theorem s_make (q : wr Y env G (mkK C d Y Q)) : wMake C d wr Y env G Q := q
theorem x_make (q : ∀ p G1, G p = none → Sub G G1 → G1 p = some (.ins C []) → d (.ref p :: ds) G1 (fun r G2 => r = .non ∧ Q (.ref p) G2) Y) : mkK C d Y Q ds G := fun p hp => q p _ hp (Sub.new hp) gup_same
def stFK (D : DEnds) (env : Dv) (C : Addr) (n : Str) (y x : DV) (G2 : Gh) : Prop := match x with
  | .ref a => ∃ fs, G2 a = some (.ins C fs) ∧ fs.length < 1000 ∧ D.nx env (gup G2 a (.ins C (putFd n y fs)))
  | _ => False
theorem s_stF (q : wv (fun C fs G' => D.ex C fs env G') env G fun y G1 => wo (fun C fs G' => D.ex C fs env G') env G1 (stFK D env C n y)) : wStFl C n wo wv D env G := q
theorem x_stF (ha : G a = some (.ins C fs)) (hl : Nat.ble (fs.length + 1) 1000 = true) (he : putFd n y fs = gs) (q : ∀ G1, Old a G G1 → G1 a = some (.ins C gs) → D.nx env G1) : stFK D env C n y (.ref a) G := by
  subst he
  exact ⟨fs, ha, Nat.le_of_ble_eq_true hl, q _ Old.set gup_same⟩
end
end DL

namespace DL
open PySem
/-! ### numbers as texts -/
/-- the signs of a number's text -/
def sg (i : Int) : List Nat := if i < 0 then 45 :: TL.numL i.natAbs else TL.numL i.natAbs
theorem num_tl (i : Int) : (Str.ofString (toString i)).cps.toList = sg i := by
  cases i with
  | ofNat m =>
    rw [sg, if_neg (by simp)]; exact TL.tl_num m
  | negSucc m =>
    have e : toString (Int.negSucc m) = "-" ++ Nat.repr (m + 1) := rfl
    have e2 := TL.tl_num (m + 1)
    have e3 : toString (((m + 1 : Nat)) : Int) = Nat.repr (m + 1) := rfl
    rw [e3] at e2
    rw [sg, if_pos (by omega), e, Str.ofString_eq_toList, String.toList_append]
    unfold TL.tl at e2
    rw [Str.ofString_eq_toList] at e2
    simp only [List.map_append] at e2 ⊢
    have e2 : List.map Char.toNat (Nat.repr (m + 1)).toList = TL.numL (m + 1) := e2
    rw [e2]; rfl
/-- no 0 ahead but in 0 itself -/
theorem numL_head : ∀ n : Nat, (TL.numL n).head? = some 48 → n = 0 := by
  intro n
  induction n using Nat.strongRecOn with
  | _ n ih =>
    intro h
    by_cases hn : n < 10
    · rw [TL.numL_lt hn] at h
      simp at h; omega
    · rw [TL.numL_step (by omega)] at h
      have hne := TL.numL_ne (n / 10)
      cases hc : TL.numL (n / 10) with
      | nil => exact absurd hc hne
      | cons c r =>
        rw [hc] at h
        have h0 := ih (n / 10) (by omega) (by rw [hc]; exact h)
        omega
theorem sg_signs (i : Int) : ∀ c ∈ sg i, c = 45 ∨ (48 ≤ c ∧ c ≤ 57) := by
  intro c hc
  unfold sg at hc
  split at hc
  · rcases List.mem_cons.mp hc with h | h
    · exact .inl h
    · exact .inr (TL.numL_digits _ c h)
  · exact .inr (TL.numL_digits _ c hc)
theorem sg_free {i : Int} {s : Nat} (h1 : s ≠ 45) (h : s < 48 ∨ 57 < s) : s ∉ sg i := fun hm => by
  rcases sg_signs i s hm with h2 | h2 <;> omega
theorem num_free {i : Int} {s : Nat} (h1 : s ≠ 45) (h : s < 48 ∨ 57 < s) : s ∉ (Str.ofString (toString i)).cps.toList := by
  rw [num_tl]; exact sg_free h1 h
theorem num_inj {i j : Int} (h : Str.ofString (toString i) = Str.ofString (toString j)) : i = j := by
  have e := congrArg (fun x : Str => x.cps.toList) h
  simp only [num_tl] at e
  have hd : ∀ n : Nat, (TL.numL n).head? ≠ some 45 := fun n z => by
    have : (45 : Nat) ∈ TL.numL n := List.mem_of_head? z
    have := TL.numL_digits _ _ this
    omega
  unfold sg at e
  split at e <;> split at e
  · have := TL.numL_inj (List.cons.inj e).2
    omega
  · exact absurd (by rw [← e]; rfl) (hd j.natAbs)
  · exact absurd (by rw [e]; rfl) (hd i.natAbs)
  · have := TL.numL_inj e
    omega
theorem num_len {i : Int} {k : Nat} (hk : 0 < k) (h : i.natAbs < 10 ^ k) : (Str.ofString (toString i)).length ≤ k + 1 := by
  have := int_text_length_le10 hk h
  rw [PySem.ofString_length]
  exact this
theorem sg_len (i : Int) : (sg i).length = (Str.ofString (toString i)).length := by
  rw [← num_tl]; exact Array.length_toList
theorem num_int {i : Int} (h : i.natAbs < 10 ^ 4200) : intText? (Str.ofString (toString i)) = some i := by
  have hl := num_len (by decide) h
  have ht := num_tl i
  unfold sg at ht
  split at ht
  · have := PySem.intText_neg (x := Str.ofString (toString i)) ht (TL.numL_digits _) (TL.numL_ne _) (by omega)
    rw [this, TL.numL_val]
    congr 1; omega
  · have := PySem.intText_digits (x := Str.ofString (toString i)) (by rw [ht]; exact TL.numL_digits _) (by rw [ht]; exact TL.numL_ne _) (by omega)
    rw [this, ht, TL.numL_val]
    congr 1; omega
/-- a digit list without a 0 ahead is a number's own -/
theorem digits_back : ∀ l : List Nat, NumText.AllDigits l → l ≠ [] → (l.head? = some 48 → l = [48]) → TL.numL (NumText.digitsVal l) = l := by
  intro l
  induction h : l.length using Nat.strongRecOn generalizing l with
  | _ n ih =>
    intro hd hne h0
    have hl : l = l.dropLast ++ [l.getLast hne] := (List.dropLast_concat_getLast hne).symm
    generalize hc : l.getLast hne = c at hl
    generalize hp : l.dropLast = p at hl
    have hcd : 48 ≤ c ∧ c ≤ 57 := hd c (by rw [hl]; simp)
    have hv : NumText.digitsVal l = NumText.digitsVal p * 10 + (c - 48) := by
      rw [hl]
      unfold NumText.digitsVal
      rw [List.foldl_append]; rfl
    by_cases hpe : p = []
    · subst hpe
      rw [List.nil_append] at hl
      have : NumText.digitsVal l = c - 48 := by rw [hv]; simp [NumText.digitsVal]
      rw [this, TL.numL_lt (by omega), hl]
      congr 1; omega
    · have hpl : p.length < n := by rw [← h, hl]; simp
      have hph : p.head? = some 48 → p = [48] := fun q => by
        have : l.head? = some 48 := by
          rw [hl]
          cases p with
          | nil => exact absurd rfl hpe
          | cons a r => exact q
        have := h0 this
        rw [hl] at this
        cases p with
        | nil => exact absurd rfl hpe
        | cons a r => simp at this
      have hpd : NumText.AllDigits p := fun d hd' => hd d (by rw [hl]; simp [hd'])
      have e := ih p.length hpl p rfl hpd hpe hph
      have hpos : 0 < NumText.digitsVal p := by
        rcases Nat.eq_zero_or_pos (NumText.digitsVal p) with z | z
        · rw [z, TL.numL_lt (by decide)] at e
          have : l.head? = some 48 := by rw [hl, ← e]; rfl
          have := h0 this
          rw [hl, ← e] at this
          simp at this
        · exact z
      rw [hv, TL.numL_step (by omega)]
      have e1 : (NumText.digitsVal p * 10 + (c - 48)) / 10 = NumText.digitsVal p := by omega
      have e2 : (NumText.digitsVal p * 10 + (c - 48)) % 10 = c - 48 := by omega
      rw [e1, e2, e]
      have e3 : 48 + (c - 48) = c := by omega
      rw [e3]; exact hl.symm
theorem numL_lt_pow : ∀ n : Nat, n < 10 ^ (TL.numL n).length := by
  intro n
  induction n using Nat.strongRecOn with
  | _ n ih =>
    by_cases hn : n < 10
    · rw [TL.numL_lt hn]; simpa using hn
    · rw [TL.numL_step (by omega), List.length_append, List.length_singleton, Nat.pow_succ]
      have := ih (n / 10) (by omega)
      omega
theorem num_bound {i : Int} {k : Nat} (h : (Str.ofString (toString i)).length ≤ k) : i.natAbs < 10 ^ k := by
  have h1 := numL_lt_pow i.natAbs
  have h2 : (TL.numL i.natAbs).length ≤ (sg i).length := by
    unfold sg; split
    · simp
    · exact Nat.le_refl _
  rw [sg_len] at h2
  exact Nat.lt_of_lt_of_le h1 (Nat.pow_le_pow_right (by decide) (by omega))
end DL

namespace DL
open PySem PySem.Spec L2
open PyProof.Rows hiding St
/-! ### small helps -/
theorem eqv_nil (l : List DV) : PyData.eqv (DV.tup l).pd (.tuple []) = l.isEmpty := by
  rw [pd_tup]
  cases l with
  | nil => rfl
  | cons d l => rfl
section
variable {G : Gh} {Q : DV → Gh → Prop} {l : List DV}
theorem s_neT0 (hp : (DV.tup l).pure = true) (hs : SeqAt.shaped (DV.tup l).pd = true) (q : Q (.bl (!l.isEmpty)) G) : dEq true (.tup l) (.tup []) G Q := by
  refine ⟨_, .tuple [], dr_pure _ hp, .tup .nil, hs, by decide, ?_⟩
  rw [eqv_nil, Bool.true_xor]; exact q
theorem s_eqT0 (hp : (DV.tup l).pure = true) (hs : SeqAt.shaped (DV.tup l).pd = true) (q : Q (.bl l.isEmpty) G) : dEq false (.tup l) (.tup []) G Q := by
  refine ⟨_, .tuple [], dr_pure _ hp, .tup .nil, hs, by decide, ?_⟩
  rw [eqv_nil, Bool.false_xor]; exact q
end
/-! ### lists of texts compared -/
/-- a text that can be laid down -/
def Asc (s : Str) : Prop := ∀ c ∈ s.cps.toList, c < 0x110000
theorem Asc.all {s : Str} (h : Asc s) : s.cps.all (· < 0x110000) = true := by
  rw [Array.all_eq_true]
  intro i hi
  simpa using h _ (by simp)
theorem eqv_strs : ∀ ls ms : List Str, PyData.eqvAll (ls.map .str) (ms.map .str) = decide (ls = ms)
  | [], [] => by simp [PyData.eqvAll]
  | [], _ :: _ => by simp [PyData.eqvAll]
  | _ :: _, [] => by simp [PyData.eqvAll]
  | a :: ls, b :: ms => by
    rw [List.map_cons, List.map_cons, PyData.eqvAll, eqv_strs ls ms]
    show ((a == b) && _) = _
    by_cases h : a = b
    · subst h; simp
    · have : (a == b) = false := by simpa using h
      rw [this]; simp [h]
theorem strs_shaped {ls : List Str} (h : ∀ l ∈ ls, Asc l) : SeqAt.shaped (.list (ls.map .str)) = true := by
  have key : ∀ {ls : List Str}, (∀ l ∈ ls, Asc l) → PyData.canLayAll0 (ls.map PyData.str) = true ∧ PyData.depthAll (ls.map PyData.str) = 0 := by
    intro ls
    induction ls with
    | nil => intro _; exact ⟨rfl, rfl⟩
    | cons a ls ih =>
      intro h
      obtain ⟨h1, h2⟩ := ih fun l hl => h l (by simp [hl])
      refine ⟨?_, ?_⟩
      · rw [List.map_cons]
        have ha : PyData.canLay0 (.str a) = true := (h a (by simp)).all
        simp only [PyData.canLayAll0, ha, h1, Bool.and_self]
      · rw [List.map_cons]
        simp only [PyData.depthAll, PyData.depth, h2]; rfl
  obtain ⟨h1, h2⟩ := key h
  unfold SeqAt.shaped
  have e1 : (PyData.list (ls.map PyData.str)).canLay0 = true := h1
  have e2 : (PyData.list (ls.map PyData.str)).depth ≤ 64 := by show PyData.depthAll _ + 1 ≤ 64; rw [h2]; decide
  rw [e1, decide_eq_true e2]; rfl
section
variable {G : Gh} {Q : DV → Gh → Prop} {a b : Addr} {ls ms : List Str}
theorem strs_dr (ha : G a = some (.lst (ls.map .str))) : DR G (.ref a) (.list (ls.map .str)) := by
  have : DRs G (ls.map DV.str) ((ls.map DV.str).map DV.pd) := drs_pure (by simp)
  rw [List.map_map] at this
  exact .ref ha (by simpa [Function.comp_def] using this)
theorem s_neStrs (ha : G a = some (.lst (ls.map .str))) (hb : G b = some (.lst (ms.map .str))) (h1 : ∀ l ∈ ls, Asc l) (h2 : ∀ l ∈ ms, Asc l) (q : Q (.bl (!decide (ls = ms))) G) : dEq true (.ref a) (.ref b) G Q := by
  refine ⟨_, _, strs_dr ha, strs_dr hb, strs_shaped h1, strs_shaped h2, ?_⟩
  rw [Bool.true_xor, show PyData.eqv (.list (ls.map .str)) (.list (ms.map .str)) = _ from eqv_strs ls ms]; exact q
theorem s_eqStrs (ha : G a = some (.lst (ls.map .str))) (hb : G b = some (.lst (ms.map .str))) (h1 : ∀ l ∈ ls, Asc l) (h2 : ∀ l ∈ ms, Asc l) (q : Q (.bl (decide (ls = ms))) G) : dEq false (.ref a) (.ref b) G Q := by
  refine ⟨_, _, strs_dr ha, strs_dr hb, strs_shaped h1, strs_shaped h2, ?_⟩
  rw [Bool.false_xor, show PyData.eqv (.list (ls.map .str)) (.list (ms.map .str)) = _ from eqv_strs ls ms]; exact q
end
end DL

/-! comprehensions whose item may raise -/
namespace L2
open PySem PySem.Spec
open PyProof.Rows hiding St
theorem note_frame {u : Value} {e1 e2 : Env} (h : e1.frame = e2.frame) : noteFrame u e1 = noteFrame u e2 := by
  unfold noteFrame PySem.frameOf
  rw [h]
/-- where the loop of a comprehension ends; the frame is the def's own -/
def endC (M : Model) (A : Around) (E : Value → Shared → Prop) (use : Option (Value → Sem Unit)) (Q : Value → Shared → Prop) (fr : Option Addr) (acc : Value) (C : Addr) : Result → Shared → Prop
  | .ok _, t => match use with
    | none => ∃ m, t.heap.Ns C m ∧ ∀ h9, Heap.SameBut C t.heap h9 → Q acc { t with heap := h9 }
    | some f => wpAny M A (f acc) (fun _ t2 => ∃ m, t2.heap.Ns C m ∧ ∀ h9, Heap.SameBut C t2.heap h9 → Q .none { t2 with heap := h9 }) E t
  | .error u, t => ∃ m, t.heap.Ns C m ∧ ∀ h9, Heap.SameBut C t.heap h9 → ∀ ce : Env, ce.locals = C → ce.frame = fr → wpAny M A (passOn "comprehension.variables-let-go" u ce : Sem Value) (fun _ _ => False) E { t with heap := h9 }
section
variable {M : Model} {A : Around} {E : Value → Shared → Prop} {s : Shared} {env : Env}
theorem comp_run {x : Expr} {sc : Scope} {pos : Pos} {mk src : Sem Value} {c1 : Comprehension} {cr : List Comprehension} {cl : List (Str × Addr)} {use : Option (Value → Sem Unit)} {Q : Value → Shared → Prop}
    (h1 : clausesOf x = c1 :: cr) (h2 : ∀ v, foldedSetIterable c1.iter env v = pure v) (h3 : closureFor sc env = pure cl) (h4 : sc.kind = .function) (h5 : ∀ y ∈ sc.names, y.2 = .local → sc.names.lookup y.1 = some .local)
    (H : wpAny M A src (fun v t1 => wpAny M A (pyIter v) (fun it t2 => wpAny M A mk (fun acc t3 => wpAny M A (newFunctionEnv sc env.globals cl [] env.qual none .none (some env)) (fun ce t4 =>
      ce.frame = env.frame ∧ codeAny M A (.compStart x 0 it acc { ce with scope := relabel sc env }) (endC M A E use Q env.frame acc ce.locals) t4) E t3) E t2) E t1) E s) :
    wpAny M A (comprehension x sc env pos mk false src use) Q E s := by
  unfold comprehension
  rw [h3, h1]
  refine wpAny_bind (wpAny_mono H (fun v t1 k1 => ?_) fun _ _ z => z)
  refine wpAny_bind (wpAny_standAt (wpAny_bind (wpAny_of_eq (h2 v) (wpAny_bind (wpAny_holding (wpAny_mono k1 (fun it t2 k2 => ?_) fun _ _ z => z))))))
  refine wpAny_standIf (wpAny_bind (wpAny_mono k2 (fun acc t3 k3 => wpAny_bind (wpAny_pure (wpAny_bind (wpAny_mono k3 (fun ce t4 k4 => ?_) fun _ _ z => z)))) fun _ _ z => z))
  obtain ⟨kf, k4⟩ := k4
  dsimp only
  have own1 : ∀ y ∈ (sc.names.filter fun x => (x.2 == .local || x.2 == .cell) && x.1 != (".0" : Str)).reverse, y.2 = .local → Env.kindOf { ce with scope := relabel sc env } y.1 = some .local :=
    fun y hy hl => lookup_relabel_local (h5 y (List.mem_filter.mp (List.mem_reverse.mp hy)).1 hl)
  have own2 : ∀ y ∈ (sc.names.filter fun x => (x.2 == .local || x.2 == .cell) && x.1 != (".0" : Str)).reverse.drop 1 ++ (sc.names.filter fun x => (x.2 == .local || x.2 == .cell) && x.1 != (".0" : Str)).reverse.take 1, y.2 = .local → Env.kindOf { ce with scope := relabel sc env } y.1 = some .local := by
    intro y hy
    rcases List.mem_append.mp hy with z | z
    · exact own1 y (List.mem_of_mem_drop z)
    · exact own1 y (List.mem_of_mem_take z)
  refine wpAny_holding (wpAny_bind (wpAny_attempt (wpAny_holding (wpAny_run (codeAny_mono k4 fun r t5 k5 => ?_)))))
  cases r with
  | error u =>
    have k5 : endC M A E use Q env.frame acc ce.locals (.error u) t5 := k5
    obtain ⟨m, n1, n2⟩ := k5
    refine wpAny_bind (wpAny_holding (wpAny_comp_letGo (cenv := { ce with scope := relabel sc env }) h4 _ t5 m own1 n1 fun h9 m9 _ sb => ?_))
    cases use <;> exact wpAny_mono (n2 h9 sb _ rfl kf) (fun _ _ z => z.elim) fun _ _ z => z
  | ok fl =>
    cases use with
    | some f =>
      refine wpAny_bind (wpAny_rule (wpAny_bind (wpAny_holding (wpAny_mono k5 (fun _ t6 k6 => ?_) fun _ _ z => z))))
      obtain ⟨m, n1, n2⟩ := k6
      exact wpAny_bind (wpAny_comp_letGo (cenv := { ce with scope := relabel sc env }) h4 _ t6 m own2 n1 fun h9 m9 _ sb => wpAny_pure (n2 h9 sb))
    | none =>
      obtain ⟨m, n1, n2⟩ := k5
      exact wpAny_bind (wpAny_holding (wpAny_comp_letGo (cenv := { ce with scope := relabel sc env }) h4 _ t5 m own1 n1 fun h9 m9 _ sb => wpAny_pure (n2 h9 sb)))
end
/-- the block's context, what is raised within going to xe -/
abbrev Cx.blx (X : Cx) (s : Shared) (H : Hp) (sc : Scope) (ce : Env) (fp : List Addr) (xe : Value → Shared → Prop) : Cx := { X.blk s H sc ce fp with xe := xe }
section
variable {X : Cx} {pins : List (Addr × Obj)} {σ : St} {H : Hp} {s : Shared}
theorem Inv.toX {s0 : Shared} {H0 : Hp} {sc : Scope} {ce : Env} {fp : List Addr} {xe : Value → Shared → Prop} (I : Inv (X.blk s0 H0 sc ce fp) pins σ H s) : Inv (X.blx s0 H0 sc ce fp xe) pins σ H s := by
  obtain ⟨⟨a1, a2, a3, a4, a5, a6, a7, a8, a9, b1, b2, b3, b4, b5, b6, b7, b8, b9⟩, i2, i3, i4, i5, i6, i7, i8, i9, i10, i11⟩ := I
  exact ⟨⟨a1, a2, a3, a4, a5, a6, a7, a8, a9, b1, b2, b3, b4, b5, b6, b7, b8, b9⟩, i2, i3, i4, i5, i6, i7, i8, i9, i10, i11⟩
theorem Inv.ofX {s0 : Shared} {H0 : Hp} {sc : Scope} {ce : Env} {fp : List Addr} {xe : Value → Shared → Prop} (I : Inv (X.blx s0 H0 sc ce fp xe) pins σ H s) : Inv (X.blk s0 H0 sc ce fp) pins σ H s := by
  obtain ⟨⟨a1, a2, a3, a4, a5, a6, a7, a8, a9, b1, b2, b3, b4, b5, b6, b7, b8, b9⟩, i2, i3, i4, i5, i6, i7, i8, i9, i10, i11⟩ := I
  exact ⟨⟨a1, a2, a3, a4, a5, a6, a7, a8, a9, b1, b2, b3, b4, b5, b6, b7, b8, b9⟩, i2, i3, i4, i5, i6, i7, i8, i9, i10, i11⟩
/-- held by another frame's hand: it is noted by this one -/
theorem note_other {M : Model} {A : Around} {E1 : Value → Shared → Prop} {t : Shared} {B : Heap} {a L C : Addr} {Z : Obj → Prop} {env : Env} {outer : List Env} {Q : Unit → Shared → Prop} (hZ : PXN.Steady1 Z) (frm : A.frames = some (env :: outer)) (hf : env.frame = some L)
    (hne : C ≠ L) (hh : HandSPX.HeldZ B (env :: outer) a Z C t.heap) (hQ : ∀ h1, HandSPX.HeldZ B (env :: outer) a Z L h1 → t.heap.UpToSlots h1 → Q () { t with heap := h1 }) : wpAny M A (noteFrame (.ref a) env) Q E1 t := by
  obtain ⟨k1, k2, k3, oe, vs, T, oT, ts, t1, t2, t3, t4, t5, t6, t7, t8, t9⟩ := hh
  have ne : (rawInt C == rawInt L) = false := by
    have : rawInt C ≠ rawInt L := fun z => hne (by unfold rawInt at z; injection z with z; exact Int.ofNat.inj z)
    simpa using this
  unfold noteFrame
  simp only [hf]
  refine wpAny_bind (wpAny_field t1 t3 t4 ?_)
  rw [if_pos (show (Value.ref T != .none) = true by simp)]
  refine wpAny_bind (wpAny_field t7 t8 t9 ?_)
  rw [if_neg (by rw [ne]; exact Bool.false_ne_true)]
  refine wpAny_bind (wpAny_setField t7 t8 (Array.getElem?_eq_some_iff.mp t9).1 ?_)
  have off : ∀ b, b ≠ T → (t.heap.update T (Obj.mapFields (·.setIfInBounds 3 Value.none))).get? b = t.heap.get? b := fun b hb => Heap.get?_update_other _ _ hb.symm
  have offR : ∀ b o, t.heap.get? b = some o → (∀ zs, o.data ≠ .fields zs) → b ≠ T := by
    rintro b o e n rfl
    have e2 := t7.symm.trans e
    cases e2
    exact n _ t8
  refine PXN.wpAny_entryZ hZ frm (k3.of_keeps fun b o e n => ⟨o, (off b (offR b o e n)).trans e, rfl⟩) hf ((off a t6.symm).trans t1) (fun b o e => (off b (by rintro rfl; rw [t5] at e; cases e)).trans (k1 b o e)) k2 t3 (Array.getElem?_eq_some_iff.mp t4).1 t2 ?_
  rintro h1 ⟨x1, x2, x3, x4⟩
  exact hQ h1 ⟨x1, k2, x2, x3⟩ fun b o e n => x4 b o ((off b (offR b o e n)).trans e) n
theorem funFrames_but {h h9 B B9 : Heap} {C : Addr} (k : ∀ b, b ≠ C → h9.get? b = h.get? b) (kB : ∀ b, B.get? b = none → B9.get? b = none) : ∀ {l : List Env}, h.FunFrames B l → (∀ L ∈ frs l, L ≠ C) → h9.FunFrames B9 l
  | [], _, _ => trivial
  | env :: l, ⟨f1, ⟨L, o, f2, f3, f4, f5⟩, f6⟩, hn => ⟨f1, ⟨L, o, f2, kB _ f3, (k L (hn L (List.mem_filterMap.mpr ⟨env, List.mem_cons_self, f2⟩))).trans f4, f5⟩,
      funFrames_but k kB f6 fun b hb => by
        obtain ⟨e, he, q⟩ := List.mem_filterMap.mp hb
        exact hn b (List.mem_filterMap.mpr ⟨e, List.mem_cons_of_mem _ he, q⟩)⟩
/-- an error within the block leaves the comprehension: it is in the def's air -/
theorem xe_offBlock {Z : Value → Option Addr → Obj → Prop} (hZ : ∀ cls d, PXN.Steady1 (Z cls d)) {Wo : WX} {s3 : Shared} {H3 : Hp} {sc : Scope} {ce : Env} {fp : List Addr} {xe : Value → Shared → Prop} {use : Option (Value → Sem Unit)} {Qf : Value → Shared → Prop} {acc : Value} {u : Value} {t : Shared}
    (hst : X.stack = X.env :: X.outer) (hfm : X.env.frame = some X.env.locals) (tk : ∀ y z, XZ Z X Wo y z → X.xe y z) (I3 : Inv X pins σ H3 s3) (hfp : ∀ b ∈ fp, (b ∈ X.ex ∨ X.s_0.heap.objs.size ≤ b) ∧ b ≠ X.env.locals ∧ (∀ y c, X.env.cells.lookup y = some c → c ≠ b) ∧ ∀ p ∈ X.pn ++ pins, p.1 ≠ b)
    (cf : ce.frame = X.env.frame) (cl : ce.locals = s3.heap.objs.size) (x : XZ Z (X.blx s3 H3 sc ce fp xe) (fun c d _ Hh => Wo c d σ Hh) u t) :
    notedBy (model X.prog X.w) X.A ce (fun e t9 => endC (model X.prog X.w) X.A X.xe use Qf X.env.frame acc s3.heap.objs.size (.error e) t9) u t := by
  obtain ⟨a, B, sI, pn, st, Hh, cls, d, rfl, J, nb, up, sky, na, os, ag, w⟩ := x
  have frm : X.A.frames = some (X.env :: X.outer) := hst ▸ I3.ok.frames
  have sky : Sky B (X.env :: X.outer) a (Z cls d) ce.locals t.heap := by have z := sky; rwa [show (X.blx s3 H3 sc ce fp xe).stack = X.env :: X.outer from hst] at z
  have nb : ∀ b o, sI.heap.get? b = some o → b ∉ frs X.stack → B.get? b = some o := nb
  obtain ⟨mC, nsC, _⟩ := J.loc
  have nsC : sI.heap.Ns s3.heap.objs.size mC := by rw [← cl]; exact nsC
  have freeC : Hh s3.heap.objs.size = none := by rw [← cl]; exact J.free
  have offC : ∀ L ∈ frs (X.env :: X.outer), L ≠ s3.heap.objs.size := fun L hL z => by
    rw [← hst] at hL
    obtain ⟨_, o, e, _⟩ := I3.stack.mem hL
    have := Heap.lt_size e
    rw [z] at this
    exact absurd this (Nat.lt_irrefl _)
  have offS : s3.heap.objs.size ∉ frs X.stack := fun hm => offC _ (hst ▸ hm) rfl
  -- when it is held by the def's frame
  have fin : ∀ h1, HandSPX.HeldZ B (X.env :: X.outer) a (Z cls d) X.env.locals h1 → t.heap.UpToSlots h1 → endC (model X.prog X.w) X.A X.xe use Qf X.env.frame acc s3.heap.objs.size (.error (.ref a)) { t with heap := h1 } := by
    rintro h1 ⟨hB, hn, hl, oe, vs, T, oT, ts, t1, t2, t3, t4, t5, t6, t7, t8, t9⟩ u1
    obtain ⟨oC, es, ep, c1, c2, c3⟩ := nsC
    have cB := nb _ _ c1 offS
    have cH : h1.get? s3.heap.objs.size = some oC := hB _ _ cB
    refine ⟨mC, ⟨oC, es, ep, cH, c2, c3⟩, fun h9 sb cx _ cxf => ?_⟩
    have aC : a ≠ s3.heap.objs.size := by
      rintro rfl
      rw [hn] at cB; cases cB
    have TC : T ≠ s3.heap.objs.size := by
      rintro rfl
      rw [t5] at cB; cases cB
    have same : ∀ b, b ≠ s3.heap.objs.size → h9.get? b = h1.get? b := sb.2
    have hideB : ∀ b, B.get? b = none → (PySem.W.hideAll B [s3.heap.objs.size]).get? b = none := fun b e => by
      cases q : (PySem.W.hideAll B [s3.heap.objs.size]).get? b with
      | none => rfl
      | some o => rw [PySem.W.of_hideAll _ q] at e; cases e
    have offHid : ∀ {g : Heap} {b : Addr} {o : Obj}, (PySem.W.hideAll g [s3.heap.objs.size]).get? b = some o → b ≠ s3.heap.objs.size := fun {g b o} e z => by
      rw [z, PySem.W.hideAll_none _ (List.mem_cons_self ..)] at e; cases e
    have hidGet : ∀ {g : Heap} {b : Addr} {o : Obj}, g.get? b = some o → b ≠ s3.heap.objs.size → (PySem.W.hideAll g [s3.heap.objs.size]).get? b = some o := fun e n => PySem.W.hideAll_get _ e (by simpa using n)
    have held : HandSPX.HeldZ (PySem.W.hideAll B [s3.heap.objs.size]) (X.env :: X.outer) a (Z cls d) X.env.locals h9 :=
      ⟨fun b o e => (same b (offHid e)).trans (hB b o (PySem.W.of_hideAll _ e)), hideB a hn, funFrames_but same hideB hl offC, oe, vs, T, oT, ts, (same a aC).trans t1, t2, t3, t4, hideB T t5, t6, (same T TC).trans t7, t8, t9⟩
    -- the state without it
    have old : ∀ b o, s3.heap.get? b = some o → b ≠ s3.heap.objs.size := fun b o e => Nat.ne_of_lt (Heap.lt_size e)
    have JB := J.base
    have sI' : Inv X pins σ Hh { sI with heap := PySem.W.hideAll sI.heap [s3.heap.objs.size] } := by
      refine I3.call' (ch := fp) J.os ⟨fun b o e n hb hx => hidGet (JB.keep b o e n hb hx) (old b o e), fun b o e n hb hx => ?_, fun b o e n hx => JB.free b o e n hx, fun b o e hx => ?_, JB.tups, JB.frzs, JB.tbls⟩ (fun b o q => ?_) J.bare hfp
      · obtain ⟨sl, q⟩ := JB.slot b o e n hb hx
        exact ⟨sl, hidGet q (old b o e)⟩
      · obtain ⟨o9, q⟩ := JB.there b o e hx
        exact ⟨o9, hidGet q (old b o e)⟩
      · refine (J.hok b o q).stay (fun c y hc r => hidGet r fun z => ?_) (fun _ r => r) fun _ _ r => r
        rw [z] at hc
        rcases hc with hc | hc
        · rw [← hc, freeC] at q; cases q
        · rw [freeC] at hc; cases hc
    unfold PySem.passOn
    refine wpAny_bind (wpAny_field ((same a aC).trans t1) t3 t4 ?_)
    rw [if_neg (by simp)]
    have onward : wpAny (model X.prog X.w) X.A (setFlight (.ref a) cx.frame) (fun _ t9 => wpAny (model X.prog X.w) X.A (throw (.ref a) : Sem Value) (fun _ _ => False) X.xe t9) X.xe { t with heap := h9 } := by
      rw [cxf, hfm]
      refine HandSPX.setFlight_onZ held fun hz heldz u9 => wpAny_throw (tk _ _ ⟨a, PySem.W.hideAll B [s3.heap.objs.size], _, pins, σ, Hh, cls, d, rfl, sI', fun b o e hb => hidGet (nb b o (PySem.W.of_hideAll _ e) hb) (offHid e), ?_, .inr (.inr (by rw [hst]; exact heldz)), na, os, ag, w⟩)
      intro b o e nf
      have hbC := offHid e
      obtain ⟨sl, e1⟩ := (up.trans u1) b o (PySem.W.of_hideAll _ e) nf
      obtain ⟨sl2, e2⟩ := u9 b _ ((same b hbC).trans e1) nf
      exact ⟨sl2, e2⟩
    first
      | exact wpAny_bind (wpAny_pure (wpAny_bind onward))
      | exact wpAny_bind onward
  show wpAny _ _ (noteFrame (.ref a) ce) _ _ _
  rw [note_frame cf]
  rcases sky with ⟨hB, hn, hl, oe, vs, he, hz, hd, h1⟩ | fl | hh
  · exact PXN.look_newZ (hZ cls d) frm hl hfm he hB hn hd h1 hz fin
  · exact PXN.looks_onZ (hZ cls d) frm hfm fl fin
  · rw [cl] at hh
    exact note_other (hZ cls d) frm hfm (fun z => offC _ (List.mem_filterMap.mpr ⟨X.env, List.mem_cons_self, hfm⟩) z.symm) hh fin
end
end L2
namespace L2
open PySem PySem.Spec
open PyProof.Rows hiding St
section
variable {X : Cx}
/-- the item's reading, what it raises going on as the def's -/
abbrev outX (Wo : WX) (σ : St) : WX := fun c d _ Hh => Wo c d σ Hh
theorem lcx_run {pins : List (Addr × Obj)} {s : Shared} {σ : St} {H : Hp} {Q : VK} {Wo : WX} {elt tg iter : Expr} {ifs : List Expr} {sc : Scope} {own : List (Str × Nat)} {p1 p2 : Pos} {wi : TI} {g : TG} {tt : TT} {te : WX → TE} {use : Option (Value → Sem Unit)} {Qf : Value → Shared → Prop}
    (hst : X.stack = X.env :: X.outer) (hfm : X.env.frame = some X.env.locals) (calm : X.calm = true) (nd : X.N.Nodup) (tk : DL.Takes X Wo) (I : Inv X pins σ H s) (hi : PI X tg iter wi) (ok : BlkOk X.N X.env.scope sc own)
    (hg : ∀ (s : Shared) (H : Hp) (C : Addr) (cl : List (Str × Addr)) (fp : List Addr), PG (X.blk s H sc (compEnvC sc cl C X.env) fp) tg g)
    (ht : ∀ (s : Shared) (H : Hp) (C : Addr) (cl : List (Str × Addr)) (fp : List Addr), PTs (X.blk s H sc (compEnvC sc cl C X.env) fp) ifs tt)
    (he : ∀ (W : WX) (s : Shared) (H : Hp) (C : Addr) (cl : List (Str × Addr)) (fp : List Addr) (xe : Value → Shared → Prop), DL.Takes (X.blx s H sc (compEnvC sc cl C X.env) fp xe) W → PE (X.blx s H sc (compEnvC sc cl C X.env) fp xe) elt (te W))
    (hs : ∀ x, foldedSetIterable iter X.env x = pure x) (h : tLc wi g tt (te (outX Wo σ)) (own.map (·.2)) σ H Q)
    (done : ∀ D C t m H9, Inv X pins σ H9 t → Q (.ref D) H9 → t.heap.Ns C m → FpOk X pins H9 C → endC (model X.prog X.w) X.A X.xe use Qf X.env.frame (.ref D) C (.ok .next) t) :
    wpAny (model X.prog X.w) X.A (comprehension (.ListComp elt [⟨tg, iter, ifs, 0⟩] sc p1) sc X.env p2 (newList []) false (eval iter X.env) use) Qf X.xe s := by
  have cls : ∀ y ∈ sc.names, y.2 = .free → ∃ c, X.env.cells.lookup y.1 = some c := fun y hy e => (ok.free y hy e).elim (fun z => I.ok.has _ (.inl z)) fun z => I.ok.has _ (.inr z)
  refine comp_run (use := use) rfl hs (closure_ok cls) ok.kind (fun y hy e => by rw [ok.uniq y hy, e]) (thn (hi.run pins s σ H _ I h) fun _ _ hx => thn hx fun _ t2 k2 => ?_)
  obtain ⟨it, fp, tn, J, H2, rfl, I2, T, st2, f2, q⟩ := k2
  refine wpAny_newObj_type (newEnv_comp ?_) (by show 0 ≤ sizeLine; decide)
  generalize hD : t2.heap.objs.size = D
  have freeD : H2 D = none := I2.hok.fresh (Nat.le_of_eq hD)
  obtain ⟨W, ⟨m0, w0⟩, turn⟩ := q D freeD
  generalize h3 : ({ t2 with heap := t2.heap.push { cls := .type "list", data := .seq ([] : List Value).toArray } } : Shared) = t3
  have p3 : t3.heap = t2.heap.push { cls := .type "list", data := .seq ([] : List Value).toArray } := by rw [← h3]
  have I3 : Inv X pins σ (upd H2 D (.lst [])) t3 := by
    rw [← h3]
    exact I2.laid (t' := t2.toks) (fun b o e => Heap.get?_push_of_some _ e) (Nat.le_of_eq hD) ⟨Nat.zero_le _, [], 0, .nil, by rw [← hD]; exact Heap.get?_push_size _ rfl⟩
  have young : ∀ b ∈ fp, b < t2.heap.objs.size := fun b hb => by
    obtain ⟨_, e, _⟩ := T.obj _ _ st2 b hb
    exact Heap.lt_size e
  have f3 : ∀ b ∈ fp, FpOk X pins (upd H2 D (.lst [])) b ∧ b < t3.heap.objs.size := fun b hb => by
    have lt := young b hb
    refine ⟨⟨?_, (f2 b hb).2⟩, by rw [p3, Heap.size_push]; exact Nat.lt_succ_of_lt lt⟩
    rw [upd_ne (by rw [← hD]; exact Nat.ne_of_lt lt)]
    exact (f2 b hb).1
  have st3 : tn 0 t3.heap := T.keep _ _ _ st2 fun b _ o e => by rw [p3]; exact Heap.get?_push_of_some _ e
  have I4 := block_start I3 ok nd f3
  have pg := hg t3 (upd H2 D (.lst [])) t3.heap.objs.size (cellsFrom (t3.heap.objs.size + 1) sc.names (cloFrom X.env.cells sc.names [])) fp
  have pt := ht t3 (upd H2 D (.lst [])) t3.heap.objs.size (cellsFrom (t3.heap.objs.size + 1) sc.names (cloFrom X.env.cells sc.names [])) fp
  have pe := fun (W : WX) (xe : Value → Shared → Prop) => he W t3 (upd H2 D (.lst [])) t3.heap.objs.size (cellsFrom (t3.heap.objs.size + 1) sc.names (cloFrom X.env.cells sc.names [])) fp xe
  refine ⟨rfl, ?_⟩
  show codeAny _ _ (.compStart (.ListComp elt [⟨tg, iter, ifs, 0⟩] sc p1) 0 (.ref it) (.ref D) (compEnvC sc (cellsFrom (t3.heap.objs.size + 1) sc.names (cloFrom X.env.cells sc.names [])) t3.heap.objs.size X.env)) (endC (model X.prog X.w) X.A X.xe use Qf X.env.frame (.ref D) t3.heap.objs.size) { t3 with heap := pushCells (t3.heap.push { cls := .type "dict", data := .dict #[] }) sc.names }
  have nfp : ∀ b ∈ fp, (upd H2 D (.lst [])) b = none := fun b hb => (f3 b hb).1.1
  generalize hce : compEnvC sc (cellsFrom (t3.heap.objs.size + 1) sc.names (cloFrom X.env.cells sc.names [])) t3.heap.objs.size X.env = ce at I4 pg pt pe ⊢
  have cL : ce.locals = t3.heap.objs.size := by subst hce; rfl
  have cF : ce.frame = X.env.frame := by subst hce; rfl
  generalize hH3 : upd H2 D (.lst []) = H3 at I3 I4 pg pt pe w0 nfp f3
  generalize h4 : ({ t3 with heap := pushCells (t3.heap.push { cls := .type "dict", data := .dict #[] }) sc.names } : Shared) = t4 at I4 ⊢
  have st4 : tn 0 t4.heap := T.keep _ _ _ st3 fun b _ o e => by rw [← h4]; exact pushCells_keeps _ _ _ _ (Heap.get?_push_of_some _ e)
  have stat : ∀ {σ9 : St} {H9 : Hp} {t9 : Shared}, Inv (X.blk t3 H3 sc ce fp) [] σ9 H9 t9 → (∀ b ∈ fp, H9 b = none) → ∀ b ∈ fp, FpOk (X.blk t3 H3 sc ce fp) [] H9 b := fun {σ9 H9 t9} J9 n b hb =>
    ⟨n b hb, (J9.ok.exf b hb).1, J9.ok.exfs b hb, .inl hb, fun y c e => (J9.ok.exf b hb).2 y c e, fun p hp => absurd (show p ∈ ([] : List (Addr × Obj)) ++ [] from hp) (by simp)⟩
  have far : ∀ b ∈ fp, (b ∈ X.ex ∨ X.s_0.heap.objs.size ≤ b) ∧ b ≠ X.env.locals ∧ (∀ y c, X.env.cells.lookup y = some c → c ≠ b) ∧ ∀ p ∈ X.pn ++ pins, p.1 ≠ b := fun b hb =>
    ⟨(f3 b hb).1.2.2.2.1, (f3 b hb).1.2.1, (f3 b hb).1.2.2.2.2.1, (f3 b hb).1.2.2.2.2.2⟩
  -- what the item raises
  generalize hxe : (notedBy (model X.prog X.w) X.A ce fun e t9 => endC (model X.prog X.w) X.A X.xe use Qf X.env.frame (.ref D) t3.heap.objs.size (.error e) t9) = xe
  have tkB : DL.Takes (X.blx t3 H3 sc ce fp xe) (outX Wo σ) := ⟨fun u t x => by
    rw [← hxe]
    exact xe_offBlock (fun _ _ => L2N.Zn.steady) hst hfm tk.n I3 far cF cL x, fun u t x => by
    rw [← hxe]
    exact xe_offBlock (Wo := DL.loosely X.mg Wo) (fun _ _ => zc_steady1) hst hfm tk.c I3 far cF cL x⟩
  have pe := pe (outX Wo σ) xe tkB
  have loop : codeAny (model X.prog X.w) X.A (.compLoop (.ListComp elt [⟨tg, iter, ifs, 0⟩] sc p1) 0 (.ref it) (.ref D) ce) (endC (model X.prog X.w) X.A X.xe use Qf X.env.frame (.ref D) t3.heap.objs.size) t4 := by
    refine compLoop_any (fun n t => ∃ i H9, Inv (X.blk t3 H3 sc ce fp) [] (wipe σ (own.map (·.2))) H9 t ∧ tn i t.heap ∧ (∀ b ∈ fp, H9 b = none) ∧ W i n H9) ?_ m0 ⟨0, H3, I4, st4, nfp, w0⟩
    rintro n t5 ⟨i, H5, I5, st5, n5, w5⟩
    rw [hxe]
    rcases turn i n H5 w5 with ⟨stop, qq⟩ | ⟨go, Nx, hNx, step⟩
    · refine thnF (T.done (X.blk t3 H3 sc ce fp) rfl rfl rfl calm i [] t5 _ H5 (fun _ _ => False) I5 (stat I5 n5) st5 stop) fun r t6 ⟨hr, I6⟩ => ?_
      subst hr
      have I7 : Inv X pins σ H5 t6 := I3.call' (ch := fp) I6.os I6.base I6.hok I6.bare far
      have nC : H5 t3.heap.objs.size = none := cL ▸ I6.free
      obtain ⟨m, hn, _⟩ := I6.loc
      exact done D _ t6 m H5 I7 qq (cL ▸ hn) (I3.fpOk (Nat.le_refl _) nC)
    · refine thnF (T.item (X.blk t3 H3 sc ce fp) rfl rfl rfl calm i [] t5 _ H5 (fun _ _ => False) I5 (stat I5 n5) st5 go) fun r t6 ⟨u, hr, k6⟩ => ?_
      subst hr
      refine thnF k6 fun _ t7 ⟨x, H7, I7, r7, y7, st7, n7⟩ => ?_
      have I7' := I7.pinned (stat I7 n7) (T.obj _ _ st7)
      refine thnF (pg.run _ t7 _ H7 x u _ I7' r7 (step x H7 y7)) fun _ t8 ⟨σ8, H8, I8, hw8, q8⟩ => ?_
      refine thnF (pt.run _ t8 σ8 H8 _ I8 q8) fun b t9 ⟨H9, I9, q9⟩ => ?_
      have fin : ∀ {t : Shared} {Hz : Hp}, Inv (X.blk t3 H3 sc ce fp) ([] ++ pinsAt fp t7.heap) σ8 Hz t → Nx Hz → ∃ m, m < n ∧ ∃ i H9, Inv (X.blk t3 H3 sc ce fp) [] (wipe σ (own.map (·.2))) H9 t ∧ tn i t.heap ∧ (∀ b ∈ fp, H9 b = none) ∧ W i m H9 := fun {t Hz} Iz nx => by
        obtain ⟨m9, hm, w9⟩ := hNx Hz nx
        have held : ∀ b ∈ fp, ∀ o, t7.heap.get? b = some o → t.heap.get? b = some o ∧ Hz b = none := fun b hb o e => by
          obtain ⟨z1, z2, _⟩ := Iz.pin (b, o) (List.mem_append_right _ (List.mem_append_right _ (mem_pinsAt hb e)))
          exact ⟨z1, z2⟩
        refine ⟨m9, hm, i + 1, Hz, (Iz.unpinned (pins := [])).weak (by rw [← hw8, wipe_length]) (fun j v e => ?_), T.keep _ _ _ st7 fun b hb o e => (held b hb o e).1, fun b hb => ?_, w9⟩
        · rw [← hw8] at e
          exact (wipe_some e).1
        · obtain ⟨o, e, _⟩ := T.obj _ _ st7 b hb
          exact (held b hb o e).2
      cases b with
      | true =>
        simp only [if_true] at q9 ⊢
        refine wpAny_mono (pe.run _ t9 σ8 H9 _ I9.toX q9) (fun z t10 ⟨yv, H10, I10, r10, acc, hD10, hz10, nx⟩ => ?_) fun _ _ z => z
        exact app_ok (X := X.blk t3 H3 sc ce fp) I10.ofX hD10 hz10 r10 fun t11 I11 => fin I11 nx
      | false =>
        simp only [Bool.false_eq_true, if_false] at q9 ⊢
        exact fin I9 q9
  exact codeAny_compStart_list loop (T.self X.A 0 _ _ _ st4 loop)
/-- [elt for .. in ..], the item may raise -/
theorem pe_lcx {Wo : WX} {elt tg iter : Expr} {ifs : List Expr} {sc : Scope} {own : List (Str × Nat)} {pos : Pos} {wi : TI} {g : TG} {tt : TT} {te : WX → TE}
    (hst : X.stack = X.env :: X.outer) (hfm : X.env.frame = some X.env.locals) (calm : X.calm = true) (nd : X.N.Nodup) (tk : DL.Takes X Wo) (hi : PI X tg iter wi) (ok : BlkOk X.N X.env.scope sc own)
    (hg : ∀ (s : Shared) (H : Hp) (C : Addr) (cl : List (Str × Addr)) (fp : List Addr), PG (X.blk s H sc (compEnvC sc cl C X.env) fp) tg g)
    (ht : ∀ (s : Shared) (H : Hp) (C : Addr) (cl : List (Str × Addr)) (fp : List Addr), PTs (X.blk s H sc (compEnvC sc cl C X.env) fp) ifs tt)
    (he : ∀ (W : WX) (s : Shared) (H : Hp) (C : Addr) (cl : List (Str × Addr)) (fp : List Addr) (xe : Value → Shared → Prop), DL.Takes (X.blx s H sc (compEnvC sc cl C X.env) fp xe) W → PE (X.blx s H sc (compEnvC sc cl C X.env) fp xe) elt (te W))
    (hs : ∀ x, foldedSetIterable iter X.env x = pure x := by intro _; rfl) :
    PE X (.ListComp elt [⟨tg, iter, ifs, 0⟩] sc pos) (fun σ H Q => tLc wi g tt (te (outX Wo σ)) (own.map (·.2)) σ H Q) := by
  refine ⟨fun pins s σ H Q I h => ?_⟩
  rw [eval_ListComp]
  refine lcx_run (Wo := Wo) hst hfm calm nd tk I hi ok hg ht he hs h fun D C t m H9 J q hn f => ⟨m, hn, fun h9 sb => ?_⟩
  obtain ⟨f0, f1, f2, f3, f4, f5⟩ := f
  exact ⟨.ref D, H9, J.turned (t' := t.toks) (fun b o hb e => (sb.2 b hb).trans e) f0 f1 f3 f4 f5, rfl, q⟩
/-- y = [elt for .. in ..] on one line, the item may raise -/
theorem ps_setLcx {Wo : WX} {i : Nat} {y : Str} {py : Pos} {elt tg iter : Expr} {ifs : List Expr} {sc : Scope} {own : List (Str × Nat)} {pos spos : Pos} {wi : TI} {g : TG} {tt : TT} {te : WX → TE}
    (hst : X.stack = X.env :: X.outer) (hfm : X.env.frame = some X.env.locals) (calm : X.calm = true) (nd : X.N.Nodup) (tk : DL.Takes X Wo) (hy : X.N[i]? = some y) (hyl : X.env.scope.names.lookup y = some .local)
    (hsw : swapsWith (.ListComp elt [⟨tg, iter, ifs, 0⟩] sc pos) (some (.Name y py)) spos.line X.env = pure true) (hi : PI X tg iter wi) (ok : BlkOk X.N X.env.scope sc own)
    (hg : ∀ (s : Shared) (H : Hp) (C : Addr) (cl : List (Str × Addr)) (fp : List Addr), PG (X.blk s H sc (compEnvC sc cl C X.env) fp) tg g)
    (ht : ∀ (s : Shared) (H : Hp) (C : Addr) (cl : List (Str × Addr)) (fp : List Addr), PTs (X.blk s H sc (compEnvC sc cl C X.env) fp) ifs tt)
    (he : ∀ (W : WX) (s : Shared) (H : Hp) (C : Addr) (cl : List (Str × Addr)) (fp : List Addr) (xe : Value → Shared → Prop), DL.Takes (X.blx s H sc (compEnvC sc cl C X.env) fp xe) W → PE (X.blx s H sc (compEnvC sc cl C X.env) fp xe) elt (te W))
    (hs : ∀ x, foldedSetIterable iter X.env x = pure x := by intro _; rfl) :
    PS X (.Assign [.Name y py] (.ListComp elt [⟨tg, iter, ifs, 0⟩] sc pos) spos) (fun D σ H => tLc wi g tt (te (outX Wo σ)) (own.map (·.2)) σ H fun x H1 => gName i x σ H1 D.nx) := by
  refine ⟨fun pins s σ H D I h => ?_⟩
  rw [exec_Assign_Name_used _ _ _ _ hsw]
  refine wpAny_bind (wpAny_standAt (wpAny_bind ?_))
  show wpAny _ X.A (do let _ ← comprehension (.ListComp elt [⟨tg, iter, ifs, 0⟩] sc pos) sc X.env (firstIterPos [⟨tg, iter, ifs, 0⟩] pos) (newList []) false (eval iter X.env) (some (assign (.Name y py) X.env))) _ _ s
  refine wpAny_bind (thn (lcx_run (Wo := Wo) (Qf := fun _ t => SP X pins D .next t) hst hfm calm nd tk I hi ok hg ht he hs h fun L C t m H9 J q hn f => ?_) fun _ t hq => wpAny_pure (wpAny_pure hq))
  show wpAny _ _ (assign (.Name y py) X.env (.ref L)) _ _ _
  refine wpAny_assign_Name (store_ok2 (v := V.ref L) J nd hy (.inl hyl) rfl (fun t2 J2 ⟨b, sb, hb⟩ => ?_) (.inr hyl))
  obtain ⟨f0, f1, f2, f3, f4, f5⟩ := f
  have off : C ≠ b := by
    rcases hb with z | z
    · rw [z]; exact f1
    · exact fun e => f4 y b z e.symm
  exact ⟨m, hn.sameBut sb off, fun h9 sb9 => ⟨_, H9, J2.turned (t' := t2.toks) (fun b o hb e => (sb9.2 b hb).trans e) f0 f1 f3 f4 f5, q⟩⟩
end
end L2

/-! data of comprehensions whose item may raise -/
namespace DL
open PySem PySem.Spec L2
open PyProof.Rows hiding St
section
variable {X : Cx} {W : WX} {pos p spos : Pos}
def wLcX (vs : List Nat) (wi : DI) (g : DG) (tt : DT) (te : DE) : DE := fun Y env G Q => wi Y env G fun items stay G1 => lcL stay g tt (fun _ => te Y) (wipeD env vs) Q items [] G1
theorem lcx_parts {K : PySem.W.Frag} {vs : List Nat} {wi : DI} {t : TG} {g : DG} {tt : DT} {te : DE} (go : GOk K vs t g) {σ : L2.St} {H : Hp} {Q : VK} (h : TEl K W (wLcX vs wi g tt te) σ H Q) :
    tLc (TIl K W wi) t (TTl K W0 tt) (TEl K (outX W σ) te) vs σ H Q := by
  obtain ⟨Y, env, G, P, er, wg, h, k, kx⟩ := h
  refine ⟨Y, env, G, _, er, wg, h, fun items stay G1 H1 J p w1 x1 it D hD => ?_, kx⟩
  refine ⟨fun i m H' => ∃ G' acc ad, m = items.length - i ∧ i ≤ items.length ∧ H' D = some (.lst acc) ∧ VRs K H' acc ad ∧ WG K G' H' ∧ G' D = none ∧ Ext G1 H1 G' H' ∧ lcL stay g tt (fun _ => te Y) (wipeD env vs) P (items.drop i) ad G',
    ⟨_, G1, [], [], rfl, Nat.zero_le _, upd_same, .nil, w1.new hD, w1.non hD, Ext.new hD, by simpa using p⟩, ?_⟩
  rintro i m H' ⟨G', acc, ad, rfl, hle, eD, ra, w', nD, x', f⟩
  cases q : items.drop i with
  | nil =>
    rw [q] at f
    have hl : items.length = i := Nat.le_antisymm (List.drop_eq_nil_iff.mp q) hle
    refine .inl ⟨it.stop i H' G' w' x' f.1 hl, k _ _ _ _ (f.2 D nD) (fun a c e => ?_) (fun a o e n => ?_) (.ref D)⟩
    · by_cases ha : a = D
      · subst ha
        rw [gup_same] at e; cases e
        exact ⟨acc, eD, ra⟩
      · rw [gup_ne ha] at e
        exact w' a c e
    · obtain ⟨e2, n2⟩ := (x1.trans x') a o e n
      obtain ⟨e3, _⟩ := x1 a o e n
      have ha : a ≠ D := by rintro rfl; rw [hD] at e3; cases e3
      exact ⟨e2, by rw [gup_ne ha]; exact n2⟩
  | cons d r =>
    rw [q] at f
    obtain ⟨hd, hr, hl⟩ := drop_cons q
    obtain ⟨jg, jy⟩ := it.go i H' G' d w' x' f.1 hd
    refine .inr ⟨jg, fun H2 => ∃ G2 acc2 ad2, H2 D = some (.lst acc2) ∧ VRs K H2 acc2 ad2 ∧ WG K G2 H2 ∧ G2 D = none ∧ Ext G1 H1 G2 H2 ∧ lcL stay g tt (fun _ => te Y) (wipeD env vs) P r ad2 G2,
      fun H2 ⟨G2, acc2, ad2, a1, a2, a3, a4, a5, a6⟩ => ⟨items.length - (i + 1), by omega, G2, acc2, ad2, rfl, hl, a1, a2, a3, a4, a5, by rw [hr]; exact a6⟩, fun y H2 hy => ?_⟩
    obtain ⟨w2, x2, rv⟩ := jy y H2 hy
    obtain ⟨eD2, nD2⟩ := x2 D _ eD nD
    have ew : ER K H' σ env := er.ext wg (x1.trans x')
    refine go.mo _ _ _ _ _ (go.kp _ _ _ _ (go.sim _ _ _ _ ⟨d, wipeD env vs, G', _, rv, (ew.wipe vs).ext w' x2, w2, f.2, fun env3 G3 σ3 H3 p3 e3 w3 x3 => (?_ : TTl K W0 tt σ3 H3 _)⟩)) fun σ3 H3 ⟨q3, e3⟩ => ⟨e3.trans (wipe_wipe vs), q3⟩
    refine ⟨_, env3, G3, _, e3, w3, p3, fun b G4 H4 p4 w4 x4 => ?_, xle0⟩
    have t4 := (x2.trans x3).trans x4
    obtain ⟨eD4, nD4⟩ := t4 D _ eD nD
    cases b with
    | false =>
      simp only [Bool.false_eq_true, if_false] at p4 ⊢
      exact ⟨G4, acc, ad, eD4, ra.ext w' t4, w4, nD4, x'.trans t4, p4⟩
    | true =>
      simp only [if_true] at p4 ⊢
      refine ⟨_, env3, G4, _, e3.ext w3 x4, w4, p4, fun z G5 vz H5 p5 w5 x5 r5 => ?_, kx.step (x1.trans (x'.trans ((x2.trans x3).trans x4)))⟩
      have t5 := t4.trans x5
      obtain ⟨eD5, nD5⟩ := t5 D _ eD nD
      have ra5 := ra.ext w' t5
      -- the new list is a cell for a moment
      have wp : WG K (gup G5 D (.lst ad)) H5 := fun a c e => by
        by_cases ha : a = D
        · subst ha
          rw [gup_same] at e; cases e
          exact ⟨acc, eD5, ra5⟩
        · rw [gup_ne ha] at e
          exact w5 a c e
      have r6 : VRs K H5 (acc ++ [vz]) (ad ++ [z]) := ra5.app (.one r5)
      have xp : Ext (gup G5 D (.lst ad)) H5 (gup (gup G5 D (.lst ad)) D (.lst (ad ++ [z]))) (upd H5 D (.lst (acc ++ [vz]))) := Ext.setC gup_same
      refine ⟨acc, eD5, by rw [ra.len]; exact p5.1, G5, acc ++ [vz], ad ++ [z], upd_same, r6.ext wp xp, ?_, nD5, fun a o e n => ?_, p5.2⟩
      · refine (wp.setL gup_same r6).less fun a c e => ?_
        have ha : a ≠ D := by rintro rfl; rw [nD5] at e; cases e
        rw [gup_ne ha, gup_ne ha]; exact e
      · obtain ⟨e6, n6⟩ := (x'.trans t5) a o e n
        have ha : a ≠ D := by rintro rfl; rw [hD] at e; cases e
        exact ⟨by rw [upd_ne ha]; exact e6, n6⟩
theorem q_lcx {elt tg iter : Expr} {ifs : List Expr} {scope : Scope} (own : List (Str × Nat)) {wi : DI} {t : TG} {g : DG} {tt : DT} {te : DE} (hst : X.stack = X.env :: X.outer) (hfm : X.env.frame = some X.env.locals) (hc : X.calm = true) (hN : X.N.Nodup) (tk : Takes X W) (hi : QI X W tg iter wi) (ok : blkC X.N X.env.scope scope own = true)
    (hg : ∀ (s : Shared) (H : Hp) (C : Addr) (cl : List (Str × Addr)) (fp : List Addr), PG (X.blk s H scope (compEnvC scope cl C X.env) fp) tg t) (go : GOk X.K (own.map (·.2)) t g)
    (ht : ∀ (s : Shared) (H : Hp) (C : Addr) (cl : List (Str × Addr)) (fp : List Addr), QTs (X.blk s H scope (compEnvC scope cl C X.env) fp) W0 ifs tt)
    (he : ∀ (W : WX) (s : Shared) (H : Hp) (C : Addr) (cl : List (Str × Addr)) (fp : List Addr) (xe : Value → Shared → Prop), Takes (X.blx s H scope (compEnvC scope cl C X.env) fp xe) W → QE (X.blx s H scope (compEnvC scope cl C X.env) fp xe) W elt te) (hs : ∀ x, foldedSetIterable iter X.env x = pure x := by intro _; rfl) :
    QE X W (.ListComp elt [⟨tg, iter, ifs, 0⟩] scope pos) (wLcX (own.map (·.2)) wi g tt te) :=
  ⟨PE.wk (pe_lcx (Wo := W) (te := fun W => TEl X.K W te) hst hfm hc hN tk hi.pi (blkOk_by ok) hg (fun a b c d f => (ht a b c d f).pts) (fun W a b c d f xe tk => (he W a b c d f xe tk).pe) hs) fun σ H Q h => lcx_parts go h⟩
/-- y = [..] on one line, y a plain local -/
theorem qs_setLcx (i : Nat) {y : Str} {py : Pos} {elt tg iter : Expr} {ifs : List Expr} {scope : Scope} (own : List (Str × Nat)) {wi : DI} {t : TG} {g : DG} {tt : DT} {te : DE} (hst : X.stack = X.env :: X.outer) (hfm : X.env.frame = some X.env.locals) (hc : X.calm = true) (hN : X.N.Nodup) (tk : Takes X W) (hi : QI X W tg iter wi) (ok : blkC X.N X.env.scope scope own = true)
    (hg : ∀ (s : Shared) (H : Hp) (C : Addr) (cl : List (Str × Addr)) (fp : List Addr), PG (X.blk s H scope (compEnvC scope cl C X.env) fp) tg t) (go : GOk X.K (own.map (·.2)) t g)
    (ht : ∀ (s : Shared) (H : Hp) (C : Addr) (cl : List (Str × Addr)) (fp : List Addr), QTs (X.blk s H scope (compEnvC scope cl C X.env) fp) W0 ifs tt)
    (he : ∀ (W : WX) (s : Shared) (H : Hp) (C : Addr) (cl : List (Str × Addr)) (fp : List Addr) (xe : Value → Shared → Prop), Takes (X.blx s H scope (compEnvC scope cl C X.env) fp xe) W → QE (X.blx s H scope (compEnvC scope cl C X.env) fp xe) W elt te) (hs : ∀ x, foldedSetIterable iter X.env x = pure x := by intro _; rfl)
    (hy : X.N[i]? = some y := by rfl) (hyl : X.env.scope.names.lookup y = some .local := by rfl) (hk : X.env.scope.kind = .function := by rfl) (hl : (py.line == pos.line) = true := by rfl)
    (ha : (scope.names.any fun (n, k) => n == y && (k == .local || k == .cell)) = false := by rfl) :
    QS X W (.Assign [.Name y py] (.ListComp elt [⟨tg, iter, ifs, 0⟩] scope pos) spos) (wSet i (wLcX (own.map (·.2)) wi g tt te)) :=
  ⟨PS.wk (ps_setLcx (i := i) (Wo := W) (te := fun W => TEl X.K W te) hst hfm hc hN tk hy hyl (sw_true hk hyl hl ha) hi.pi (blkOk_by ok) hg (fun a b c d f => (ht a b c d f).pts) (fun W a b c d f xe tk => (he W a b c d f xe tk).pe) hs) fun D σ H ⟨env, G, De, er, wg, h, le⟩ =>
    lcx_parts go ⟨_, env, G, _, er, wg, h, fun d G' v H' p w' x' r => le.nx _ _ _ _ p ((er.ext wg x').set r i) w' x', le.xle wg er⟩⟩
/-- the step of it -/
theorem s_lcX {vs : List Nat} {wi : DI} {g : DG} {tt : DT} {te : DE} {Y : DX} {env : Dv} {G : Gh} {Q : DV → Gh → Prop} (h : wi Y env G fun items stay G1 => lcL stay g tt (fun _ => te Y) (wipeD env vs) Q items [] G1) : wLcX vs wi g tt te Y env G Q := h
end
end DL

/-! texts: a tuple joined, the place of a text in a list -/
namespace DL
open PySem PySem.Spec L2
open PyProof.Rows hiding St
def dJoinT : DM := fun x ds G Q => match x, ds with
  | .str a, [.tup l] => ∃ ys : List Str, l = ys.map .str ∧ (ys.map (·.length)).sum + ys.length * a.length ≤ 16777216 ∧ Q (.str (Txt.join a ys)) G
  | _, _ => False
theorem m_joinT {X : Cx} : MtD X "str.join" dJoinT := by
  rintro pins s σ H x xs v us Q I rx rs ⟨dx, ds, G, P, vx, vs, wg, h, k⟩
  match dx, ds, vx, vs, h with
  | .str a, [.tup l], .str _, .cons (.tup hp r) .nil, ⟨ys, e, hz, h⟩ =>
    subst e
    rw [strs_vrs r] at hp
    exact mt_join pins s σ H _ _ v us Q I rx rs ⟨a, _, ys, rfl, rfl, .inr (SqT.of hp), hz, op_end wg k h (.str _)⟩
section
variable {G : Gh} {Q : DV → Gh → Prop} {a : Str} {ys : List Str}
theorem s_joinT (hz : (ys.map (·.length)).sum + ys.length * a.length ≤ 16777216) (q : Q (.str (Txt.join a ys)) G) : dJoinT (.str a) [.tup (ys.map .str)] G Q := ⟨ys, rfl, hz, q⟩
theorem x_indexS {p : Addr} {l : List Str} {x : Str} {j : Nat} (he : G p = some (.lst (l.map DV.str))) (hj : l[j]? = some x) (hm : ∀ m : Nat, m < j → l[m]? ≠ some x) (q : Q (.int (j : Nat)) G) : dIndexL (.ref p) [.str x] G Q :=
  ⟨_, j, .str x, he, rfl, by rw [List.all_map]; exact List.all_eq_true.mpr fun _ _ => rfl, by rw [List.getElem?_map, hj]; rfl, by show (x == x) = true; simp, fun m z' hmj hz' => by
    rw [List.getElem?_map] at hz'
    cases e : l[m]? with
    | none => rw [e] at hz'; cases hz'
    | some u =>
      rw [e] at hz'
      cases hz'
      show (u == x) = false
      rw [beq_eq_false_iff_ne]
      rintro rfl
      exact hm m hmj e, q⟩
end
end DL

/-! ### min(xs, default=d) of a list of ints -/
namespace PySem
section
variable {P : Program} {w : World} {A : Around} {R : Result → Shared → Prop} {it best : Addr} {fp wr : List Addr} {n : Nat} {Pv : Nat → Value → Prop} {St : Nat → Heap → Prop} {d : Value} {lt : Nat → Nat → Bool}
/-- what stands in the list of the best behind j items -/
def MinUp (Pv : Nat → Value → Prop) (lt : Nat → Nat → Bool) (j : Nat) (old : Array Value) : Prop := (j = 0 ∧ old = #[]) ∨ ∃ v, 0 < j ∧ old = #[v, v] ∧ Pv (argBest lt (j - 1)) v
/-- what min tells at last -/
def MinEnd (Pv : Nat → Value → Prop) (lt : Nat → Nat → Bool) (d : Value) (n : Nat) (v : Value) : Prop := (n = 0 ∧ v = d) ∨ (0 < n ∧ Pv (argBest lt (n - 1)) v)
theorem min_turns (W : Walks P w A.in1 it fp wr n Pv St) (less : CmpOf P w A.in1 .Lt Pv lt) (off : best ∉ fp) : ∀ (m j : Nat) (s : Shared) (old : Array Value) (c : Nat), j + m = n → St j s.heap → MinUp Pv lt j old →
    s.heap.get? best = some { cls := .type "list", dict := none, data := .seq old c, slots := #[] } →
    (∀ v h' tk, MinEnd Pv lt d n v → (∀ b o, b ∉ wr → b ≠ best → s.heap.get? b = some o → h'.get? b = some o) → R (.ok (.ret v)) { s with heap := h', toks := tk }) →
    codeAny (model P w) A (.builtin "min.loop" ⟨[.ref it, .none, .ref best], [("default", d)]⟩) R s := by
  have nm : (toString "min" ++ toString ".loop" : String) = "min.loop" := by decide
  have ow : best ∉ wr := fun h => off (W.sub _ h)
  have z2 : ∀ v : Value, (#[v, v] : Array Value).size ≤ sizeLine := fun v => Nat.le_of_ble_eq_true rfl
  intro m
  induction m with
  | zero =>
    intro j s old c hj st up at_ fin
    obtain rfl : j = n := hj
    apply codeAny_builtin F.entry_min_loop
    rw [Around.under_plainId F.plain_min_loop _]
    refine wpAny_bind (wpAny_seqItems at_ rfl (wpAny_bind (wpAny_tryCatch (W.done s _ _ st fun h' tk kept => ?_))))
    rcases up with ⟨h0, rfl⟩ | ⟨v, h0, rfl, hv⟩
    · exact wpAny_bind (wpAny_rule (wpAny_pure (fin d h' tk (.inl ⟨h0, rfl⟩) fun b o n1 _ e => kept b o n1 e)))
    · change wpAny _ _ (updateSeq best (fun _ => #[]) >>= fun _ => letGo [v] [v] >>= fun _ => ret v) _ _ _
      exact wpAny_bind (wpAny_updateSeq (f := fun _ => #[]) (kept best _ ow at_) rfl (hz := z2 v) (_hz' := Nat.zero_le _) (wpAny_bind (wpAny_letGo (wpAny_pure (fin v _ tk (.inr ⟨h0, hv⟩) fun b o n1 n2 e => (Heap.get?_update_other _ _ (Ne.symm n2)).trans (kept b o n1 e))))))
  | succ m later =>
    intro j s old c hj st up at_ fin
    have jn : j < n := by omega
    apply codeAny_builtin F.entry_min_loop
    rw [Around.under_plainId F.plain_min_loop _]
    refine wpAny_bind (wpAny_seqItems at_ rfl (wpAny_bind (wpAny_tryCatch (W.item j s _ _ jn st fun v h' tk hv st' kept => ?_))))
    have at' := kept best _ ow at_
    have keep2 : ∀ {f : Array Value → Array Value} (b : Addr) (o : Obj), b ≠ best → h'.get? b = some o → (h'.update best (Obj.mapSeq f)).get? b = some o := fun b o n2 e => (Heap.get?_update_other _ _ (Ne.symm n2)).trans e
    have st2 : ∀ f : Array Value → Array Value, St (j + 1) (h'.update best (Obj.mapSeq f)) := fun f => W.frame _ _ _ st' fun b hb o e => keep2 b o (fun z => off (z ▸ hb)) e
    rcases up with ⟨rfl, rfl⟩ | ⟨vb, h0, rfl, hb⟩
    · change wpAny _ _ (updateSeq best (fun _ => #[v, v]) >>= fun _ => again _) _ _ _
      refine wpAny_bind (wpAny_updateSeq (f := fun _ => #[v, v]) at' rfl ?_ (hz := Nat.zero_le _) (_hz' := Nat.le_succ_of_le (z2 v)))
      rw [nm]
      exact wpAny_pure ⟨plainId_quiet F.plain_min_loop _, later 1 _ #[v, v] _ (by omega) (st2 _) (.inr ⟨v, Nat.one_pos, rfl, hv⟩) (Heap.get?_update_self _ at' rfl) fun u h2 tk2 e2 k2 => fin u h2 tk2 e2 fun b o n1 n2 e => k2 b o n1 n2 (keep2 b o n2 (kept b o n1 e))⟩
    · change wpAny _ _ (tryCatch (holding [v, v] (richCompare .Lt v vb >>= _)) _ >>= _) _ _ _
      refine wpAny_bind (wpAny_tryCatch (wpAny_holding (wpAny_bind (less j (argBest lt (j - 1)) v vb _ _ _ hv hb (wpAny_bind (wpAny_holding (wpAny_truthy_bool (wpAny_bind (wpAny_letGo (wpAny_pure ?_))))))))))
      obtain ⟨i, rfl⟩ : ∃ i, j = i + 1 := ⟨j - 1, by omega⟩
      rw [Nat.add_sub_cancel] at hb ⊢
      by_cases q : lt (i + 1) (argBest lt i) = true
      · rw [if_pos q]
        change wpAny _ _ (updateSeq best (fun _ => #[v, v]) >>= fun _ => letGo [vb, vb] >>= fun _ => again _) _ _ _
        refine wpAny_bind (wpAny_updateSeq (f := fun _ => #[v, v]) at' rfl (wpAny_bind (wpAny_letGo ?_)) (hz := z2 vb) (_hz' := Nat.le_succ_of_le (z2 v)))
        rw [nm]
        exact wpAny_pure ⟨plainId_quiet F.plain_min_loop _, later (i + 2) _ #[v, v] _ (by omega) (st2 _) (.inr ⟨v, by omega, rfl, by rw [show i + 2 - 1 = i + 1 from rfl, argBest, if_pos q]; exact hv⟩) (Heap.get?_update_self _ at' rfl) fun u h2 tk2 e2 k2 => fin u h2 tk2 e2 fun b o n1 n2 e => k2 b o n1 n2 (keep2 b o n2 (kept b o n1 e))⟩
      · rw [if_neg q]
        refine wpAny_bind (wpAny_letGo ?_)
        rw [nm]
        exact wpAny_pure ⟨plainId_quiet F.plain_min_loop _, later (i + 2) _ #[vb, vb] c (by omega) st' (.inr ⟨vb, by omega, rfl, by rw [show i + 2 - 1 = i + 1 from rfl, argBest, if_neg q]; exact hb⟩) at' fun u h2 tk2 e2 k2 => fin u h2 tk2 e2 fun b o n1 n2 e => k2 b o n1 n2 (kept b o n1 e)⟩
end
theorem min_default_args (a v : Value) : argsOk "min" ⟨[a], [("default", v)]⟩ := by unfold argsOk; kernel_rfl
/-- the call, for a list of ints -/
theorem min_default {P : Program} {w : World} {A : Around} {E : Value → Shared → Prop} {s : Shared} {d : Value} {l : Addr} {xs : Array (Int × Tok)} {Q : Value → Shared → Prop} (hh : A.handled = none) (hl : s.heap.IsList l (intItems xs))
    (q : ∀ v h' tk, MinEnd (fun i v => (intItems xs)[i]? = some v) (fun i j => decide (numAt xs i < numAt xs j)) d (intItems xs).size v → (∀ b o, s.heap.get? b = some o → h'.get? b = some o) → Q v { s with heap := h', toks := tk }) :
    wpAny (model P w) A (call (.builtin "min") [.ref l] [("default", d)]) Q E s := by
  have nm : (toString "min" ++ toString ".loop" : String) = "min.loop" := by decide
  refine PyProof.Rows.kmk_tree F.kind_min F.plain_min F.entry_min (min_default_args _ _) (wpAny_bind (wpAny_of_eq (show Builtin.Builtins.bindParams "min" ["key", "default"] 0 ⟨[], [("default", d)]⟩ = pure [none, some d] from rfl) (wpAny_bind (wpAny_pure (wpAny_bind (iter_intList hl fun s2 e st old hne => ?_))))))
  subst e
  refine wpAny_bind (wpAny_newObj_type ?_)
  rw [nm]
  have W := Walks.list (prog := P) (w := w) (A := A.in1) hh s.heap.objs.size l hne (intItems xs)
  refine wpAny_pure ⟨plainId_quiet F.plain_min_loop _, min_turns W (CmpOf.ints_lt (numAt xs) fun _ _ => intItems_at) (fun z => Nat.lt_irrefl _ (old _ z)) (intItems xs).size 0 _ #[] _ (Nat.zero_add _) (W.frame _ _ _ st fun b _ o e => Heap.get?_push_of_some _ e) (.inl ⟨rfl, rfl⟩) (Heap.get?_push_size _ rfl) fun v h' tk e kept => q v h' tk e fun b o x => ?_⟩
  exact kept b o (fun z => by rw [List.mem_singleton] at z; exact absurd (z ▸ Heap.lt_size x) (Nat.lt_irrefl _)) (Nat.ne_of_lt (Heap.lt_size (Heap.get?_push_of_some _ x))) (Heap.get?_push_of_some _ (Heap.get?_push_of_some _ x))
end PySem
namespace L2
open PySem PySem.Spec
open PyProof.Rows hiding St
section
variable {prog : Program} {w : World} {A : Around} {E : Value → Shared → Prop} {s : Shared} {d : Value} {l : Addr} {its : List Value} {ns : List Int} {Q : Value → Shared → Prop}
theorem min_rawD (hh : A.handled = none) (hl : s.heap.IsList l its.toArray) (hi : IntsAre its ns)
    (h0 : ns = [] → ∀ h' tk, (∀ b o, s.heap.get? b = some o → h'.get? b = some o) → Q d { s with heap := h', toks := tk })
    (h : ∀ h' tk M t', (∀ b o, s.heap.get? b = some o → h'.get? b = some o) → M ∈ ns → (∀ a, a ∈ ns → M ≤ a) → Q (.int M t') { s with heap := h', toks := tk }) : wpAny (model prog w) A (call (.builtin "min") [.ref l] [("default", d)]) Q E s := by
  obtain ⟨xs, e⟩ := hi.allInts.items
  obtain rfl : xs.toList.map (·.1) = ns := by rw [← nums_intItems, ← e]; exact hi.numsOf
  have sz : (intItems xs).size = xs.size := by simp [intItems]
  refine min_default hh (e ▸ hl) fun v h' tk z kept => ?_
  rw [sz] at z
  rcases z with ⟨z, rfl⟩ | ⟨pos, hv⟩
  · exact h0 (by rw [List.map_eq_nil_iff, ← List.length_eq_zero_iff, Array.length_toList]; exact z) h' tk kept
  · obtain ⟨t, rfl⟩ := intItems_at hv
    obtain ⟨a1, a2⟩ := argBest_lt (numAt xs) (xs.size - 1)
    have at_ : ∀ i, i < xs.size → numAt xs i ∈ xs.toList.map (·.1) := fun i hi => by rw [numAt_eq]; exact PySem.getD_mem (by simpa using hi)
    refine h h' tk _ t kept (at_ _ (by omega)) fun a ha => ?_
    obtain ⟨i, hi, rfl⟩ := mem_getD ha
    rw [← numAt_eq]
    exact a2 i (by have : i < xs.size := by simpa using hi
                   omega)
end
def rMinD (K : PySem.W.Frag) : List V → List V → Hp → VK → Prop := fun vs zs H Q => ∃ (a : Addr) (ns : List Int) (z : V), vs = [V.ref a] ∧ zs = [z] ∧ SqL K H a (ns.map V.int) ∧ (ns = [] → Q z H) ∧ ∀ m, m ∈ ns → (∀ y, y ∈ ns → m ≤ y) → Q (.int m) H
theorem cr_minD {X : Cx} (hc : X.calm = true) : CallRK X (.builtin "min") [Str.ofString "default"] (rMinD X.K) := by
  intro pins s σ H vs zs us ws Q I r rz h
  obtain ⟨a, ns, z, rfl, rfl, hs, q0, q⟩ := h
  obtain rfl := Vals.ref1 r
  obtain ⟨w1, rfl, e1⟩ := vals1 rz
  obtain ⟨its, rv, hl, _⟩ := I.list hs
  exact min_rawD (I.ok.hd hc) hl.isList rv.ints (fun hn h' tk hk => ⟨z, H, I.kept hk, e1, q0 hn⟩) fun h' tk m t' hk h1 h2 => ⟨.int _, H, I.kept hk, ⟨_, rfl⟩, q m h1 h2⟩
end L2
namespace DL
open PySem PySem.Spec L2
open PyProof.Rows hiding St
/-! ### min(xs, default=..) at the data level -/
section
variable {X : Cx} {W : WX} {e : Expr} {wa wb : DE} {pos p : Pos}
def minDK (Q : DV → Gh → Prop) (x y : DV) (G : Gh) : Prop := match x with
  | .ref a => ∃ ns : List Int, G a = some (.lst (ns.map .int)) ∧ (ns = [] → Q y G) ∧ ∀ m, m ∈ ns → (∀ z, z ∈ ns → m ≤ z) → Q (.int m) G
  | _ => False
def wMinD (wa wb : DE) : DE := fun Y env G Q => wa Y env G fun x G1 => wb Y env G1 fun y G2 => minDK Q x y G2
theorem q_minD {f : Expr} {kp : Pos} (hm : X.mg "min" = none) (hc : X.calm = true) (ha : QE X W e wa) (hb : QE X W f wb) (hg : Gl X "min" := by rfl)
    (hst : starEach [e] X.env = (false, eval e X.env) :: starEach [] X.env := by rfl)
    (he : backTo pos (starEach [e] X.env) = (false, eval e X.env) :: backTo pos (starEach [] X.env) := by rfl) (hpl : (backTo pos (starEach [e] X.env)).any (·.1) = false := by rfl)
    (hall : (backToKw pos (keywordEach [⟨some "default", f, kp⟩] X.env)).all (·.1.isSome) = true := by rfl) (hnone : (backToKw pos (keywordEach [⟨some "default", f, kp⟩] X.env)).any (·.1.isNone) = false := by rfl) (hks : (backToKw pos (keywordEach [⟨some "default", f, kp⟩] X.env)).filterMap (·.1) = [Str.ofString "default"] := by rfl) :
    QE X W (.Call (.Name "min" p) [e] [⟨some "default", f, kp⟩] pos) (wMinD wa wb) := by
  refine ⟨PE.wk (pe_callBK (cr_minD hc) hg hm (by decide +kernel) (qa_cons ha qa_nil hst).pa (pk_cons hb.pe pk_nil) (by decide) (by decide) he hpl hall hnone hks) ?_⟩
  rintro σ H Q ⟨Y, env, G, P, er, wg, h, k, kx⟩
  refine ⟨Y, env, G, (fun ds G1 => match ds with | [x] => wb Y env G1 fun y G2 => minDK P x y G2 | _ => False), er, wg, h, fun ds G1 vs H1 h1 w1 x1 r1 => ?_, kx⟩
  match ds, vs, r1, h1 with
  | [x], [vx], .cons rx .nil, h1 =>
    refine ⟨Y, env, G1, _, er.ext wg x1, w1, h1, fun y G2 vy H2 h2 w2 x2 r2 => ?_, kx.step x1⟩
    cases x <;> first | exact h2.elim | skip
    rename_i a
    obtain ⟨ns, ga, q0, q⟩ := h2
    cases rx
    obtain ⟨xs, ha', rs⟩ := w2 _ _ ga
    rw [rs.ofInts] at ha'
    exact ⟨a, ns, vy, rfl, rfl, .inl (.inl ha'), fun hn => k _ _ _ _ (q0 hn) w2 (x1.trans x2) r2, fun m h1 h2 => k _ _ _ _ (q m h1 h2) w2 (x1.trans x2) (.int m)⟩
theorem s_minD {Y : DX} {env : Dv} {G : Gh} {Q : DV → Gh → Prop} (q : wa Y env G fun x G1 => wb Y env G1 fun y G2 => minDK Q x y G2) : wMinD wa wb Y env G Q := q
theorem s_minDK {G : Gh} {Q : DV → Gh → Prop} {a : Addr} {y : DV} {ns : List Int} (ga : G a = some (.lst (ns.map .int))) (q0 : ns = [] → Q y G) (q : ∀ m, m ∈ ns → (∀ z, z ∈ ns → m ≤ z) → Q (.int m) G) : minDK Q (.ref a) y G := ⟨ns, ga, q0, q⟩
end
/-! ### a dict that is walked: locked meanwhile -/
section
variable {X : Cx} {W : WX} {e : Expr} {st : Stmt} {we : DE} {w : DS} {pos : Pos} {tg : Expr}
def lockE (w : DS) : DS := fun D env G => ∃ d kvs, G d = some (.dic kvs) ∧ ∀ o xs G1, Old d G G1 → G1 d = some (.fz o xs kvs) → w ⟨fun env' G' => G' d = some (.fz o xs kvs) ∧ ∀ G2, Old d G' G2 → G2 d = some (.dic kvs) → D.nx env' G2, fun _ _ => False, fun _ _ => False, fun _ _ => False, fun _ _ _ _ => False⟩ env G1
theorem qs_lock (h : QS X W st w) : QS X W st (lockE w) := by
  refine ⟨PS.wk (ps_lock h.ps) ?_⟩
  rintro D σ H ⟨env, G, De, er, wg, ⟨d, kvs, gd, h⟩, le⟩
  obtain ⟨xs, hd, kr⟩ := wg _ _ gd
  refine ⟨d, .dK xs, hd, trivial, fun od => ?_⟩
  have x1 : Ext G H (gup G d (.fz od xs kvs)) (upd H d (.frz od (.dK xs))) := Ext.setC gd
  have w1 : WG X.K (gup G d (.fz od xs kvs)) (upd H d (.frz od (.dK xs))) := wg.put (.inr ⟨_, gd⟩) ⟨upd_same, kr.ext wg (Put.ext (c := .fz od xs kvs) (.inr ⟨_, gd⟩))⟩
  refine ⟨env, _, _, er.ext wg x1, w1, h od xs _ Old.set gup_same, ⟨fun env' G' σ' H' p e' w' x' => ?_, fun _ _ _ _ p => p.elim, fun _ _ _ _ p => p.elim, fun _ _ _ _ p => p.elim, fun _ _ _ _ _ _ _ p => p.elim⟩⟩
  obtain ⟨g2, q⟩ := p
  obtain ⟨hd2, kr2⟩ := w' _ _ g2
  have x2 : Ext G' H' (gup G' d (.dic kvs)) (upd H' d (.dK xs)) := Ext.setC g2
  exact ⟨hd2, le.nx _ _ _ _ (q _ Old.set gup_same) (e'.ext w' x2) (w'.put (.inr ⟨_, g2⟩) ⟨xs, upd_same, kr2.ext w' (Put.ext (c := .dic kvs) (.inr ⟨_, g2⟩))⟩) ((x1.trans x').trans x2)⟩
theorem s_lock {D : DEnds} {env : Dv} {G : Gh} (d : Addr) {kvs : List (Key × DV)} (gd : G d = some (.dic kvs)) (q : ∀ o xs G1, Old d G G1 → G1 d = some (.fz o xs kvs) → w ⟨fun env' G' => G' d = some (.fz o xs kvs) ∧ ∀ G2, Old d G' G2 → G2 d = some (.dic kvs) → D.nx env' G2, fun _ _ => False, fun _ _ => False, fun _ _ => False, fun _ _ _ _ => False⟩ env G1) : lockE w D env G := ⟨d, kvs, gd, q⟩
def kyK (R : List DV → (Gh → Prop) → Gh → Prop) (x : DV) (G : Gh) : Prop := match x with
  | .ref a => ∃ o xs l, G a = some (.fz o xs l) ∧ R (l.map fun kv => kD kv.1) (fun g => g a = some (.fz o xs l)) G
  | _ => False
def wiKeys (we : DE) : DI := fun Y env G R => we Y env G (kyK R)
theorem VR.ofKey {K : PySem.W.Frag} {H : Hp} (k : Key) : VR K H (kV k) (kD k) := by
  cases k with
  | inl i => exact .int i
  | inr x => exact .str x
theorem qi_keys (he : QE X W e we) : QI X W tg e (wiKeys we) := by
  refine ⟨PI.wk (pi_keys he.pe) ?_⟩
  rintro σ H R ⟨Y, env, G, P, er, wg, h, k, kx⟩
  refine ⟨Y, env, G, _, er, wg, h, fun x G1 v H1 h1 w1 x1 r1 => ?_, kx⟩
  cases x <;> first | exact h1.elim | skip
  rename_i a
  obtain ⟨o, xs, l, ga, q⟩ := h1
  cases r1
  obtain ⟨ha, kr⟩ := w1 _ _ ga
  refine ⟨a, o, rfl, .inl ⟨xs, ha, k _ _ _ _ _ q w1 x1 ⟨fun i H G d w _ ga hd => ?_, fun i H G w _ ga hl => ?_⟩⟩⟩
  · obtain ⟨ha, kr⟩ := w _ _ ga
    have hk : xs.map (·.1) = l.map (·.1) := kr.fsts
    obtain ⟨kv, hkv, rfl⟩ : ∃ kv, l[i]? = some kv ∧ kD kv.1 = d := by
      rw [List.getElem?_map] at hd
      exact Option.map_eq_some_iff.mp hd
    have hx : (xs.map (·.1))[i]? = some kv.1 := by rw [hk, List.getElem?_map, hkv]; rfl
    rw [List.getElem?_map] at hx
    obtain ⟨p, hp, e1⟩ := Option.map_eq_some_iff.mp hx
    refine ⟨⟨ha, (List.getElem?_eq_some_iff.mp hp).1⟩, ?_⟩
    rintro x H' ⟨rfl, k', v', e2, rfl⟩
    rw [hp] at e2
    cases e2
    exact ⟨w, Ext.refl, e1 ▸ VR.ofKey _⟩
  · obtain ⟨ha, kr⟩ := w _ _ ga
    exact ⟨ha, by rw [kr.len, ← hl, List.length_map]; exact Nat.le_refl _⟩
theorem s_wiKeys {Y : DX} {env : Dv} {G : Gh} {R : List DV → (Gh → Prop) → Gh → Prop} (q : we Y env G (kyK R)) : wiKeys we Y env G R := q
theorem s_kyK {G : Gh} {R : List DV → (Gh → Prop) → Gh → Prop} {a : Addr} {o : Obj} {xs : List (Key × V)} {l : List (Key × DV)} (ga : G a = some (.fz o xs l)) (q : R (l.map fun kv => kD kv.1) (fun g => g a = some (.fz o xs l)) G) : kyK R (.ref a) G := ⟨o, xs, l, ga, q⟩
/-- d[k] of a locked dict -/
def dIxZ : D2 := fun x y G Q => match x with
  | .ref a => ∃ o xs l k d, G a = some (.fz o xs l) ∧ keyD y = some k ∧ valD l k = some d ∧ Q d G
  | _ => False
theorem o_ixZ (hu : X.A.units + 64 < cLine) : IxD X dIxZ := by
  rintro value slice pins s σ H x y v u Q I rx ry ⟨dx, dy, G, P, vx, vy, wg, h, k⟩ hs
  cases dx <;> first | exact h.elim | skip
  rename_i a
  cases vx
  obtain ⟨o, xs, l, kk, d, ga, hk, hv, q⟩ := h
  obtain ⟨ha, kr⟩ := wg _ _ ga
  obtain ⟨z, hz, rz⟩ := kr.val hv
  rw [vy.key hk] at ry
  exact ix_dict (by omega) value slice pins s σ H _ _ v u Q I rx ry ⟨a, z, rfl, .inl ⟨xs, kk, .inr ⟨o, ha⟩, rfl, hz.symm⟩, op_end wg k q rz⟩ hs
theorem s_ixZ {G : Gh} {Q : DV → Gh → Prop} {a : Addr} {y d : DV} {k : Key} {o : Obj} {xs : List (Key × V)} {l : List (Key × DV)} (ga : G a = some (.fz o xs l)) (hk : keyD y = some k) (hv : valD l k = some d) (q : Q d G) : dIxZ (.ref a) y G Q := ⟨o, xs, l, k, d, ga, hk, hv, q⟩
/-- list(d): its keys -/
def dListDk : DC := fun ds G Q => match ds with
  | [.ref a] => ∃ kvs, G a = some (.dic kvs) ∧ ∀ p, G p = none → Q (.ref p) (gup G p (.lst (kvs.map fun kv => kD kv.1)))
  | _ => False
theorem c_listDk (hc : X.calm = true) : CallD X (.type "list") dListDk := by
  rintro pins s σ H xs us Q I r ⟨ds, G, P, vs, wg, h, k⟩
  match ds, xs, vs, h with
  | [.ref a], [_], .cons (.ref _) .nil, ⟨kvs, ga, q⟩ =>
    obtain ⟨ws, ha, kr⟩ := wg _ _ ga
    refine call_listD hc pins s σ H _ us Q I r ⟨a, ws, rfl, .inl ha, fun p np => k _ _ _ _ (q p (wg.non np)) ?_ (Ext.newC np) (.ref p)⟩
    have hk : (ws.map fun kv => kV kv.1) = (kvs.map (·.1)).map kV := by rw [← kr.fsts, List.map_map]; rfl
    have hq : VRs X.K H (ws.map fun kv => kV kv.1) (kvs.map fun kv => kD kv.1) := by
      rw [hk]
      clear q ga ha kr hk
      induction kvs with
      | nil => exact .nil
      | cons y t ih => exact .cons (VR.ofKey _) ih
    exact wg.newL np hq
theorem x_listDk {G : Gh} {Q : DV → Gh → Prop} {a : Addr} {kvs : List (Key × DV)} (ga : G a = some (.dic kvs)) (q : ∀ p G1, G p = none → Sub G G1 → G1 p = some (.lst (kvs.map fun kv => kD kv.1)) → Q (.ref p) G1) : dListDk [.ref a] G Q := ⟨kvs, ga, fun p np => q p _ np (Sub.new np) gup_same⟩
/-- d.pop(k), k there -/
def dropD (kvs : List (Key × DV)) (k : Key) : List (Key × DV) := kvs.filter fun kv => decide (kv.1 ≠ k)
theorem KR.drop {K : PySem.W.Frag} {H : Hp} {k : Key} : ∀ {xs : List (Key × V)} {ys : List (Key × DV)}, KR K H xs ys → KR K H (dropK xs k) (dropD ys k)
  | _, _, .nil => .nil
  | _, _, .cons (k := j) r t => by
    unfold dropK dropD
    by_cases h : j = k
    · rw [List.filter_cons_of_neg (by simp [h]), List.filter_cons_of_neg (by simp [h])]; exact t.drop
    · rw [List.filter_cons_of_pos (by simp [h]), List.filter_cons_of_pos (by simp [h])]; exact .cons r t.drop
def dDpop : DM := fun x ds G Q => match x, ds with
  | .ref a, [y] => ∃ kvs k d, G a = some (.dic kvs) ∧ keyD y = some k ∧ valD kvs k = some d ∧ Q d (gup G a (.dic (dropD kvs k)))
  | _, _ => False
theorem m_dpop : MtD X "dict.pop" dDpop := by
  rintro pins s σ H x xs v us Q I rx rs ⟨dx, ds, G, P, vx, vs, wg, h, k⟩
  match dx, ds, vx, vs, h with
  | .ref a, [y], .ref _, .cons vy .nil, ⟨kvs, kk, d, ga, hk, hv, q⟩ =>
    obtain ⟨ws, ha, kr⟩ := wg _ _ ga
    obtain ⟨z, hz, rz⟩ := kr.val hv
    have ey := vy.key hk
    subst ey
    cases rx
    match us, rs with
    | [uk], .cons rk .nil =>
      have x1 : Ext G H (gup G a (.dic (dropD kvs kk))) (upd H a (.dK (dropK ws kk))) := Ext.setC ga
      refine d_pop I ha rk hz (.inl rfl) fun w' s3 I3 rw' => ⟨z, _, I3, rw', k _ _ _ _ q (wg.put (.inr ⟨_, ga⟩) ⟨_, upd_same, kr.drop.ext wg (Put.ext (c := .dic (dropD kvs kk)) (.inr ⟨_, ga⟩))⟩) x1 (rz.ext wg x1)⟩
theorem x_dpop {G : Gh} {Q : DV → Gh → Prop} {a : Addr} {y d : DV} {k : Key} {kvs : List (Key × DV)} (ga : G a = some (.dic kvs)) (hk : keyD y = some k) (hv : valD kvs k = some d) (q : ∀ G1, Old a G G1 → G1 a = some (.dic (dropD kvs k)) → Q d G1) : dDpop (.ref a) [y] G Q := ⟨kvs, k, d, ga, hk, hv, q _ Old.set gup_same⟩
end
end DL

/-! ### len(set(xs)) of a list of ints, whatever they are -/
namespace DL
open PySem PySem.Spec L2
open PyProof.Rows hiding St
def lenSet (ns : List Int) : Nat := (firstMet (fun i => ns.getD i 0) ns.length).length
theorem firstMet_same {val : Nat → Int} {x : Int} : ∀ i, (∀ j, j < i → val j = x) → firstMet val i = if i = 0 then [] else [x]
  | 0, _ => rfl
  | i + 1, h => by
    rw [firstMet_succ, firstMet_same i fun j hj => h j (by omega), h i (by omega), if_neg (Nat.succ_ne_zero i)]
    unfold step_dedup
    by_cases h0 : i = 0
    · rw [if_pos h0]; rfl
    · rw [if_neg h0]; simp
theorem lenSet_same {ns : List Int} {x : Int} (hne : ns ≠ []) (h : ∀ y ∈ ns, y = x) : lenSet ns = 1 := by
  unfold lenSet
  rw [firstMet_same (x := x) ns.length fun j hj => by
    rw [List.getD_eq_getElem?_getD, List.getElem?_eq_getElem hj]
    exact h _ (List.getElem_mem hj), if_neg (fun e => hne (List.length_eq_zero_iff.mp e))]
  rfl
section
variable {X : Cx} {W : WX} {a : Expr} {wa : DE} {p p2 q pos : Pos} {Y : DX} {env : Dv} {G : Gh} {Q : DV → Gh → Prop}
def lsK (Q : DV → Gh → Prop) (x : DV) (G : Gh) : Prop := match x with
  | .ref e => ∃ ns : List Int, G e = some (.lst (ns.map .int)) ∧ ns.length ≤ 4000 ∧ Q (.int (lenSet ns : Nat)) G
  | _ => False
def wLenSet (wa : DE) : DE := fun Y env G Q => wa Y env G (lsK Q)
def tLsV (ta : TE) (K : PySem.W.Frag) : TE := fun σ H Q => ta σ H fun x H1 => ∃ (l : Addr) (ns : List Int), x = .ref l ∧ SqL K H1 l (ns.map V.int) ∧ ns.length ≤ 4000 ∧ Q (.int (lenSet ns : Nat)) H1
theorem pe_lenSetV {ta : TE} (hg : Gl X "len") (hm : X.mg "len" = none) (hg2 : Gl X "set") (hm2 : X.mg "set" = none) (ha : PE X a ta) (hc : X.calm = true)
    (na : starEach [a] X.env = (false, eval a X.env) :: starEach [] X.env := by rfl) : PE X (.Call (.Name "len" p) [.Call (.Name "set" p2) [a] [] q] [] pos) (tLsV ta X.K) := by
  refine ⟨fun pins s σ H Q I h => Call_ (ld_blt I hg hm boot_len (callWith_builtin1 (args_cons (Call_ (ld_blt I hg2 hm2 boot_set (callWith_type1 (args_cons (thn (ha.run pins s σ H _ I h) fun v s1 ⟨x, H1, I1, r1, l, ns, ex, hq, hl, q1⟩ => args_nil ?_) na) na rfl))) rfl) rfl rfl))⟩
  subst ex
  cases r1
  obtain ⟨its, r, pl, hz⟩ := I1.list hq
  have hlen : its.toArray.size = ns.length := by rw [List.size_toArray, ← r.length, List.length_map]
  refine call_set_list (I1.ok.hd hc) pl.isList (by simpa using RZ.intsAre_vals r) (by rw [hlen]; unfold scanBound; omega) fun h' tk hS hk => args_nil ?_
  rw [hlen] at hS
  obtain ⟨o, es, ep, t, ho, hex, hd, _, _, _, hf, hn⟩ := hS
  have I2 : Inv X pins σ H1 { s1 with heap := h', toks := tk } := I1.kept fun b o e => hk b o (Heap.lt_size e) e
  have hb : (firstMet (fun i => ns.getD i 0) ns.length).length ≤ 4000 := Nat.le_trans (firstMet_length_le _ _) hl
  exact call_len_set ho hex hd hf (by rw [hn]; omega) ⟨.int (lenSet ns : Nat), H1, I2.tok _, ⟨_, by rw [hn]; rfl⟩, q1⟩
theorem q_lenSet (hm : X.mg "len" = none) (hm2 : X.mg "set" = none) (hc : X.calm = true) (ha : QE X W a wa) (hg : Gl X "len" := by rfl) (hg2 : Gl X "set" := by rfl)
    (na : starEach [a] X.env = (false, eval a X.env) :: starEach [] X.env := by rfl) : QE X W (.Call (.Name "len" p) [.Call (.Name "set" p2) [a] [] q] [] pos) (wLenSet wa) := by
  refine ⟨PE.wk (pe_lenSetV hg hm hg2 hm2 ha.pe hc na) ?_⟩
  rintro σ H Q ⟨Y, env, G, P, er, wg, h, k, kx⟩
  refine ⟨Y, env, G, _, er, wg, h, fun x G1 v H1 h1 w1 x1 r1 => ?_, kx⟩
  cases x <;> first | exact h1.elim | skip
  rename_i e
  obtain ⟨ns, ge, hl, q⟩ := h1
  cases r1
  obtain ⟨xs, ha', rs⟩ := w1 _ _ ge
  rw [rs.ofInts] at ha'
  exact ⟨e, ns, rfl, .inl (.inl ha'), hl, k _ _ _ _ q w1 x1 (.int _)⟩
theorem s_lenSet (q : wa Y env G (lsK Q)) : wLenSet wa Y env G Q := q
theorem s_lsK {e : Addr} {ns : List Int} (ge : G e = some (.lst (ns.map .int))) (hl : ns.length ≤ 4000) (q : Q (.int (lenSet ns : Nat)) G) : lsK Q (.ref e) G := ⟨ns, ge, hl, q⟩
end
end DL

namespace DL
open PySem PySem.Spec L2
open PyProof.Rows hiding St
variable [Cls]
/-! ### range with a step -/
/-- n numbers from lo on, each c more -/
def stepsFrom (lo c : Int) (n : Nat) : List DV := (List.range n).map fun k : Nat => DV.int (lo + (k : Nat) * c)
theorem stepsFrom_get {lo c : Int} {n i : Nat} {d : DV} (h : (stepsFrom lo c n)[i]? = some d) : i < n ∧ d = .int (lo + (i : Nat) * c) := by
  unfold stepsFrom at h
  rw [List.getElem?_map] at h
  by_cases hi : i < n
  · rw [List.getElem?_range hi] at h
    cases h
    exact ⟨hi, rfl⟩
  · rw [List.getElem?_eq_none (by simp; omega)] at h
    cases h
theorem itd_steps {K : PySem.W.Frag} {lo c : Int} {n : Nat} {G : Gh} {H : Hp} : ItD K (Itc lo c n) (stepsFrom lo c n) (fun _ => True) G H where
  go := fun i H1 G1 d wg x _ e => by
    obtain ⟨hi, rfl⟩ := stepsFrom_get e
    refine ⟨hi, ?_⟩
    rintro y H' ⟨rfl, rfl⟩
    exact ⟨wg, Ext.refl, .int _⟩
  stop := fun i H1 G1 wg x _ hl => by
    have e : (stepsFrom lo c n).length = n := by unfold stepsFrom; rw [List.length_map, List.length_range]
    rw [e] at hl
    exact Nat.le_of_eq hl
def wiRange3 (wr : DA) : DI := fun Y env G R => wr Y env G fun ds G1 => ∃ (i j c : Int) (n : Nat), ds = [.int i, .int j, .int c] ∧ RgC i j c n ∧ R (stepsFrom i c n) (fun _ => True) G1
section
variable {X : Cx} {W : WX} {tg e : Expr} {wr : DA} {p pos : Pos}
theorem qi_range3 {e2 e3 : Expr} (hm : X.mg "range" = none) (ha : QA X W [e, e2, e3] wr) (hg : Gl X "range" := by rfl) (hs : starEach [e, e2, e3] X.env = (false, eval e X.env) :: starEach [e2, e3] X.env := by rfl) (hpl : (backTo pos (starEach [e2, e3] X.env)).any (·.1) = false := by rfl) :
    QI X W tg (.Call (.Name "range" p) [e, e2, e3] [] pos) (wiRange3 wr) :=
  ⟨PI.wk (pi_range3 hg hm ha.pa hs hpl) fun σ H R ⟨Y, env, G, P, er, wg, h, k, kx⟩ => ⟨Y, env, G, _, er, wg, h, fun ds G1 vs H1 ⟨i, j, c, n, hd, rg, h1⟩ w1 x1 r1 => by
    subst hd
    cases r1 with
    | cons r t =>
      cases t with
      | cons r2 t =>
        cases t with
        | cons r3 t =>
          cases t
          cases r
          cases r2
          cases r3
          exact ⟨i, j, c, n, rfl, rg, k _ _ _ _ _ h1 w1 x1 itd_steps⟩, kx⟩⟩
end
section
variable {wr : DA} {Y : DX} {env : Dv} {G : Gh}
def rng3K (I : List DV → (Gh → Prop) → Gh → Prop) (ds : List DV) (G1 : Gh) : Prop := ∃ (i j c : Int) (n : Nat), ds = [.int i, .int j, .int c] ∧ RgC i j c n ∧ I (stepsFrom i c n) (fun _ => True) G1
theorem s_wiRange3 {I : List DV → (Gh → Prop) → Gh → Prop} (q : wr Y env G (rng3K I)) : wiRange3 wr Y env G I := q
theorem s_rng3 {I : List DV → (Gh → Prop) → Gh → Prop} {i j c : Int} (n : Nat) (h : RgC i j c n) (q : I (stepsFrom i c n) (fun _ => True) G) : rng3K I [.int i, .int j, .int c] G := ⟨i, j, c, n, rfl, h, q⟩
end
end DL

/-! ### try: .. except C as n: raise Y(..) -/
namespace L2
open PySem PySem.Spec
open PyProof.Rows hiding St
/-- the context of an except suite, what is raised within going to xe -/
abbrev Cx.suiteE (X : Cx) (a : Addr) (pn : List (Addr × Obj)) (xe : Value → Shared → Prop) : Cx := { X with A := X.A.mark (some (.ref a)), calm := false, pn := pn, xe := xe }
section
variable {X : Cx} {pins : List (Addr × Obj)} {σ : St} {H : Hp} {s : Shared}
/-- a local's name goes: what is known of the state behind -/
theorem Inv.nameGone {i : Nat} {n : Str} (I : Inv X pins σ H s) (nd : X.N.Nodup) (ix : X.N[i]? = some n) :
    ∃ m, s.heap.Ns X.env.locals m ∧ ∀ (g : Heap) (v : Option Value) (t : Nat), g.Ns X.env.locals (fun x => if x = n then v else m x) → Heap.SameBut X.env.locals s.heap g → Inv X pins (σ.set i none) H { s with heap := g, toks := t } := by
  obtain ⟨m, ns, look⟩ := id I.loc
  refine ⟨m, ns, fun g v t ns' sb => ?_⟩
  have same : ∀ {b : Addr} {o : Obj}, s.heap.get? b = some o → b ≠ X.env.locals → g.get? b = some o := fun e hb => (sb.2 _ hb).trans e
  have old : ∀ b o, X.s_0.heap.get? b = some o → b ≠ X.env.locals := fun b o e => Nat.ne_of_lt (Nat.lt_of_lt_of_le (Heap.lt_size e) I.ok.above)
  obtain ⟨b1, b2, b3, b4, b5, b6, b7⟩ := I.base
  refine ⟨I.ok, I.os, I.bare, ⟨fun b o e c h x => same (b1 b o e c h x) (old b o e), fun b o e c h x => ?_, b3, fun b o e x => ?_, b5, b6, b7⟩, ⟨_, ns', fun j y w e1 e2 e3 => ?_⟩, fun y c e => ?_, I.free, I.freeC, fun p hp => ?_, fun b u e => ?_, by simpa using I.len⟩
  · obtain ⟨sl, e1⟩ := b2 b o e c h x
    exact ⟨sl, same e1 (old b o e)⟩
  · obtain ⟨o1, e1⟩ := b4 b o e x
    exact ⟨o1, same e1 (old b o e)⟩
  · have hj : j ≠ i := by
      rintro rfl
      by_cases hl : j < σ.length
      · rw [List.getElem?_set_self hl] at e2; cases e2
      · rw [List.getElem?_eq_none (by simpa using hl)] at e2; cases e2
    rw [List.getElem?_set_ne hj.symm] at e2
    obtain ⟨u, ru, lk⟩ := look j y w e1 e2 e3
    refine ⟨u, ru, ?_⟩
    rcases lk with ⟨k, e⟩ | ⟨k, c, e, z⟩
    · have yn : y ≠ n := fun z => hj (nodup_ix nd e1 (z ▸ ix))
      exact .inl ⟨k, (if_neg yn).trans e⟩
    · exact .inr ⟨k, c, e, z.sameBut sb (I.cne y c e)⟩
  · obtain ⟨w, z⟩ := I.cell y c e
    exact ⟨w, z.sameBut sb (I.cne y c e)⟩
  · obtain ⟨e, f, ne, nf, d⟩ := I.pin p hp
    exact ⟨same e ne, f, ne, nf, d⟩
  · refine (I.hok b u e).stay (fun c w hc q => same q ?_) (fun _ q => q) fun _ _ q => q
    rintro rfl
    rcases hc with hc | hc
    · rw [← hc, I.free] at e; cases e
    · rw [I.free] at hc; cases hc
end
/-- noted by this frame already -/
theorem note_own {M : Model} {A : Around} {E1 : Value → Shared → Prop} {t : Shared} {B : Heap} {a L : Addr} {Z : Obj → Prop} {env : Env} {l : List Env} {Q : Unit → Shared → Prop} (hf : env.frame = some L) (hh : HandSPX.HeldZ B l a Z L t.heap) (q : Q () t) : wpAny M A (noteFrame (.ref a) env) Q E1 t := by
  obtain ⟨_, _, _, oe, vs, T, oT, ts, t1, t2, t3, t4, t5, t6, t7, t8, t9⟩ := hh
  unfold noteFrame
  simp only [hf]
  refine wpAny_bind (wpAny_field t1 t3 t4 ?_)
  rw [if_pos (show (Value.ref T != .none) = true by simp)]
  refine wpAny_bind (wpAny_field t7 t8 t9 ?_)
  rw [if_pos (by simp)]
  exact wpAny_pure q
/-- an error that is held stays so when the frame's own namespace changes -/
theorem fly_on {B h g : Heap} {a L : Addr} {Z : Obj → Prop} {l : List Env} {M : Addr} (f : HandSPX.HeldZ B l a Z M h) (nB : B.get? L = none) (sb : Heap.SameBut L h g) {o o' : Obj} {es es' : Array DictEntry} {n n' : Nat} (e : h.get? L = some o) (d : o.data = .dict es n) (e' : g.get? L = some o') (d' : o'.data = .dict es' n') : HandSPX.HeldZ B l a Z M g := by
  obtain ⟨f1, f2, f3, oe, vs, T, oT, ts, t1, t2, t3, t4, t5, t6, t7, t8, t9⟩ := f
  have off : ∀ {b : Addr} {u : Obj} {ws : Array Value}, h.get? b = some u → u.data = .fields ws → b ≠ L := by
    rintro b u ws q k rfl
    have z := e.symm.trans q
    cases z
    rw [d] at k; cases k
  have frames : ∀ l : List Env, h.FunFrames B l → g.FunFrames B l := by
    intro l
    induction l with
    | nil => exact fun _ => trivial
    | cons env l ih =>
      rintro ⟨k1, ⟨M, u, k2, k3, k4, k5⟩, k6⟩
      refine ⟨k1, ?_, ih k6⟩
      by_cases hM : M = L
      · subst hM
        exact ⟨M, o', k2, k3, e', fun ws q => by rw [d'] at q; cases q⟩
      · exact ⟨M, u, k2, k3, (sb.2 M hM).trans k4, k5⟩
  exact ⟨fun b u q => (sb.2 b (by rintro rfl; rw [nB] at q; cases q)).trans (f1 b u q), f2, frames l f3, oe, vs, T, oT, ts, (sb.2 a (off t1 t3)).trans t1, t2, t3, t4, t5, t6, (sb.2 T (off t7 t8)).trans t7, t8, t9⟩
/-- what the clause wishes of an exception of the body -/
def wCatchE (K : PySem.W.Frag) (mg : Str → Option Value) (c : Value) (i : Nat) (ts : WX → Addr → Addr → Addr → TS) (Wo : WX) : WX := fun cls d σ H =>
  ∃ b, PySem.W.exmOne K cls c = some b ∧ (b = true → ∃ C dx, cls = .ref C ∧ d = some dx ∧ ∀ a, H a = none →
      ts (fun cls2 d2 σ2 H2 => DL.Loose mg cls2 ∧ Wo cls2 d2 (σ2.set i none) H2) a C dx { nx := fun _ _ => False, rt := fun _ _ => False } (σ.set i (some (.ref a))) H) ∧
    (b = false → Wo cls d σ H)
section
variable {X : Cx} {x n : Str} {c : Value} {i : Nat} {body more : List Stmt} {first : Stmt} {p1 p2 p3 : Pos} {tb : WX → TS} {ts : WX → Addr → Addr → Addr → TS} {Wo : WX}
theorem ps_tryE (hst : X.stack = X.env :: X.outer) (hfm : X.env.frame = some X.env.locals) (nd : X.N.Nodup) (ix : X.N[i]? = some n) (lc : X.env.kindOf n = some .local) (nm : Names X x c)
    (hpa : ∀ hd : Option Value, PassesOwnAt (model X.prog X.w) (X.A.mark hd) X.A X.env X.xe) (tk : DL.Takes X Wo) (hno : ∀ cls, DL.Loose X.mg cls → PySem.W.exmOne X.K cls c = some false) (hex : X.ex = [])
    (hbody : ∀ (W : WX) (pn : List (Addr × Obj)) (xe : Value → Shared → Prop), DL.Takes (X.tr pn xe) W → PassesOwn (model X.prog X.w) X.A X.env xe → PSs (X.tr pn xe) body (tb W))
    (hsuite : ∀ (a C dx : Addr) (oe : Obj) (pn : List (Addr × Obj)) (xe : Value → Shared → Prop) (W : WX), L2N.Zn (.ref C) (some dx) oe → (∃ vs, oe.data = .fields vs) → L2.Takes (X.suiteE a ((a, oe) :: pn) xe) W → L2H.HotC (X.suiteE a ((a, oe) :: pn) xe) →
      PSs (X.suiteE a ((a, oe) :: pn) xe) (first :: more) (ts W a C dx)) :
    PS X (.Try body [.ExceptHandler (some (.Name x p1)) (some n) (first :: more) p2] [] [] p3) (fun D σ H => tb (wCatchE X.K X.mg c i ts Wo) D σ H) := by
  refine ⟨fun pins s σ H D I h => ?_⟩
  have allOk := I.ok
  have frm : X.A.frames = some (X.env :: X.outer) := hst ▸ allOk.frames
  have plainK : (X.env.scope.kind == .class || (X.env.scope.kind == .module && X.env.locals != X.env.globals)) = false := by rw [allOk.kind]; rfl
  have ownFr : X.env.locals ∈ frs X.stack := by rw [hst]; exact List.mem_filterMap.mpr ⟨X.env, List.mem_cons_self, hfm⟩
  refine wpAny_Try_except (wpAny_mono ((hbody (wCatchE X.K X.mg c i ts Wo) (X.pn ++ pins) (fun e u => wpAny (model X.prog X.w) X.A (noteFrame e X.env) (fun _ u2 => wpAny (model X.prog X.w) X.A (setFlight e none) (fun _ u3 =>
    wpAny (model X.prog X.w) X.A (handleBy e X.env [.ExceptHandler (some (.Name x p1)) (some n) (first :: more) p2]) (SP X pins D) X.xe u3) X.xe u2) X.xe u) ⟨fun e u caught => ?_, fun e u caught => ?_⟩ PassesOwn.looking).run [] s σ H D (I.toTry _) h) (fun fl u ends => ?_) fun _ _ q => q)
  · obtain ⟨a, B, gr, pn1, st1, H1, cls, d, rfl, J0, below, slots, sky, un, os, bare, b, tested, yes, no⟩ := caught
    have J : Inv X pins st1 H1 gr := J0.ofTry allOk
    have sky : L2.Sky B (X.env :: X.outer) a (L2N.Zn cls d) X.env.locals u.heap := by have z := sky; rwa [show (X.tr (X.pn ++ pins) _).stack = X.env :: X.outer from hst] at z
    show wpAny (model X.prog X.w) X.A (noteFrame (.ref a) X.env) _ _ _
    refine L2N.Sky.land L2N.Zn.steady frm hfm sky fun hq fly slots2 => ?_
    have K3 : Inv X pins st1 H1 { u with heap := hq } := J.landed below fly.1 (slots.trans slots2) os bare
    obtain ⟨ob, vs, obAt, obZ, obF⟩ := fly.there
    have noFrame : a ∉ frs (X.env :: X.outer) := fun hm => by
      obtain ⟨_, ob', e', nf⟩ := fly.2.2.1.mem hm
      have e2 := obAt.symm.trans e'
      cases e2
      exact nf _ obF
    have noLoc : a ≠ X.env.locals := fun z => noFrame (List.mem_filterMap.mpr ⟨X.env, List.mem_cons_self, by rw [hfm, z]⟩)
    have notOut : a ∉ X.fs := fun hm => by
      obtain ⟨en, hen, q⟩ := List.mem_filterMap.mp hm
      exact noFrame (List.mem_filterMap.mpr ⟨en, List.mem_cons_of_mem _ hen, q⟩)
    have look := K3.suite obAt obF un noLoc notOut
    refine wpAny_handleBy_cons (codeAny_handlers_test ?_) (by intro q; cases q)
    have ty : PySem.W.Looks (model X.prog X.w) hq (typeOf (.ref a)) cls := fun A Q E z k q => wpAny_typeOf_ref (k _ _ obAt) (obZ.1.symm ▸ q)
    have asked := PySem.W.exm_one (M := model X.prog X.w) K3.kIn ty tested
    have named : ∀ {Q : Value → Shared → Prop} {E : Value → Shared → Prop}, Q c { u with heap := hq } → wpAny (model X.prog X.w) (X.A.mark (some (.ref a))) (eval (.Name x p1) X.env) Q E { u with heap := hq } := fun {Q E} q => by
      obtain ⟨n1, n2, n3 | ⟨n3, n4, n5⟩⟩ := nm
      · exact ld_glob (X := X.suite a ((a, ob) :: (X.pn ++ pins))) look n1 n3 q n2
      · exact ld_blt (X := X.suite a ((a, ob) :: (X.pn ++ pins))) look n1 n3 n4 q n5 n2
    refine named (asked.here ?_)
    cases b with
    | false =>
      show wpAny _ X.A (handleBy (.ref a) X.env []) _ _ _
      refine wpAny_handleBy_nil ?_
      obtain ⟨_, _, _, o9, v9, T9, _, _, at9, _, fl9, tb9, _⟩ := id fly
      have gone : wpAny (model X.prog X.w) X.A (setFlight (.ref a) X.env.frame) (fun _ u4 => wpAny (model X.prog X.w) X.A (throw (.ref a) : Sem Flow) (SP X pins D) X.xe u4) X.xe { u with heap := hq } := by
        rw [hfm]
        exact HandSPX.setFlight_upZ fly fun h9 held slots9 => wpAny_throw (tk.n _ _ ⟨a, B, gr, pins, st1, H1, cls, d, rfl, J, below, (slots.trans slots2).trans slots9, .inr (.inr (by rw [hst]; exact held)), un, os, bare, no rfl⟩)
      unfold PySem.passOn
      refine wpAny_bind (wpAny_field at9 fl9 tb9 ?_)
      rw [if_neg (by simp)]
      first
        | exact wpAny_bind (wpAny_pure (wpAny_bind gone))
        | exact wpAny_bind gone
    | true =>
      obtain ⟨C, dx, hC, hd, run⟩ := yes rfl
      subst hC hd
      refine codeAny_handlers_suite_as (HandSPX.lands_againZ fly fun h9 fly9 slots9 => ?_)
      have K9 : Inv X pins st1 H1 { u with heap := h9 } := J.landed below fly9.1 ((slots.trans slots2).trans slots9) os bare
      obtain ⟨o9, v9, e9, z9, f9⟩ := fly9.there
      have S9 := K9.suite e9 f9 un noLoc notOut
      refine store_ok (X := X.suite a ((a, o9) :: (X.pn ++ pins))) (v := .ref a) S9 nd ix (.inl lc) rfl (fun u5 T5 => ?_) (.inr lc)
      have hot : ∀ xe, L2H.HotC (X.suiteE a ((a, o9) :: (X.pn ++ pins)) xe) := fun xe => ⟨(a, o9), ⟨rfl, v9, f9, z9.2.2 v9 f9⟩, List.mem_cons_self⟩
      have T5' : ∀ xe, Inv (X.suiteE a ((a, o9) :: (X.pn ++ pins)) xe) [] (st1.set i (some (.ref a))) H1 u5 := fun xe => Inv.unwish (X := X.suiteE a ((a, o9) :: (X.pn ++ pins)) xe) (E := fun _ _ => False) T5
      refine wpAny_mono ((hsuite a C dx o9 (X.pn ++ pins) _ (fun cls2 d2 σ2 H2 => DL.Loose X.mg cls2 ∧ Wo cls2 d2 (σ2.set i none) H2) z9 ⟨_, f9⟩ (fun y u6 air => ?_) (hot _)).run [] u5 _ _ _ (T5' _) (run a un)) (fun fl u6 ends => ?_) fun y u6 q => q
      · obtain ⟨a2, B2, s2, pn2, σ2, H2, cls2, d2, rfl, I2, below2, slots3, sky2, un2, os2, bare2, w2⟩ := air
        have I2 : Inv X pins σ2 H2 s2 := Inv.unsuite (a := a) (q := (a, o9)) (pn' := pn2) (show Inv (X.suite a ((a, o9) :: (X.pn ++ pins))) pn2 σ2 H2 s2 from I2.wish fun _ _ => False) allOk
        have below2 : ∀ b o, s2.heap.get? b = some o → b ∉ frs X.stack → B2.get? b = some o := below2
        have sky2 : L2.Sky B2 (X.env :: X.outer) a2 (Zc cls2 d2) X.env.locals u6.heap := by have z := sky2; rwa [show (X.suiteE a ((a, o9) :: (X.pn ++ pins)) _).stack = X.env :: X.outer from hst] at z
        show wpAny (model X.prog X.w) (X.A.mark (some (.ref a))) (noteFrame (.ref a2) X.env) _ _ _
        have frmA : (X.A.mark (some (.ref a))).frames = some (X.env :: X.outer) := frm
        have noted : ∀ {Q : Unit → Shared → Prop} {E1 : Value → Shared → Prop}, (∀ h3, HandSPX.HeldZ B2 (X.env :: X.outer) a2 (Zc cls2 d2) X.env.locals h3 → u6.heap.UpToSlots h3 → Q () { u6 with heap := h3 }) → wpAny (model X.prog X.w) (X.A.mark (some (.ref a))) (noteFrame (.ref a2) X.env) Q E1 u6 := fun {Q E1} q => by
          rcases sky2 with ⟨hB, hn, hl, oe, vs, he, hz, hd, h1⟩ | fl | hh
          · exact PXN.look_newZ zc_steady1 frmA hl hfm he hB hn hd h1 hz q
          · exact PXN.looks_onZ zc_steady1 frmA hfm fl q
          · exact note_own hfm hh (q _ hh (Heap.UpToSlots.refl _))
        refine noted fun h3 fly3 slots4 => ?_
        obtain ⟨m, ns, back⟩ := I2.nameGone nd ix
        have ns3 : h3.Ns X.env.locals m := (slots3.trans slots4).ns ns
        refine wpAny_nameGoes_keeps (s := { u6 with heap := h3 }) lc ns3 plainK fun h4 v4 ns4 sb4 => ?_
        obtain ⟨oL, esL, epL, atL, dL, rL⟩ := id ns4
        obtain ⟨o0, es0, ep0, at0, d0, _⟩ := id ns
        obtain ⟨o3, es3, ep3, at3, d3, _⟩ := id ns3
        have nB : B2.get? X.env.locals = none := by
          obtain ⟨_, ⟨L, _, q1, q2, _⟩, _⟩ := fly3.2.2.1
          rw [hfm] at q1
          cases q1
          exact q2
        have fly4 := fly_on fly3 nB sb4 at3 d3 atL dL
        have atG : (s2.heap.update X.env.locals fun _ => oL).get? X.env.locals = some oL := Heap.get?_update_self _ at0 (Obj.isFreed_of_dict dL)
        have sbG : Heap.SameBut X.env.locals s2.heap (s2.heap.update X.env.locals fun _ => oL) := ⟨by simp [Heap.update], fun b hb => Heap.get?_update_other _ _ hb.symm⟩
        have IG := back (s2.heap.update X.env.locals fun _ => oL) v4 s2.toks ⟨oL, esL, epL, atG, dL, rL⟩ sbG
        have slotsG : (s2.heap.update X.env.locals fun _ => oL).UpToSlots h4 := fun b o e nf => by
          by_cases hb : b = X.env.locals
          · subst hb
            rw [atG] at e
            cases e
            exact ⟨oL.slots, atL⟩
          · rw [sbG.2 b hb] at e
            obtain ⟨sl, e3⟩ := (slots3.trans slots4) b o e nf
            exact ⟨sl, (sb4.2 b hb).trans e3⟩
        obtain ⟨_, _, _, o7, v7, T7, _, _, at7, _, fl7, tb7, _⟩ := id fly4
        unfold PySem.passOn
        refine wpAny_bind (wpAny_field at7 fl7 tb7 ?_)
        rw [if_neg (by simp)]
        have gone : ∀ t, wpAny (model X.prog X.w) (X.A.mark (some (.ref a))) (setFlight (.ref a2) X.env.frame) (fun _ u4 => wpAny (model X.prog X.w) (X.A.mark (some (.ref a))) (throw (.ref a2) : Sem Flow) (fun _ _ => False) (notedBy (model X.prog X.w) (X.A.mark (some (.ref a))) X.env (cameBackBy (model X.prog X.w) X.A X.env X.xe)) u4) (notedBy (model X.prog X.w) (X.A.mark (some (.ref a))) X.env (cameBackBy (model X.prog X.w) X.A X.env X.xe)) { u6 with heap := h4, toks := t } := fun t => by
          rw [hfm]
          exact HandSPX.setFlight_onZ fly4 fun h8 held slots8 => wpAny_throw (hpa _ _ _ (tk.c _ _ ⟨a2, B2, _, pins, σ2.set i none, H2, cls2, d2, rfl, IG, fun b o e hb => below2 b o ((sbG.2 b (fun z => hb (z ▸ ownFr))).symm.trans e) hb, slotsG.trans slots8, .inr (.inr (by rw [hst]; exact held)), un2, os2, bare2, w2⟩))
        first
          | exact wpAny_bind (wpAny_pure (wpAny_bind (gone _)))
          | exact wpAny_bind (gone _)
      · cases fl with
        | ret r =>
          obtain ⟨_, _, _, _, _, z⟩ := ends
          exact z.elim
        | next =>
          obtain ⟨_, _, _, z⟩ := ends
          exact z.elim
        | brk =>
          obtain ⟨_, _, _, z⟩ := ends
          exact z.elim
        | cont =>
          obtain ⟨_, _, _, z⟩ := ends
          exact z.elim
  · obtain ⟨a, B, sI, pn1, st1, H1, cls, d, h1, h2, h3, h4, h5, h6, h7, h8, lo, b, tested, yes, no⟩ := caught
    have hb : b = false := by
      have z := hno cls lo
      rw [tested] at z
      exact Option.some.inj z
    subst hb
    exact catchK (Z := Zc) (Wo := DL.loosely X.mg Wo) (ts := fun _ _ _ _ _ _ => False) (fun _ _ => zc_steady1) (fun _ _ _ z => z) hst hfm hex nd ix lc nm tk.c (fun _ _ _ _ => ⟨fun _ _ _ _ _ _ z => z.elim⟩) allOk
      ⟨a, B, sI, pn1, st1, H1, cls, d, h1, h2, h3, h4, h5, h6, h7, h8, false, tested, fun z => (nomatch z), fun z => ⟨lo, no z⟩⟩
  · cases fl with
    | ret r =>
      obtain ⟨v6, st6, H6, T6, r6, q6⟩ := ends
      exact ⟨v6, st6, H6, T6.ofTry allOk, r6, q6⟩
    | next =>
      obtain ⟨st6, H6, T6, q6⟩ := ends
      exact wpAny_execs_nil ⟨st6, H6, T6.ofTry allOk, q6⟩
    | brk =>
      obtain ⟨st6, H6, T6, q6⟩ := ends
      exact ⟨st6, H6, T6.ofTry allOk, q6⟩
    | cont =>
      obtain ⟨st6, H6, T6, q6⟩ := ends
      exact ⟨st6, H6, T6.ofTry allOk, q6⟩
end
end L2

/-! ### try: .. except C as n: raise Y(..), at the data level -/
namespace L2
open PySem PySem.Spec
open PyProof.Rows hiding St
theorem PE.inE {X : Cx} {a : Addr} {pn : List (Addr × Obj)} {xe : Value → Shared → Prop} {e : Expr} {t : TE} (h : PE (X.suite a pn) e t) : PE (X.suiteE a pn xe) e t :=
  PE.nox (X := X.suiteE a pn xe) h
/-- an argument of the raised error: a number, a text, a field of the caught one -/
inductive RA where
  | i (k : Int) | s (x : Str) | f (x : Str)
inductive RAs (n : Str) : List Expr → List RA → Prop
  | nil : RAs n [] []
  | i {k : Int} {j : Nat} {pos : Pos} {es : List Expr} {as : List RA} : RAs n es as → RAs n (.Constant (.int k) j pos :: es) (.i k :: as)
  | s {x : Str} {j : Nat} {pos : Pos} {es : List Expr} {as : List RA} : RAs n es as → RAs n (.Constant (.str x) j pos :: es) (.s x :: as)
  | f {x : Str} {p pos : Pos} {es : List Expr} {as : List RA} : RAs n es as → RAs n (.Attribute (.Name n p) x pos :: es) (.f x :: as)
def tArg (a C dx : Addr) (i : Nat) : RA → TE
  | .i k => tC (.int k)
  | .s x => tC (.str x)
  | .f x => tXf a (.ref C) (some dx) C x (tVar i)
def tArgs (a C dx : Addr) (i : Nat) : List RA → TA
  | [] => tNil
  | r :: rs => tCons (tArg a C dx i r) (tArgs a C dx i rs)
theorem pa_args {X : Cx} {a C dx : Addr} {oe : Obj} {pn : List (Addr × Obj)} {xe : Value → Shared → Prop} {n : Str} {i : Nat} (hz : Zc (.ref C) (some dx) oe) (hf : ∃ vs, oe.data = .fields vs) (hN : X.N[i]? = some n) (hv : Vis X.env.scope n) (hd : (n == ("__debug__" : Str)) = false)
    (hcd : (n == ("__classdict__" : Str)) = false) : ∀ {es : List Expr} {as : List RA}, RAs n es as → (∀ x, RA.f x ∈ as → XfC X.K C ∧ PySem.W.findIn X.K (.ref C) x = some none) → PA (X.suiteE a ((a, oe) :: pn) xe) es (tArgs a C dx i as)
  | _, _, .nil, _ => pa_nil
  | _, _, .i h, hF => pa_cons pe_int (pa_args hz hf hN hv hd hcd h fun x hx => hF x (List.mem_cons_of_mem _ hx))
  | _, _, .s h, hF => pa_cons pe_str (pa_args hz hf hN hv hd hcd h fun x hx => hF x (List.mem_cons_of_mem _ hx))
  | _, _, .f (x := x) h, hF => by
    obtain ⟨T, own⟩ := hF x List.mem_cons_self
    exact pa_cons (PE.inE (pe_xf T own hz hf (pe_var (X := X.suite a ((a, oe) :: pn)) hN hv hd hcd))) (pa_args hz hf hN hv hd hcd h fun x hx => hF x (List.mem_cons_of_mem _ hx))
end L2
namespace DL
open PySem PySem.Spec L2
open PyProof.Rows hiding St
def evA (fs : List (Str × DV)) : RA → Option DV
  | .i k => some (.int k)
  | .s x => some (.str x)
  | .f x => fs.lookup x
def evAs (fs : List (Str × DV)) : List RA → Option (List DV)
  | [] => some []
  | r :: rs => (evA fs r).bind fun d => (evAs fs rs).map (d :: ·)
theorem args_go {K : PySem.W.Frag} {H : Hp} {xs : List (Str × V)} {fs : List (Str × DV)} {σ : L2.St} {a C dx : Addr} {i : Nat} (hx : H dx = some (.xd xs)) (hf : FR K H xs fs) (hi : σ[i]? = some (some (.ref a))) :
    ∀ {as : List RA} {ds : List DV}, evAs fs as = some ds → ∃ vs, VRs K H vs ds ∧ ∀ Q : List V → Hp → Prop, Q vs H → tArgs a C dx i as σ H Q
  | [], ds, h => by cases h; exact ⟨[], .nil, fun Q q => q⟩
  | r :: rs, ds, h => by
    unfold evAs at h
    cases h1 : evA fs r with
    | none => rw [h1] at h; cases h
    | some d =>
      rw [h1] at h
      cases h2 : evAs fs rs with
      | none => rw [h2] at h; cases h
      | some ds2 =>
        rw [h2] at h
        cases h
        obtain ⟨vs, rv, go⟩ := args_go (C := C) hx hf hi h2
        cases r with
        | i k => cases h1; exact ⟨.int k :: vs, .cons (.int k) rv, fun Q q => go _ q⟩
        | s x => cases h1; exact ⟨.str x :: vs, .cons (.str x) rv, fun Q q => go _ q⟩
        | f x =>
          obtain ⟨u, hu, ru⟩ := FR.look hf h1
          exact ⟨u :: vs, .cons ru rv, fun Q q => ⟨.ref a, hi, rfl, rfl, dx, xs, u, rfl, hx, hu, go _ q⟩⟩
/-- what becomes of the body's error -/
def tryExR (i : Nat) (tab : Addr → Bool → Prop) (Cy : Addr) (ys : List Str) (as : List RA) (De : DEnds) : Addr → List (Str × DV) → Dv → Gh → Prop := fun C fs env' G' => ∃ b, tab C b ∧
  (b = true → fs ≠ [] ∧ i < env'.length ∧ ∃ ds, evAs fs as = some ds ∧ ds.length = ys.length ∧ De.ex Cy (ys.zip ds).reverse (env'.set i none) G') ∧
  (b = false → De.ex C fs env' G')
def wTryR (i : Nat) (tab : Addr → Bool → Prop) (Cy : Addr) (ys : List Str) (as : List RA) (wb : DS) : DS := fun De env G => wb { De with ex := tryExR i tab Cy ys as De } env G
section
variable {X : Cx} {W : WX} {x n y : Str} {c : Value} {i j : Nat} {body : List Stmt} {es : List Expr} {e : Expr} {np pos pos' py py2 py3 : Pos} {wb : DS} {tab : Addr → Bool → Prop} {Cy : Addr} {ys : List Str} {as : List RA}
theorem ER.len {K : PySem.W.Frag} {H : Hp} : ∀ {σ : L2.St} {env : Dv}, ER K H σ env → σ.length = env.length
  | _, _, .nil => rfl
  | _, _, .skip _ t => by simp [t.len]
  | _, _, .cons _ t => by simp [t.len]
theorem qs_tryR (i : Nat) (hs : X.stack = X.env :: X.outer) (hf : X.env.frame = some X.env.locals) (hx : X.ex = []) (hN : X.N.Nodup) (hi : X.N[i]? = some n) (hln : X.env.kindOf n = some .local) (hc : Names X x c) (hT : ∀ C b, tab C b → PySem.W.exmOne X.K (.ref C) c = some b) (tk : Takes X W)
    (hno : ∀ cls, Loose X.mg cls → PySem.W.exmOne X.K cls c = some false) (hpa : ∀ hd : Option Value, PassesOwnAt (model X.prog X.w) (X.A.mark hd) X.A X.env X.xe)
    (T : ErrAt X.prog X.w X.K X.mg X.base y Cy ys) (hy : y = "NoFault") (hr : Room j X.A) (hF : ∀ C, tab C true → ∀ z, RA.f z ∈ as → XfC X.K C ∧ PySem.W.findIn X.K (.ref C) z = some none)
    (hb : ∀ (W : WX) (pn : List (Addr × Obj)) (xe : Value → Shared → Prop), Takes (X.tr pn xe) W → PassesOwn (model X.prog X.w) X.A X.env xe → QSs (X.tr pn xe) W body wb)
    (ha : RAs n (e :: es) as) (hys : ys.length ≤ 900 := by decide) (hj : 2 ≤ j := by decide) (hg : Gl X y := by rfl) (hd : (y == ("__debug__" : Str)) = false := by decide) (hn1 : (n == ("__debug__" : Str)) = false := by decide) (hn2 : (n == ("__classdict__" : Str)) = false := by decide)
    (he : starEach (e :: es) X.env = (false, eval e X.env) :: starEach es X.env := by rfl) (hpl : (backTo py2 (starEach es X.env)).any (·.1) = false := by rfl) :
    QS X W (.Try body [.ExceptHandler (some (.Name x np)) (some n) [.Raise (some (.Call (.Name y py) (e :: es) [] py2)) none py3] pos'] [] [] pos) (wTryR i tab Cy ys as wb) := by
  obtain ⟨fI, fd, iC, tI, F1, hbd, FH⟩ := T.ini
  refine ⟨PS.wk (ps_tryE (tb := fun W => TSl X.K W wb) (ts := fun W' a C dx => fun D σ H => tab C true ∧ tMkO Cy (spInit Cy ys) [] (tArgs a C dx i as) σ H fun cls d H' => W' cls d σ H') hs hf hN hi hln hc hpa tk hno hx (fun W pn xe t p => (hb W pn xe t p).pss) (fun a C dx oe pn xe W' hz hfl tkE hot => ?_)) ?_⟩
  · refine ⟨fun pins s σ H D I ⟨hC, q⟩ => ?_⟩
    have one : PSs (X.suiteE a ((a, oe) :: pn) xe) [.Raise (some (.Call (.Name y py) (e :: es) [] py2)) none py3] (fun _ σ H => tMkO Cy (spInit Cy ys) [] (tArgs a C dx i as) σ H fun cls d H' => W' cls d σ H') :=
      pss_one (L2H.ps_raiseH hot tkE (pmk_oexX (X := X.suiteE a ((a, oe) :: pn) xe) T.oex iC tI FH ⟨(hr.mono hj).dp, (hr.mono hj).un⟩ hot hbd pass0 hg T.g (pa_args hz.zc hfl hi (.inl hln) hn1 hn2 ha fun z hz => hF C hC z hz) hd he hpl))
    exact one.run pins s σ H D I q
  rintro D σ H ⟨env, G, De, er, wg, h, le⟩
  refine ⟨env, G, _, er, wg, h, le.nx, le.bk, le.ct, le.rt, ?_⟩
  intro C fs env' G' σ' d0 H' hx e0 er' wg' x'
  obtain ⟨b, hb, h1, h2⟩ := hx
  refine ⟨b, hT C b hb, fun hbt => ?_, fun hbf => le.ex C fs env' G' σ' d0 H' (h2 hbf) e0 er' wg' x'⟩
  obtain ⟨hne0, hl, ds, hds, hdl, q⟩ := h1 hbt
  obtain ⟨d, rfl⟩ : ∃ d, d0 = some d := by
    cases d0 with
    | none => exact (hne0 e0).elim
    | some d => exact ⟨d, rfl⟩
  obtain ⟨xs, e, f⟩ := e0
  refine ⟨C, d, rfl, rfl, fun a ha => ⟨hbt ▸ hb, ?_⟩⟩
  have hi' : (σ'.set i (some (.ref a)))[i]? = some (some (.ref a)) := by rw [List.getElem?_set_self (by rw [er'.len]; exact hl)]
  obtain ⟨vs, rv, go⟩ := args_go (C := C) e f hi' hds
  refine go _ ?_
  have vl : vs.length = ys.length := by rw [rv.len, hdl]
  refine ⟨by omega, fun a2 ha2 => ⟨a2, vs, by rw [List.append_nil], vl, upd_same, fun dx hd hne => ⟨rfl, dx, _, upd_same, by rw [upd_ne hne, upd_same], by rwa [upd_ne hne] at hd, ?_⟩⟩⟩
  have hd1 : H' dx = none := by rwa [upd_ne hne] at hd
  have ee : upd (del (upd (upd (upd H' a2 (exo a2 Cy none)) dx (exd dx (ys.zip vs).reverse)) a2 (exo a2 Cy (some dx))) a2) dx (.xd (ys.zip vs).reverse) = upd H' dx (.xd (ys.zip vs).reverse) := by
    funext c
    by_cases h1 : c = dx
    · subst h1; rw [upd_same, upd_same]
    · rw [upd_ne h1, upd_ne h1]
      by_cases h2 : c = a2
      · subst h2; rw [ha2]; simp [del]
      · have : del (upd (upd (upd H' a2 (exo a2 Cy none)) dx (exd dx (ys.zip vs).reverse)) a2 (exo a2 Cy (some dx))) a2 c = upd (upd (upd H' a2 (exo a2 Cy none)) dx (exd dx (ys.zip vs).reverse)) a2 (exo a2 Cy (some dx)) c := by simp [del, h2]
        rw [this, upd_ne h2, upd_ne h1, upd_ne h2]
  rw [ee]
  have x2 : Ext G' H' G' (upd H' dx (.xd (ys.zip vs).reverse)) := Ext.new hd1
  refine ⟨by subst hy; exact T.g, ?_⟩
  rw [List.set_set]
  exact le.ex Cy _ (env'.set i none) G' (σ'.set i none) (some dx) _ q ⟨_, upd_same, (FR.zip rv).rev.ext wg' x2⟩ ((er'.ext wg' x2).setNone i none) (wg'.new hd1) (x'.trans x2)
end
section
variable [Cls] {De : DEnds} {env : Dv} {G : Gh} {i : Nat} {tab : Addr → Bool → Prop} {wb : DS} {rows : List ERow} {Cy : Addr} {ys : List Str} {as : List RA}
theorem s_tryR (q : wb { De with ex := tryExR i tab Cy ys as De } env G) : wTryR i tab Cy ys as wb De env G := q
theorem s_caughtR {x hn : Str} {fs : List Str} {vs : List (Str × DV)} (hr : (x, fs) ∈ rows) (hb : subB x hn = true) (hl : i < env.length) (ds : List DV) (hd : evAs vs as = some ds) (hlen : ds.length = ys.length)
    (q : De.ex Cy (ys.zip ds).reverse (env.set i none) G) (hne : vs ≠ [] := by simp) : tryExR i (tabX rows hn) Cy ys as De (Cls.adr x) vs env G := ⟨true, ⟨(x, fs), hr, rfl, hb.symm⟩, fun _ => ⟨hne, hl, ds, hd, hlen, q⟩, fun h => nomatch h⟩
end
section
variable [Cls] {P : Program} {w : World} {K : PySem.W.Frag} {mg : Str → Option Value} {base : Heap} {rows : List ERow} {T : List Str}
def hasA (fs : List Str) : RA → Bool
  | .f z => decide (z ∈ fs)
  | _ => true
theorem Errs.fields (E : Errs P w K mg base rows T) {hn : Str} {as : List RA} (h : (rows.all fun r => !(subB r.1 hn) || as.all (hasA r.2)) = true) : ∀ C, tabX rows hn C true → ∀ z, RA.f z ∈ as → XfC K C ∧ PySem.W.findIn K (.ref C) z = some none := by
  rintro C ⟨r, hr, rfl, hb⟩ z hz
  have h1 := List.all_eq_true.mp h r hr
  rw [← hb, Bool.not_true, Bool.false_or] at h1
  have h2 := List.all_eq_true.mp h1 _ hz
  exact ⟨(E.exc r hr).2, E.fld r hr z (of_decide_eq_true h2)⟩
theorem Errs.loose (E : Errs P w K mg base rows T) {hn : Str} (fs : List Str) (hf : (("NoFault" : Str), fs) ∈ rows) (ht : hn ∈ T) (hv : hn ≠ "ValueError") (hs : subB "NoFault" hn = false) (hfn : fs ≠ [] := by exact List.cons_ne_nil _ _) : ∀ cls, Loose mg cls → PySem.W.exmOne K cls (.ref (Cls.adr hn)) = some false := by
  intro cls lo
  have g := (E.err _ hf hfn).g
  have e : cls = .ref (Cls.adr "NoFault") := Option.some.inj ((show mg "NoFault" = some cls from lo).symm.trans g)
  subst e
  exact E.x hn ht hv _ _ ⟨_, hf, rfl, hs.symm⟩
end
end DL

/-! ### defs called within an except suite, that raise nothing there -/
namespace DL
open PySem PySem.Spec L2
open PyProof.Rows hiding St
/-- what a def promises while an error is handled: nothing is raised -/
structure FU (P : Program) (w : World) (K : PySem.W.Frag) (mg : Str → Option Value) (base : Heap) (k : Nat) (f : Addr) (fd : FuncData) (ps : List Str) (d : DF) : Prop where
  len : ∀ ds G Q Y, d ds G Q Y → ds.length = ps.length
  run : ∀ (A : Around) (outer : List Env) (s : Shared) (H : Hp) (args : Args) (us : List Value) (vs : List V) (Q : VK) (E : XK), A.guards = some [] → L2H.RoomH k A → Env0 P w K mg base A outer s H →
    BindsTo s fd args (ps.zip us) → Vals vs us → (∀ c d H, ¬ E c d H) → liftF K d vs H Q E → codeAny (model P w) A (.call (.ref f) args) (CR (CXm P w mg) outer P w H s Q E) s
theorem fu_of {P : Program} {w : World} {K : PySem.W.Frag} {mg : Str → Option Value} {base : Heap} {x qual : Str} {st : Stmt} {f : Addr} {fd : FuncData} {N ps : List Str} {k : Nat} {d : DF} {wb : DS} (F : Fun K x qual st f fd) (S : FnScope N ps (defScope st)) (len : ∀ ds G Q Y, d ds G Q Y → ds.length = ps.length)
    (hbody : ∀ (cdv : Value) (A : Around) (outer : List Env) (s : Shared) (H : Hp) (E : XK) (p : Addr × Obj), (A.deeper (envOfC qual (defScope st) s.heap.objs.size f cdv)).guards = some [] → L2H.RoomH k (A.deeper (envOfC qual (defScope st) s.heap.objs.size f cdv)) →
      QSs (L2H.cxH (CXm P w mg) P w K mg base N qual (defScope st) f cdv A outer s H E p) W0 (defBody st) wb)
    (hq : ∀ ds G Q Y, d ds G Q Y → wb (bodyEnds Q Y) (start0 N.length ds) G) : FU P w K mg base (k + 1) f fd ps d := by
  obtain ⟨oc, od, kV, doc, pm, an, cdv, ct, osl, rfl, lk, hcd⟩ := F.ex
  refine ⟨len, ?_⟩
  intro A outer s H args us vs Q E hgd hr e0 hb r noE hsp
  obtain ⟨ds, G, Pq, Y, rv, wg, hd, kq, kx⟩ := hsp
  have hl : vs.length = ps.length := rv.len.trans (len _ _ _ _ hd)
  have inB := e0.mod.kin _ _ lk
  have inK : K.In s.heap := e0.mod.kin.keeps fun b o q => (e0.bs b o q).1
  have nolim : s.heap.NoLimit := e0.mod.nolimit.keeps fun b o q => (e0.bs b o q).1
  have out : ∀ {l : List Env}, s.heap.FunFrames base l → f ∉ frs l := by
    intro l
    induction l with
    | nil => intro _ h; cases h
    | cons e l ih =>
      intro hf h
      obtain ⟨_, ⟨L, o, hL, hb', _⟩, hrest⟩ := hf
      unfold frs at h
      rw [List.filterMap_cons, hL] at h
      rcases List.mem_cons.mp h with rfl | h
      · rw [inB] at hb'; cases hb'
      · exact ih hrest h
  obtain ⟨pob, hpin⟩ : ∃ pob : Obj, L2H.PinOk outer H s (f, pob) := ⟨_, (e0.bs _ _ inB).1, (e0.bs _ _ inB).2, out e0.funs, fun v z => nomatch z⟩
  have named : ∀ y ∈ ps.zip us, (defScope st).names.lookup y.1 = some .local ∨ ((defScope st).names.lookup y.1 = some .cell ∧ ((cellsFrom (s.heap.objs.size + 1) (defScope st).names []).lookup y.1).isSome = true) := by
    intro y hy
    have hm : y.1 ∈ ps := (List.of_mem_zip (show (y.1, y.2) ∈ ps.zip us from hy)).1
    exact (S.par y.1 hm).imp id fun q => ⟨q, PySem.W.cellsFrom_some _ _ _ (.inl q)⟩
  refine codeAny_call_function hr.depth (inK _ _ lk) rfl S.co S.gen rfl (PySem.W.codeRec_of inK hcd) (hb _ _ _ _ ?_)
  refine wpAny_newFunctionEnv_cells S.kind named ?_
  intro env henv s1 ic
  subst henv
  refine ⟨nolim.keeps ic.toInCall.keep, codeAny_func ?_⟩
  have body := hbody cdv A outer s H E (f, pob) hgd (hr.deeper _)
  have I := L2H.inv_startH (CX := CXm P w mg) (A := A) (qual := qual) (f := f) (cd := cdv) (E := E) (p := (f, pob)) S hpin e0 hl r ic
  refine wpAny_mono (body.pss.run [] s1 (start N vs) H { nx := fun _ H' => Q .non H', rt := Q } I ?_) ?_ fun _ _ z => z
  · refine ⟨start0 N.length ds, G, bodyEnds Pq Y, ?_, wg, hq _ _ _ _ hd, ?_⟩
    · show ER K H (vs.map some ++ List.replicate (N.length - vs.length) none) _
      rw [rv.len]
      exact ER.start rv _
    · exact ⟨fun env G' σ H' q er wg' x' => kq _ _ _ _ q wg' x' .non, fun _ _ _ _ z => z.elim, fun _ _ _ _ z => z.elim, fun r' G' v H' q r wg' x' => kq _ _ _ _ q wg' x' r,
        fun C fs env G' σ dd H' q e er wg' x' => noE _ _ _ (kx C fs G' dd H' q e wg' x')⟩
  · intro fl s' hs
    match fl, hs with
    | .ret u, ⟨v, σ', H', J, rv', q⟩ => exact ⟨v, H', J.os, J.bare, J.base, J.hok, rv', q⟩
    | .next, ⟨σ', H', J, q⟩ => exact ⟨V.non, H', J.os, J.bare, J.base, J.hok, rfl, q⟩
    | .brk, ⟨_, _, _, q⟩ => exact q.elim
    | .cont, ⟨_, _, _, q⟩ => exact q.elim
section
variable {X : Cx} {k : Nat} {f : Addr} {fd : FuncData} {ps : List Str} {d : DF} {x : Str} {p pos : Pos} {e : Expr} {es : List Expr} {wr : DA}
theorem run_callU {pins : List (Addr × Obj)} {σ : L2.St} {H : Hp} {s : Shared} {Q : VK} {us : List Value} {vs : List V} (F : FU X.prog X.w X.K X.mg X.base k f fd ps d) (hg : X.A.guards = some []) (hr : L2H.RoomH k X.A) (hb : Binds X.K fd ps [])
    (I : Inv X pins σ H s) (r : Vals vs us) (h : liftF X.K d vs H Q (WE W0 σ)) : wpAny (model X.prog X.w) X.A (call (.ref f) us) (EP X pins σ Q) X.xe s := by
  have hl : us.length = ps.length := by
    obtain ⟨ds, G, P, Y, rv, _, hd, _⟩ := h
    rw [← r.length, rv.len, F.len _ _ _ _ hd]
  have bb := hb s us I.kIn (by rw [List.append_nil]; exact hl)
  rw [List.append_nil] at bb
  refine wpAny_call (codeAny_mono (F.run X.A X.stack s H ⟨us, []⟩ us vs Q (WE W0 σ) hg hr I.env0 bb r (fun _ _ _ z => z) h) ?_)
  intro res s' hres
  match res, hres with
  | .error er, hres => exact passAt takes0 σ pins H s er s' I hres
  | .ok (.ret u), hres => exact I.after hres
  | .ok .next, hres => exact hres.elim
  | .ok .brk, hres => exact hres.elim
  | .ok .cont, hres => exact hres.elim
theorem q_callU (F : FU X.prog X.w X.K X.mg X.base k f fd ps d) (hgd : X.A.guards = some []) (hr : L2H.RoomH k X.A) (hm : X.mg x = some (.ref f)) (hk : PySem.W.keepIn X.K (.ref f) = true) (hb : Binds X.K fd ps [])
    (ha : QA X W0 (e :: es) wr) (hg : Gl X x := by rfl) (hdb : (x == ("__debug__" : Str)) = false := by decide) (he : starEach (e :: es) X.env = (false, eval e X.env) :: starEach es X.env := by rfl) (hpl : (backTo pos (starEach es X.env)).any (·.1) = false := by rfl) :
    QE X W0 (.Call (.Name x p) (e :: es) [] pos) (wCall d wr) := by
  refine ⟨⟨?_⟩⟩
  rintro pins s σ H Q I ⟨Y, env, G, P, er, wg, h, kq, kx⟩
  refine wpAny_Call_Name_kw (ld_glob I hg hm ?_ hdb)
  refine PySem.W.callWith_K (h₀ := X.base) I.ok.mod.kin hk ?_ he hpl
  refine thn (ha.pa.run pos pins s σ H (fun vs H1 => liftF X.K d vs H1 Q (WE W0 σ)) I ⟨Y, env, G, _, er, wg, h, fun ds G1 vs H1 h1 w1 x1 r1 => ?_, kx⟩) ?_
  · exact ⟨ds, G1, P, Y, r1, w1, h1, fun r G' v H' q w' x' r' => kq r G' v H' q w' (x1.trans x') r', kx.step x1⟩
  · rintro us s1 ⟨vs, H1, I1, r, q⟩
    exact ⟨I1.kIn, run_callU F hgd hr hb I1 r q⟩
/-- a def that may be called within an except suite -/
structure HasU (P : Program) (w : World) (K : PySem.W.Frag) (mg : Str → Option Value) (base : Heap) (k : Nat) (x : Str) (ps : List Str) (d : DF) : Prop where
  ex : ∃ (f : Addr) (fd : FuncData), FU P w K mg base k f fd ps d ∧ mg x = some (.ref f) ∧ PySem.W.keepIn K (.ref f) = true ∧ Binds K fd ps []
theorem DefAt.hasU {P : Program} {w : World} {K : PySem.W.Frag} {mg : Str → Option Value} {base : Heap} {k : Nat} {x : Str} {st : Stmt} {ps : List Str} {d : DF} (D : DefAt K mg x st ps) (h : ∀ f fd, L2.Fun K x x st f fd → FU P w K mg base k f fd ps d) : HasU P w K mg base k x ps d := by
  obtain ⟨f, fd, F, b, m⟩ := D.ex
  exact ⟨f, fd, h f fd F, m, F.kp, b⟩
theorem room_uh {k : Nat} (r : L2H.RoomH k X.A) : X.A.units + 64 < cLine := by have := r.un; omega
theorem q_callUH {k : Nat} (F : HasU X.prog X.w X.K X.mg X.base k x ps d) (hgd : X.A.guards = some []) (hr : L2H.RoomH k X.A)
    (ha : QA X W0 (e :: es) wr) (hg : Gl X x := by rfl) (hdb : (x == ("__debug__" : Str)) = false := by decide) (he : starEach (e :: es) X.env = (false, eval e X.env) :: starEach es X.env := by rfl) (hpl : (backTo pos (starEach es X.env)).any (·.1) = false := by rfl) :
    QE X W0 (.Call (.Name x p) (e :: es) [] pos) (wCall d wr) := by
  obtain ⟨f, fd, F, m, kp, b⟩ := F.ex
  exact q_callU F hgd hr m kp b ha hg hdb he hpl
/-- the room within a suite -/
theorem roomU {j k : Nat} {a : Addr} {pn : List (Addr × Obj)} (r : Room j X.A) (h : k ≤ j) : L2H.RoomH k (X.suite a pn).A := ⟨by have := r.dp; show X.A.depth + 3 * k + 5 < _; omega, by have := r.un; show X.A.units + 16 * k + 200 < _; omega⟩
end
end DL

/-! ### try: .. except C: .. , without a name -/
namespace L2
open PySem PySem.Spec
open PyProof.Rows hiding St
/-- what the clause wishes of an exception of the body -/
def wCatchO (K : PySem.W.Frag) (c : Value) (ts : TS) (Wo : WX) (D : Ends) : WX := fun cls d σ H =>
  ∃ b, PySem.W.exmOne K cls c = some b ∧ (b = true → ts D σ H) ∧ (b = false → Wo cls d σ H)
section
variable {X : Cx} {x : Str} {c : Value} {body more : List Stmt} {first : Stmt} {p1 p2 p3 : Pos} {tb : WX → TS} {ts : TS} {Wo : WX}
theorem catchO {Z : Value → Option Addr → Obj → Prop} (hZ : ∀ cls d, PXN.Steady1 (Z cls d)) (zc : ∀ cls d o, Z cls d o → Zc cls d o) {pins : List (Addr × Obj)} {D : Ends} {xe : Value → Shared → Prop} {e : Value} {u : Shared}
    (hst : X.stack = X.env :: X.outer) (hfm : X.env.frame = some X.env.locals) (hex : X.ex = []) (nm : Names X x c) (tk : ∀ y t, XZ Z X Wo y t → X.xe y t)
    (hsuite : ∀ (a : Addr) (oe : Obj) (pn : List (Addr × Obj)), PSs (X.suite a ((a, oe) :: pn)) (first :: more) ts) (allOk : X.Ok) (caught : XZ Z (X.tr (X.pn ++ pins) xe) (wCatchO X.K c ts Wo D) e u) :
    wpAny (model X.prog X.w) X.A (noteFrame e X.env) (fun _ u2 => wpAny (model X.prog X.w) X.A (setFlight e none) (fun _ u3 =>
      wpAny (model X.prog X.w) X.A (handleBy e X.env [.ExceptHandler (some (.Name x p1)) none (first :: more) p2]) (SP X pins D) X.xe u3) X.xe u2) X.xe u := by
  obtain ⟨a, B, gr, pn1, st1, H1, cls, d, rfl, J0, below, slots, sky, un, os, bare, b, tested, yes, no⟩ := caught
  have J : Inv X pins st1 H1 gr := J0.ofTry allOk
  have frm : X.A.frames = some (X.env :: X.outer) := hst ▸ allOk.frames
  have sky : Sky B (X.env :: X.outer) a (Z cls d) X.env.locals u.heap := by have z := sky; rwa [show (X.tr (X.pn ++ pins) _).stack = X.env :: X.outer from hst] at z
  show wpAny (model X.prog X.w) X.A (noteFrame (.ref a) X.env) _ _ _
  refine L2N.Sky.land (hZ cls d) frm hfm sky fun hq fly slots2 => ?_
  have K3 : Inv X pins st1 H1 { u with heap := hq } := J.landed below fly.1 (slots.trans slots2) os bare
  obtain ⟨ob, vs, obAt, obZ, obF⟩ := fly.there
  have inB : B.get? a = none := fly.2.1
  have noFrame : a ∉ frs (X.env :: X.outer) := fun hm => by
    obtain ⟨_, ob', e', nf⟩ := fly.2.2.1.mem hm
    have e2 := obAt.symm.trans e'
    cases e2
    exact nf _ obF
  have noLoc : a ≠ X.env.locals := fun z => noFrame (List.mem_filterMap.mpr ⟨X.env, List.mem_cons_self, by rw [hfm, z]⟩)
  have noOut : ∀ b, b ≠ X.env.locals → b ∉ X.fs → b ∉ frs X.stack := fun b h1 h2 hm => by
    rw [hst] at hm
    obtain ⟨en, hen, q⟩ := List.mem_filterMap.mp hm
    rcases List.mem_cons.mp hen with z | z
    · rw [z, hfm] at q; exact h1 (Option.some.inj q).symm
    · exact h2 (List.mem_filterMap.mpr ⟨en, z, q⟩)
  have pinFar : ∀ p ∈ X.pn ++ pins, p.1 ≠ a := fun p hp z => by
    obtain ⟨q1, _, q3, q4, _⟩ := J.pin p hp
    have := below p.1 _ q1 (noOut _ q3 q4)
    rw [z, inB] at this; cases this
  have young : X.s_0.heap.get? a = none := by
    cases e : X.s_0.heap.get? a with
    | none => rfl
    | some o0 =>
      obtain ⟨o1, e1⟩ := J.base.there a o0 e (by rw [hex]; simp)
      have := below a o1 e1 (by rw [hst]; exact noFrame)
      rw [inB] at this; cases this
  have notOut : a ∉ X.fs := fun hm => by
    obtain ⟨en, hen, q⟩ := List.mem_filterMap.mp hm
    exact noFrame (List.mem_filterMap.mpr ⟨en, List.mem_cons_of_mem _ hen, q⟩)
  have look := K3.suite obAt obF un noLoc notOut
  refine wpAny_handleBy_cons (codeAny_handlers_test ?_) (by intro q; cases q)
  have ty : PySem.W.Looks (model X.prog X.w) hq (typeOf (.ref a)) cls := fun A Q E z k q => wpAny_typeOf_ref (k _ _ obAt) ((zc _ _ _ obZ).1.symm ▸ q)
  have asked := PySem.W.exm_one (M := model X.prog X.w) K3.kIn ty tested
  have named : ∀ {Q : Value → Shared → Prop} {E : Value → Shared → Prop}, Q c { u with heap := hq } → wpAny (model X.prog X.w) (X.A.mark (some (.ref a))) (eval (.Name x p1) X.env) Q E { u with heap := hq } := fun {Q E} q => by
    obtain ⟨n1, n2, n3 | ⟨n3, n4, n5⟩⟩ := nm
    · exact ld_glob (X := X.suite a ((a, ob) :: (X.pn ++ pins))) look n1 n3 q n2
    · exact ld_blt (X := X.suite a ((a, ob) :: (X.pn ++ pins))) look n1 n3 n4 q n5 n2
  refine named (asked.here ?_)
  cases b with
  | false =>
    show wpAny _ X.A (handleBy (.ref a) X.env []) _ _ _
    refine wpAny_handleBy_nil ?_
    obtain ⟨_, _, _, o9, v9, T9, _, _, at9, _, fl9, tb9, _⟩ := id fly
    have gone : wpAny (model X.prog X.w) X.A (setFlight (.ref a) X.env.frame) (fun _ u4 => wpAny (model X.prog X.w) X.A (throw (.ref a) : Sem Flow) (SP X pins D) X.xe u4) X.xe { u with heap := hq } := by
      rw [hfm]
      exact HandSPX.setFlight_upZ fly fun h9 held slots9 => wpAny_throw (tk _ _ ⟨a, B, gr, pins, st1, H1, cls, d, rfl, J, below, (slots.trans slots2).trans slots9, .inr (.inr (by rw [hst]; exact held)), un, os, bare, no rfl⟩)
    unfold PySem.passOn
    refine wpAny_bind (wpAny_field at9 fl9 tb9 ?_)
    rw [if_neg (by simp)]
    first
      | exact wpAny_bind (wpAny_pure (wpAny_bind gone))
      | exact wpAny_bind gone
  | true =>
    refine codeAny_handlers_suite (HandSPX.lands_againZ fly fun h9 fly9 slots9 => ?_)
    have K9 : Inv X pins st1 H1 { u with heap := h9 } := J.landed below fly9.1 ((slots.trans slots2).trans slots9) os bare
    obtain ⟨o9, v9, e9, z9, f9⟩ := fly9.there
    have S9 := K9.suite e9 f9 un noLoc notOut
    refine wpAny_mono ((hsuite a o9 (X.pn ++ pins)).run [] _ _ _ _ S9 (yes rfl)) (fun fl u6 ends => ?_) fun _ _ z => z.elim
    cases fl with
    | ret r =>
      obtain ⟨v6, st6, H6, T6, r6, q6⟩ := ends
      exact ⟨v6, st6, H6, T6.unsuite allOk, r6, q6⟩
    | next =>
      obtain ⟨st6, H6, T6, q6⟩ := ends
      exact ⟨st6, H6, T6.unsuite allOk, q6⟩
    | brk =>
      obtain ⟨st6, H6, T6, q6⟩ := ends
      exact ⟨st6, H6, T6.unsuite allOk, q6⟩
    | cont =>
      obtain ⟨st6, H6, T6, q6⟩ := ends
      exact ⟨st6, H6, T6.unsuite allOk, q6⟩
theorem ps_tryO (hst : X.stack = X.env :: X.outer) (hfm : X.env.frame = some X.env.locals) (hex : X.ex = []) (nm : Names X x c) (tk : DL.Takes X Wo)
    (hbody : ∀ (W : WX) (pn : List (Addr × Obj)) (xe : Value → Shared → Prop), DL.Takes (X.tr pn xe) W → PassesOwn (model X.prog X.w) X.A X.env xe → PSs (X.tr pn xe) body (tb W))
    (hsuite : ∀ (a : Addr) (oe : Obj) (pn : List (Addr × Obj)), PSs (X.suite a ((a, oe) :: pn)) (first :: more) ts) :
    PS X (.Try body [.ExceptHandler (some (.Name x p1)) none (first :: more) p2] [] [] p3) (fun D σ H => tb (wCatchO X.K c ts Wo D) D σ H) := by
  refine ⟨fun pins s σ H D I h => ?_⟩
  have allOk := I.ok
  refine wpAny_Try_except (wpAny_mono ((hbody (wCatchO X.K c ts Wo D) (X.pn ++ pins) (fun e u => wpAny (model X.prog X.w) X.A (noteFrame e X.env) (fun _ u2 => wpAny (model X.prog X.w) X.A (setFlight e none) (fun _ u3 =>
    wpAny (model X.prog X.w) X.A (handleBy e X.env [.ExceptHandler (some (.Name x p1)) none (first :: more) p2]) (SP X pins D) X.xe u3) X.xe u2) X.xe u) ⟨fun e u caught => ?_, fun e u caught => ?_⟩ PassesOwn.looking).run [] s σ H D (I.toTry _) h) (fun fl u ends => ?_) fun _ _ q => q)
  · exact catchO (Z := L2N.Zn) (fun _ _ => L2N.Zn.steady) (fun _ _ _ z => z.zc) hst hfm hex nm tk.n hsuite allOk caught
  · obtain ⟨a, B, sI, pn1, st1, H1, cls, d, h1, h2, h3, h4, h5, h6, h7, h8, lo, b, tested, yes, no⟩ := caught
    exact catchO (Z := Zc) (Wo := DL.loosely X.mg Wo) (fun _ _ => zc_steady1) (fun _ _ _ z => z) hst hfm hex nm tk.c hsuite allOk ⟨a, B, sI, pn1, st1, H1, cls, d, h1, h2, h3, h4, h5, h6, h7, h8, b, tested, yes, fun z => ⟨lo, no z⟩⟩
  · cases fl with
    | ret r =>
      obtain ⟨v6, st6, H6, T6, r6, q6⟩ := ends
      exact ⟨v6, st6, H6, T6.ofTry allOk, r6, q6⟩
    | next =>
      obtain ⟨st6, H6, T6, q6⟩ := ends
      exact wpAny_execs_nil ⟨st6, H6, T6.ofTry allOk, q6⟩
    | brk =>
      obtain ⟨st6, H6, T6, q6⟩ := ends
      exact ⟨st6, H6, T6.ofTry allOk, q6⟩
    | cont =>
      obtain ⟨st6, H6, T6, q6⟩ := ends
      exact ⟨st6, H6, T6.ofTry allOk, q6⟩
end
end L2
namespace DL
open PySem PySem.Spec L2
open PyProof.Rows hiding St
/-! ### try: .. except C: .. -/
def tryOx (tab : Addr → Bool → Prop) (ws : DS) (De : DEnds) : Addr → List (Str × DV) → Dv → Gh → Prop := fun C fs env' G' => ∃ b, tab C b ∧
  (b = true → ws { nx := De.nx, rt := De.rt, bk := De.bk, ct := De.ct } env' G') ∧ (b = false → De.ex C fs env' G')
def wTryO (tab : Addr → Bool → Prop) (wb : DS) (ws : DS) : DS := fun De env G => wb { De with ex := tryOx tab ws De } env G
section
variable {X : Cx} {W : WX} {x : Str} {c : Value} {body suite : List Stmt} {b₀ : Stmt} {np pos pos' : Pos} {wb ws : DS} {tab : Addr → Bool → Prop}
theorem qs_tryO (hs : X.stack = X.env :: X.outer) (hf : X.env.frame = some X.env.locals) (hx : X.ex = []) (hc : Names X x c) (hT : ∀ C b, tab C b → PySem.W.exmOne X.K (.ref C) c = some b) (tk : Takes X W)
    (hb : ∀ (W : WX) (pn : List (Addr × Obj)) (xe : Value → Shared → Prop), Takes (X.tr pn xe) W → PassesOwn (model X.prog X.w) X.A X.env xe → QSs (X.tr pn xe) W body wb)
    (hsu : ∀ (a : Addr) (pn : List (Addr × Obj)), QSs (X.suite a pn) W0 (b₀ :: suite) ws) :
    QS X W (.Try body [.ExceptHandler (some (.Name x np)) none (b₀ :: suite) pos'] [] [] pos) (wTryO tab wb ws) := by
  refine ⟨PS.wk (ps_tryO (tb := fun W => TSl X.K W wb) (ts := TSl X.K W0 ws) hs hf hx hc tk (fun W pn xe t p => (hb W pn xe t p).pss) (fun a oe pn => (hsu a _).pss)) ?_⟩
  rintro D σ H ⟨env, G, De, er, wg, h, le⟩
  refine ⟨env, G, _, er, wg, h, le.nx, le.bk, le.ct, le.rt, ?_⟩
  intro C fs env' G' σ' d H' hx e er' wg' x'
  obtain ⟨b, hb, h1, h2⟩ := hx
  refine ⟨b, hT C b hb, fun hbt => ?_, fun hbf => le.ex C fs env' G' σ' d H' (h2 hbf) e er' wg' x'⟩
  refine ⟨env', G', _, er', wg', h1 hbt, ?_⟩
  refine ⟨fun e2 g2 σ2 H2 p er2 wg2 x4 => ?_, fun e2 g2 σ2 H2 p er2 wg2 x4 => ?_, fun e2 g2 σ2 H2 p er2 wg2 x4 => ?_, fun d2 g2 v2 H2 p r2 wg2 x4 => ?_, fun _ _ _ _ _ _ _ z => z.elim⟩
  · exact le.nx _ _ _ _ p er2 wg2 (x'.trans x4)
  · exact le.bk _ _ _ _ p er2 wg2 (x'.trans x4)
  · exact le.ct _ _ _ _ p er2 wg2 (x'.trans x4)
  · exact le.rt _ _ _ _ p r2 wg2 (x'.trans x4)
end
section
variable [Cls] {De : DEnds} {env : Dv} {G : Gh} {tab : Addr → Bool → Prop} {wb ws : DS} {rows : List ERow}
theorem s_tryO (q : wb { De with ex := tryOx tab ws De } env G) : wTryO tab wb ws De env G := q
theorem s_caughtO {x hn : Str} {fs : List Str} {vs : List (Str × DV)} (hr : (x, fs) ∈ rows) (hb : subB x hn = true)
    (q : ws { nx := De.nx, rt := De.rt, bk := De.bk, ct := De.ct } env G) : tryOx (tabX rows hn) ws De (Cls.adr x) vs env G := ⟨true, ⟨(x, fs), hr, rfl, hb.symm⟩, fun _ => q, fun h => nomatch h⟩
theorem s_passO {x hn : Str} {fs : List Str} {vs : List (Str × DV)} (hr : (x, fs) ∈ rows) (hb : subB x hn = false)
    (q : De.ex (Cls.adr x) vs env G) : tryOx (tabX rows hn) ws De (Cls.adr x) vs env G := ⟨false, ⟨(x, fs), hr, rfl, hb.symm⟩, (fun h => nomatch h), fun _ => q⟩
end
end DL

namespace DL
open PySem PySem.Spec L2
open PyProof.Rows hiding St
/-- a feed: [left, seed, turn], the turn at most n -/
structure FeedA (G : Gh) (t : Addr) (n : Nat) : Prop where
  ex : ∃ l s u : Int, G t = some (.lst [.int l, .int s, .int u]) ∧ 0 ≤ l ∧ 0 ≤ u ∧ u ≤ n
section
variable {G G' : Gh} {t p : Addr} {n m : Nat}
theorem FeedA.sub (h : FeedA G t n) (k : Sub G G') : FeedA G' t n := by
  obtain ⟨l, s, u, h1, h2⟩ := h.ex
  exact ⟨l, s, u, k _ _ h1, h2⟩
theorem FeedA.mono (h : FeedA G t n) (k : n ≤ m) : FeedA G t m := by
  obtain ⟨l, s, u, h1, h2, h3, h4⟩ := h.ex
  exact ⟨l, s, u, h1, h2, h3, by omega⟩
theorem FeedA.ne1 (h : FeedA G t n) (k : G p = none) : p ≠ t := by
  obtain ⟨l, s, u, h1, _⟩ := h.ex
  rintro rfl; rw [k] at h1; cases h1
theorem FeedA.ne2 (h : FeedA G t n) (k : G p = none) : p ≠ t := h.ne1 k
theorem FeedA.nct (h : FeedA G t n) : True := trivial
theorem FeedA.old {e : Addr} (h : FeedA G t n) (k : Old e G G') (n1 : e ≠ t) (n2 : e ≠ t) : FeedA G' t n := by
  obtain ⟨l, s, u, h1, h2⟩ := h.ex
  exact ⟨l, s, u, k _ _ n1.symm h1, h2⟩
end
local macro_rules | `(tactic| walk_at "ne") => `(tactic| first
  | assumption | (refine Ne.symm ?_; assumption) | exact FeedA.nct (by assumption) | exact FeedA.ne1 (by assumption) (by assumption) | exact FeedA.ne2 (by assumption) (by assumption) | (refine Ne.symm ?_; exact FeedA.ne1 (by assumption) (by assumption)) | (refine Ne.symm ?_; exact FeedA.ne2 (by assumption) (by assumption))
  | ((apply ne_goneR); (· assumption); walk_at "gl") | ((refine Ne.symm ?_); (apply ne_goneR); (· assumption); walk_at "gl"))
local macro_rules | `(tactic| walk_at "gl") => `(tactic| first
  | assumption | ((apply Sub.look); (· assumption); walk_at "gl") | ((apply Old.look); (· assumption); (· walk_at "ne"); walk_at "gl"))
local macro_rules | `(tactic| walk_at "tp") => `(tactic| first
  | assumption | ((apply FeedA.sub); rotate_left; assumption; walk_at "tp") | ((apply FeedA.old); rotate_left; assumption; (· walk_at "ne"); (· walk_at "ne"); walk_at "tp"))
local macro_rules | `(tactic| walk_at "d1") => `(tactic| first
  | with_reducible (first | refine x_listR ?_ | refine s_strS ?_)
  | ((with_reducible apply s_ninT); (· exact rfl); (· exact rfl))
  | with_reducible (first | refine s_isiR (by decide) ?_ | refine s_seqR ?_ | refine s_seqStr ?_ | refine s_wiRange3 ?_ | refine s_wiZip3 ?_ | refine s_zip3 ?_ | refine s_srcR ?_ | refine s_t ?_ | refine s_f ?_)
  | ((with_reducible apply x_remove); (· walk_at "gl"))
  | ((with_reducible apply x_dictC); (· walk_at "gl"))
  | ((with_reducible apply x_reverse); (· walk_at "gl"))
  | with_reducible (first | refine s_tupRg ?_ | refine s_isBl ?_ | refine s_isntBl ?_ | refine s_revT ?_)
  | ((with_reducible apply s_eqNil); (· walk_at "gl"); (· walk_at "gl"))
  | ((with_reducible apply s_eqNilR); (· walk_at "gl"))
  | ((with_reducible apply s_neNilR); (· walk_at "gl"))
  | with_reducible (first | refine s_mulT (by decide) ?_ | refine x_dnewT ?_ | refine s_disp1T ?_)
  | ((with_reducible apply x_disp1); (· first | exact keyT_ints | exact rfl))
  | ((with_reducible apply s_inDt); (· walk_at "gl"); (· first | exact keyT_ints | exact rfl))
  | ((with_reducible apply s_ninDt); (· walk_at "gl"); (· first | exact keyT_ints | exact rfl))
  | ((with_reducible apply s_inKt); (· exact rfl); (· exact rfl))
  | ((with_reducible apply s_ninKt); (· exact rfl); (· exact rfl))
  | ((with_reducible apply s_tyDt); (· walk_at "gl"))
  | with_reducible (first | refine s_tyS ?_ | refine s_lenSet ?_)
  | ((with_reducible apply x_clear); (· walk_at "gl"))
  | ((with_reducible apply x_getDt); (· walk_at "gl"); (· first | exact keyT_ints | exact rfl))
  | ((with_reducible apply s_lenDt); (· walk_at "gl"))
  | ((with_reducible apply s_inRows); (· walk_at "gl"))
  | ((with_reducible apply s_ninRows); (· walk_at "gl")))
local macro_rules | `(tactic| walk_at "d1") => `(tactic| first
  | ((with_reducible apply x_stF); (· walk_at "gl"); (· exact rfl); (· walk_at "pf"))
  | with_reducible refine s_seqE ?_
  | ((with_reducible apply s_gUnl); (· walk_at "gl"))
  | with_reducible (first | refine s_bm0 ?_ | refine s_slT ?_)
  | ((with_reducible apply s_inT); (· exact rfl); (· exact rfl))
  | with_reducible refine s_pow (by decide) ?_
  | ((with_reducible apply x_get); (· walk_at "gl"); (· exact rfl))
  | ((with_reducible apply s_neNil); (· walk_at "gl"); (· walk_at "gl"))
  | with_reducible (first | refine x_dnew ?_ | refine x_slR ?_ | refine s_max2 ?_ | refine s_min2 ?_ | refine s_abs ?_ | refine s_tupleT ?_ | refine x_listT ?_ | refine s_wiRange2 ?_)
  | ((with_reducible apply x_slL); (· walk_at "gl"))
  | ((with_reducible apply x_listL); (· walk_at "gl"))
  | with_reducible refine s_rev ?_
  | ((with_reducible apply x_revL); (· walk_at "gl"))
  | with_reducible (first | refine s_make ?_ | refine s_minD ?_ | refine s_wiKeys ?_ | refine s_wiKeysT ?_)
  | ((with_reducible apply s_kyK); (· walk_at "gl"))
  | ((with_reducible apply x_listDk); (· walk_at "gl"))
  | with_reducible (first | refine s_le ?_ | refine s_retN ?_ | refine s_break ?_ | refine s_cont ?_ | refine s_or ?_ | refine s_orK ?_ | refine s_chain ?_ | refine s_chn ?_ | refine s_lcX ?_ | refine s_neB ?_ | refine s_eqB ?_ | refine s_lenR ?_ | refine s_intI ?_ | refine s_tupleR ?_))
local macro_rules | `(tactic| walk_at "d1") => `(tactic| first
  | ((with_reducible apply x_append); (· walk_at "gl"))
  | ((with_reducible apply s_isiL); (· walk_at "gl"); (· decide))
  | ((with_reducible apply s_isiD); (· walk_at "gl"); (· decide))
  | ((with_reducible apply s_lenL); (· walk_at "gl"))
  | with_reducible (first | refine s_neI ?_ | refine s_isnt ?_ | refine s_meth ?_)
  | ((with_reducible apply s_metK); (· walk_at "gl"); (· walk_at "nm"))
  | with_reducible (first | refine s_wiEnum1 ?_ | refine s_enum1 ?_)
  | ((with_reducible apply s_ixD); (· walk_at "gl"); (· exact rfl); (· exact rfl))
  | with_reducible (first | refine s_ge ?_ | refine s_part ?_ | refine s_partK ?_ | refine s_is ?_ | refine s_andT ?_ | refine s_not ?_ | refine s_notK ?_ | refine s_ifE ?_ | refine s_sl ?_ | refine s_intB ?_)
  | ((with_reducible apply x_setL); (· walk_at "gl"); (· exact rfl); (· (try dsimp only [Int.reduceToNat, List.set_cons_zero, List.set_cons_succ]); first | done | exact rfl))
  | ((with_reducible apply x_addL); (· walk_at "gl"); (· walk_at "gl"); (· simp only [List.length_cons, List.length_nil, Nat.reduceAdd]; decide))
  | with_reducible (first | refine s_noPart ?_ | refine s_neS ?_ | refine s_listRg ?_ | refine x_lr (by decide) ?_)
  | ((with_reducible apply x_setDi); (· walk_at "gl"); (· exact rfl); (· exact kv_few rfl))
  | ((with_reducible apply s_tyDc); (· walk_at "gl"))
  | with_reducible refine s_stF ?_)
local macro_rules | `(tactic| walk_at "d1") => `(tactic| first
  | with_reducible (first | refine s_orT ?_ | refine s_seqA ?_ | refine s_notT ?_ | refine s_expr ?_)
  | ((with_reducible apply s_addT); (· simp only [List.length_cons, List.length_nil, Nat.reduceAdd]; decide))
  | with_reducible (first | refine s_and ?_ | refine s_isiI (by decide) ?_ | refine s_isiB (by decide) ?_ | refine s_srcT ?_)
  | ((with_reducible apply s_srcL); (· walk_at "gl"))
  | with_reducible (first | refine s_lt ?_ | refine s_gt ?_ | refine s_neg ?_ | refine s_negK ?_ | refine s_isiS (by decide) ?_ | refine s_isiT (by decide) ?_ | refine s_isiN (by decide) ?_ | refine s_wiZip2 ?_ | refine s_zip2 ?_ | refine s_mod (by decide) ?_))
local macro_rules | `(tactic| walk_at "d1") => `(tactic| first
  | with_reducible (first | refine s_for ?_ | refine s_lenT ?_ | refine s_mul (by decide) ?_ | refine s_sub ?_ | refine s_fl ?_)
  | ((with_reducible apply s_flK); (· walk_at "gl"); (· walk_at "fl"))
  | with_reducible refine s_seqT ?_
  | ((with_reducible apply x_dispR); (· exact rfl); (· exact rfl); (· simp only [List.length_cons, List.length_nil, Nat.reduceAdd]; decide))
  | with_reducible (first | refine s_disp ?_ | refine s_pairs0 ?_ | refine s_bm ?_)
  | ((with_reducible apply s_seqL); (· walk_at "gl"))
  | with_reducible refine s_eqI ?_
  | ((with_reducible apply s_tyL); (· walk_at "gl"))
  | with_reducible refine s_gSub ?_)
local macro_rules | `(tactic| walk_at "d1") => `(tactic| first
  | with_reducible refine s_yes ?_
  | ((with_reducible apply s_ixL); (· walk_at "gl"); (· exact rfl))
  | with_reducible (first | refine s_eqS ?_ | refine s_wiSeq ?_)
  | ((with_reducible apply s_tupleL); (· walk_at "gl"))
  | with_reducible (first | refine s_pairs ?_ | refine s_gNil ?_ | refine s_lst ?_)
  | ((with_reducible apply x_mkL); (· simp only [List.length_cons, List.length_nil, Nat.reduceAdd]; decide))
  | with_reducible (first | refine s_add ?_ | refine s_gTup ?_ | refine s_andK ?_ | refine s_wiRange1 ?_ | refine s_rng1 (by decide) ?_ | refine s_asg ?_))
local macro_rules | `(tactic| walk_at "d1") => `(tactic| first
  | with_reducible (first | refine s_seqS ?_ | refine s_tst ?_ | refine s_cb ?_ | refine s_tup ?_)
  | ((with_reducible apply s_mkT); (· simp only [List.length_cons, List.length_nil, Nat.reduceAdd]; decide))
  | with_reducible (first | refine s_if ?_ | refine s_gCons ?_ | refine s_noB (by decide +kernel) ?_ | refine s_next ?_ | refine s_lc ?_))
local macro_rules | `(tactic| walk_at "d1") => `(tactic| first
  | with_reducible refine s_yesB (by decide +kernel) ?_
  | ((with_reducible apply s_st); (· (try dsimp only [List.set, start0, List.map, List.length, List.replicate, List.append, HAppend.hAppend, Append.append, wipeD, Nat.sub]); first | done | exact rfl))
  | with_reducible (first | refine s_call ?_ | refine s_ret ?_ | refine s_set ?_)
  | ((with_reducible apply s_ixT); (· first | exact rfl | exact at_0 | exact at_1 | exact at_2))
  | with_reducible refine s_gName ?_
  | ((with_reducible apply s_gs); (· (try dsimp only [List.set, start0, List.map, List.length, List.replicate, List.append, HAppend.hAppend, Append.append, wipeD, Nat.sub]); first | done | exact rfl)))
local macro_rules | `(tactic| walk_at "d1") => `(tactic| first
  | ((with_reducible apply s_var); (· exact rfl))
  | with_reducible (first | refine s_cons ?_ | refine s_c ?_ | refine s_nil ?_ | refine s_op ?_ | refine s_bl ?_))
local macro_rules | `(tactic| walk_at "dl") => `(tactic| ((repeat walk_at "d1"); try dsimp only))
local macro_rules | `(tactic| walk_at "if") => `(tactic| ((try with_reducible refine s_seq ?_); (try with_reducible refine s_if ?_); walk_at "dl"))
local macro_rules | `(tactic| walk_at "in") => `(tactic| (repeat (intro _ _ _; intros; walk_at "dl")))
local macro_rules | `(tactic| walk_at "sb") => `(tactic| first
  | assumption | exact Sub.refl | ((apply Sub.transR); (· assumption); walk_at "sb") | ((apply Sub.ownR); (· assumption); (· walk_at "nn"); walk_at "sb"))
local macro_rules | `(tactic| walk_at "nn") => `(tactic| first
  | assumption | ((apply none_sub); (· assumption); walk_at "sb"))
local macro_rules | `(tactic| walk_at "od") => `(tactic| first
  | assumption | exact Old.refl | exact Sub.old (by walk_at "sb")
  | ((apply Old.subR); (· assumption); walk_at "od") | ((apply Old.transR); (· assumption); walk_at "od") | ((apply Old.ownR2); (· assumption); (· walk_at "nn"); walk_at "od"))
local macro_rules | `(tactic| walk_at "ca1") => `(tactic| first
  | exact rfl | assumption | walk_at "tp" | omega | decide | walk_at "gl" | exact Sub.refl)
local macro_rules | `(tactic| walk_at "ca") => `(tactic| ((repeat (with_reducible apply Exists.intro)); (repeat ((with_reducible refine And.intro ?_ ?_); (· walk_at "ca1")))))

def top (i : Nat) : Stmt := PySem.Challenge.pw_dropsums_k18_refusals_apart.main.body.getD i (.Pass ⟨0, 0, 0, 0⟩)
abbrev bins : List String := ["ValueError", "isinstance", "len", "range", "repr"]
abbrev errRows : List ERow := [("NoAsk", ["word"]), ("NoFault", ["word", "at"]), ("NoJoin", ["word", "at"]), ("NoLines", ["line"]), ("NoPaper", ["word", "at"]), ("NoPot", ["line", "word"]), ("NoRow", ["text"]), ("NoStep", ["place"]), ("DropError", [])]
abbrev errT : List Str := ["DropError", "NoAsk", "NoFault", "NoJoin", "NoLines", "NoPaper", "NoPot", "NoRow", "NoStep", "ValueError"]
variable [Cls]
theorem r_NoAsk : ((("NoAsk" : Str), (["word"] : List Str)) : ERow) ∈ errRows := by decide +kernel
theorem r_NoFault : ((("NoFault" : Str), (["word", "at"] : List Str)) : ERow) ∈ errRows := by decide +kernel
theorem r_NoJoin : ((("NoJoin" : Str), (["word", "at"] : List Str)) : ERow) ∈ errRows := by decide +kernel
theorem r_NoLines : ((("NoLines" : Str), (["line"] : List Str)) : ERow) ∈ errRows := by decide +kernel
theorem r_NoPaper : ((("NoPaper" : Str), (["word", "at"] : List Str)) : ERow) ∈ errRows := by decide +kernel
theorem r_NoPot : ((("NoPot" : Str), (["line", "word"] : List Str)) : ERow) ∈ errRows := by decide +kernel
theorem r_NoRow : ((("NoRow" : Str), (["text"] : List Str)) : ERow) ∈ errRows := by decide +kernel
theorem r_NoStep : ((("NoStep" : Str), (["place"] : List Str)) : ERow) ∈ errRows := by decide +kernel
theorem r_DropError : ((("DropError" : Str), ([] : List Str)) : ERow) ∈ errRows := by decide +kernel
theorem t_DropError : ("DropError" : Str) ∈ errT := by decide +kernel
theorem v_DropError : DV.ref (Cls.adr "DropError") = clsV "DropError" := (clsV_own (by decide +kernel)).symm
theorem t_NoAsk : ("NoAsk" : Str) ∈ errT := by decide +kernel
theorem v_NoAsk : DV.ref (Cls.adr "NoAsk") = clsV "NoAsk" := (clsV_own (by decide +kernel)).symm
theorem t_NoFault : ("NoFault" : Str) ∈ errT := by decide +kernel
theorem v_NoFault : DV.ref (Cls.adr "NoFault") = clsV "NoFault" := (clsV_own (by decide +kernel)).symm
theorem t_NoJoin : ("NoJoin" : Str) ∈ errT := by decide +kernel
theorem v_NoJoin : DV.ref (Cls.adr "NoJoin") = clsV "NoJoin" := (clsV_own (by decide +kernel)).symm
theorem t_NoLines : ("NoLines" : Str) ∈ errT := by decide +kernel
theorem v_NoLines : DV.ref (Cls.adr "NoLines") = clsV "NoLines" := (clsV_own (by decide +kernel)).symm
theorem t_NoPaper : ("NoPaper" : Str) ∈ errT := by decide +kernel
theorem v_NoPaper : DV.ref (Cls.adr "NoPaper") = clsV "NoPaper" := (clsV_own (by decide +kernel)).symm
theorem t_NoPot : ("NoPot" : Str) ∈ errT := by decide +kernel
theorem v_NoPot : DV.ref (Cls.adr "NoPot") = clsV "NoPot" := (clsV_own (by decide +kernel)).symm
theorem t_NoRow : ("NoRow" : Str) ∈ errT := by decide +kernel
theorem v_NoRow : DV.ref (Cls.adr "NoRow") = clsV "NoRow" := (clsV_own (by decide +kernel)).symm
theorem t_NoStep : ("NoStep" : Str) ∈ errT := by decide +kernel
theorem v_NoStep : DV.ref (Cls.adr "NoStep") = clsV "NoStep" := (clsV_own (by decide +kernel)).symm
theorem t_ValueError : ("ValueError" : Str) ∈ errT := by decide +kernel
theorem v_ValueError : DV.ty "ValueError" = clsV "ValueError" := by unfold clsV; rw [if_pos rfl]
abbrev s_NoAsk : Stmt := inCls (top 4) 0
theorem sc_NoAsk : FnScope ["self", "word"] ["self", "word"] (defScope s_NoAsk) := ⟨rfl, rfl, rfl, by decide +kernel, rfl, by decide +kernel, by decide +kernel⟩
theorem x_NoAsk {P : Program} {w : World} {K : PySem.W.Frag} {mg : Str → Option Value} {base : Heap} {f C D : Addr} {fd : FuncData} (F : L2.Fun K "__init__" "NoAsk.__init__" s_NoAsk f fd) (oc : OexC K C) (n1 : PySem.W.findIn K (.ref C) "word" = some none) (gD : mg "DropError" = some (.ref D)) (cr : ClX.CRead K D (.type "type")) (vV : PySem.W.findCls K (.ref D) (.type "type") "__init__" = some (.val (.builtin "ValueError.__init__"))) : FnOk P w K mg base CX0 1 f fd ["self", "word"] (spInit C ["word"]) ∧ L2H.FnH P w K mg base CX0 1 f fd ["self", "word"] (spInit C ["word"]) :=
  ok_init1 (k := 0) F sc_NoAsk oc n1 (fun a v H Q h => h _) (fun cdv A outer s H E c pn => pss_cons (ps_expr (pe_baseinit rfl gD cr vV (pa_cons (pe_var (i := 0) rfl (Or.inl rfl)) (pa_cons pe_str pa_nil)))) (pss_one (ps_ost (pe_var (i := 0) rfl (Or.inl rfl)) (pe_var (i := 1) rfl (Or.inl rfl)))))
abbrev s_NoFault : Stmt := inCls (top 7) 0
theorem sc_NoFault : FnScope ["self", "word", "at"] ["self", "word", "at"] (defScope s_NoFault) := ⟨rfl, rfl, rfl, by decide +kernel, rfl, by decide +kernel, by decide +kernel⟩
theorem x_NoFault {P : Program} {w : World} {K : PySem.W.Frag} {mg : Str → Option Value} {base : Heap} {f C D : Addr} {fd : FuncData} (F : L2.Fun K "__init__" "NoFault.__init__" s_NoFault f fd) (oc : OexC K C) (n1 : PySem.W.findIn K (.ref C) "word" = some none) (n2 : PySem.W.findIn K (.ref C) "at" = some none) (gD : mg "DropError" = some (.ref D)) (cr : ClX.CRead K D (.type "type")) (vV : PySem.W.findCls K (.ref D) (.type "type") "__init__" = some (.val (.builtin "ValueError.__init__"))) : FnOk P w K mg base CX0 1 f fd ["self", "word", "at"] (spInit C ["word", "at"]) ∧ L2H.FnH P w K mg base CX0 1 f fd ["self", "word", "at"] (spInit C ["word", "at"]) :=
  ok_init2 (k := 0) F sc_NoFault oc n1 n2 (fun a v v2 H Q h => h _) (fun cdv A outer s H E c pn => pss_cons (ps_expr (pe_baseinit rfl gD cr vV (pa_cons (pe_var (i := 0) rfl (Or.inl rfl)) (pa_cons pe_str pa_nil)))) (pss_cons (ps_ost (pe_var (i := 0) rfl (Or.inl rfl)) (pe_var (i := 1) rfl (Or.inl rfl))) (pss_one (ps_ost (pe_var (i := 0) rfl (Or.inl rfl)) (pe_var (i := 2) rfl (Or.inl rfl))))))
abbrev s_NoJoin : Stmt := inCls (top 8) 0
theorem sc_NoJoin : FnScope ["self", "word", "at"] ["self", "word", "at"] (defScope s_NoJoin) := ⟨rfl, rfl, rfl, by decide +kernel, rfl, by decide +kernel, by decide +kernel⟩
theorem x_NoJoin {P : Program} {w : World} {K : PySem.W.Frag} {mg : Str → Option Value} {base : Heap} {f C D : Addr} {fd : FuncData} (F : L2.Fun K "__init__" "NoJoin.__init__" s_NoJoin f fd) (oc : OexC K C) (n1 : PySem.W.findIn K (.ref C) "word" = some none) (n2 : PySem.W.findIn K (.ref C) "at" = some none) (gD : mg "DropError" = some (.ref D)) (cr : ClX.CRead K D (.type "type")) (vV : PySem.W.findCls K (.ref D) (.type "type") "__init__" = some (.val (.builtin "ValueError.__init__"))) : FnOk P w K mg base CX0 1 f fd ["self", "word", "at"] (spInit C ["word", "at"]) ∧ L2H.FnH P w K mg base CX0 1 f fd ["self", "word", "at"] (spInit C ["word", "at"]) :=
  ok_init2 (k := 0) F sc_NoJoin oc n1 n2 (fun a v v2 H Q h => h _) (fun cdv A outer s H E c pn => pss_cons (ps_expr (pe_baseinit rfl gD cr vV (pa_cons (pe_var (i := 0) rfl (Or.inl rfl)) (pa_cons pe_str pa_nil)))) (pss_cons (ps_ost (pe_var (i := 0) rfl (Or.inl rfl)) (pe_var (i := 1) rfl (Or.inl rfl))) (pss_one (ps_ost (pe_var (i := 0) rfl (Or.inl rfl)) (pe_var (i := 2) rfl (Or.inl rfl))))))
abbrev s_NoLines : Stmt := inCls (top 6) 0
theorem sc_NoLines : FnScope ["self", "line"] ["self", "line"] (defScope s_NoLines) := ⟨rfl, rfl, rfl, by decide +kernel, rfl, by decide +kernel, by decide +kernel⟩
theorem x_NoLines {P : Program} {w : World} {K : PySem.W.Frag} {mg : Str → Option Value} {base : Heap} {f C D : Addr} {fd : FuncData} (F : L2.Fun K "__init__" "NoLines.__init__" s_NoLines f fd) (oc : OexC K C) (n1 : PySem.W.findIn K (.ref C) "line" = some none) (gD : mg "DropError" = some (.ref D)) (cr : ClX.CRead K D (.type "type")) (vV : PySem.W.findCls K (.ref D) (.type "type") "__init__" = some (.val (.builtin "ValueError.__init__"))) : FnOk P w K mg base CX0 1 f fd ["self", "line"] (spInit C ["line"]) ∧ L2H.FnH P w K mg base CX0 1 f fd ["self", "line"] (spInit C ["line"]) :=
  ok_init1 (k := 0) F sc_NoLines oc n1 (fun a v H Q h => h _) (fun cdv A outer s H E c pn => pss_cons (ps_expr (pe_baseinit rfl gD cr vV (pa_cons (pe_var (i := 0) rfl (Or.inl rfl)) (pa_cons pe_str pa_nil)))) (pss_one (ps_ost (pe_var (i := 0) rfl (Or.inl rfl)) (pe_var (i := 1) rfl (Or.inl rfl)))))
abbrev s_NoPaper : Stmt := inCls (top 5) 0
theorem sc_NoPaper : FnScope ["self", "word", "at"] ["self", "word", "at"] (defScope s_NoPaper) := ⟨rfl, rfl, rfl, by decide +kernel, rfl, by decide +kernel, by decide +kernel⟩
theorem x_NoPaper {P : Program} {w : World} {K : PySem.W.Frag} {mg : Str → Option Value} {base : Heap} {f C D : Addr} {fd : FuncData} (F : L2.Fun K "__init__" "NoPaper.__init__" s_NoPaper f fd) (oc : OexC K C) (n1 : PySem.W.findIn K (.ref C) "word" = some none) (n2 : PySem.W.findIn K (.ref C) "at" = some none) (gD : mg "DropError" = some (.ref D)) (cr : ClX.CRead K D (.type "type")) (vV : PySem.W.findCls K (.ref D) (.type "type") "__init__" = some (.val (.builtin "ValueError.__init__"))) : FnOk P w K mg base CX0 1 f fd ["self", "word", "at"] (spInit C ["word", "at"]) ∧ L2H.FnH P w K mg base CX0 1 f fd ["self", "word", "at"] (spInit C ["word", "at"]) :=
  ok_init2 (k := 0) F sc_NoPaper oc n1 n2 (fun a v v2 H Q h => h _) (fun cdv A outer s H E c pn => pss_cons (ps_expr (pe_baseinit rfl gD cr vV (pa_cons (pe_var (i := 0) rfl (Or.inl rfl)) (pa_cons pe_str pa_nil)))) (pss_cons (ps_ost (pe_var (i := 0) rfl (Or.inl rfl)) (pe_var (i := 1) rfl (Or.inl rfl))) (pss_one (ps_ost (pe_var (i := 0) rfl (Or.inl rfl)) (pe_var (i := 2) rfl (Or.inl rfl))))))
abbrev s_NoPot : Stmt := inCls (top 2) 0
theorem sc_NoPot : FnScope ["self", "line", "word"] ["self", "line", "word"] (defScope s_NoPot) := ⟨rfl, rfl, rfl, by decide +kernel, rfl, by decide +kernel, by decide +kernel⟩
theorem x_NoPot {P : Program} {w : World} {K : PySem.W.Frag} {mg : Str → Option Value} {base : Heap} {f C D : Addr} {fd : FuncData} (F : L2.Fun K "__init__" "NoPot.__init__" s_NoPot f fd) (oc : OexC K C) (n1 : PySem.W.findIn K (.ref C) "line" = some none) (n2 : PySem.W.findIn K (.ref C) "word" = some none) (gD : mg "DropError" = some (.ref D)) (cr : ClX.CRead K D (.type "type")) (vV : PySem.W.findCls K (.ref D) (.type "type") "__init__" = some (.val (.builtin "ValueError.__init__"))) : FnOk P w K mg base CX0 1 f fd ["self", "line", "word"] (spInit C ["line", "word"]) ∧ L2H.FnH P w K mg base CX0 1 f fd ["self", "line", "word"] (spInit C ["line", "word"]) :=
  ok_init2 (k := 0) F sc_NoPot oc n1 n2 (fun a v v2 H Q h => h _) (fun cdv A outer s H E c pn => pss_cons (ps_expr (pe_baseinit rfl gD cr vV (pa_cons (pe_var (i := 0) rfl (Or.inl rfl)) (pa_cons pe_str pa_nil)))) (pss_cons (ps_ost (pe_var (i := 0) rfl (Or.inl rfl)) (pe_var (i := 1) rfl (Or.inl rfl))) (pss_one (ps_ost (pe_var (i := 0) rfl (Or.inl rfl)) (pe_var (i := 2) rfl (Or.inl rfl))))))
abbrev s_NoRow : Stmt := inCls (top 9) 0
theorem sc_NoRow : FnScope ["self", "text"] ["self", "text"] (defScope s_NoRow) := ⟨rfl, rfl, rfl, by decide +kernel, rfl, by decide +kernel, by decide +kernel⟩
theorem x_NoRow {P : Program} {w : World} {K : PySem.W.Frag} {mg : Str → Option Value} {base : Heap} {f C D : Addr} {fd : FuncData} (F : L2.Fun K "__init__" "NoRow.__init__" s_NoRow f fd) (oc : OexC K C) (n1 : PySem.W.findIn K (.ref C) "text" = some none) (gD : mg "DropError" = some (.ref D)) (cr : ClX.CRead K D (.type "type")) (vV : PySem.W.findCls K (.ref D) (.type "type") "__init__" = some (.val (.builtin "ValueError.__init__"))) : FnOk P w K mg base CX0 1 f fd ["self", "text"] (spInit C ["text"]) ∧ L2H.FnH P w K mg base CX0 1 f fd ["self", "text"] (spInit C ["text"]) :=
  ok_init1 (k := 0) F sc_NoRow oc n1 (fun a v H Q h => ⟨_, rfl, h _⟩) (fun cdv A outer s H E c pn => pss_cons (ps_expr (pe_baseinit rfl gD cr vV (pa_cons (pe_var (i := 0) rfl (Or.inl rfl)) (pa_cons (pe_var (i := 1) rfl (Or.inl rfl)) pa_nil)))) (pss_one (ps_ost (pe_var (i := 0) rfl (Or.inl rfl)) (pe_var (i := 1) rfl (Or.inl rfl)))))
abbrev s_NoStep : Stmt := inCls (top 3) 0
theorem sc_NoStep : FnScope ["self", "place"] ["self", "place"] (defScope s_NoStep) := ⟨rfl, rfl, rfl, by decide +kernel, rfl, by decide +kernel, by decide +kernel⟩
theorem x_NoStep {P : Program} {w : World} {K : PySem.W.Frag} {mg : Str → Option Value} {base : Heap} {f C D : Addr} {fd : FuncData} (F : L2.Fun K "__init__" "NoStep.__init__" s_NoStep f fd) (oc : OexC K C) (n1 : PySem.W.findIn K (.ref C) "place" = some none) (gD : mg "DropError" = some (.ref D)) (cr : ClX.CRead K D (.type "type")) (vV : PySem.W.findCls K (.ref D) (.type "type") "__init__" = some (.val (.builtin "ValueError.__init__"))) : FnOk P w K mg base CX0 1 f fd ["self", "place"] (spInit C ["place"]) ∧ L2H.FnH P w K mg base CX0 1 f fd ["self", "place"] (spInit C ["place"]) :=
  ok_init1 (k := 0) F sc_NoStep oc n1 (fun a v H Q h => h _) (fun cdv A outer s H E c pn => pss_cons (ps_expr (pe_baseinit rfl gD cr vV (pa_cons (pe_var (i := 0) rfl (Or.inl rfl)) (pa_cons pe_str pa_nil)))) (pss_one (ps_ost (pe_var (i := 0) rfl (Or.inl rfl)) (pe_var (i := 1) rfl (Or.inl rfl)))))

abbrev s_law_feed : Stmt := top 11
theorem sc_law_feed : FnScope ["_law_script", "_law_k", "_law_cell", "_law_left"] ["_law_script", "_law_k"] (defScope s_law_feed) := ⟨rfl, rfl, rfl, by decide +kernel, rfl, by decide +kernel, by decide +kernel⟩
/- law_feed : 0 _law_script, 1 _law_k, 2 _law_cell, 3 _law_left -/
theorem st_law_feed (x0 x1 : DV) : start0 4 [x0, x1] = [some x0, some x1, none, none] := rfl
def w_law_feed : DS := (wSeq (wSet 2 (wOp dAdd (wOp dMul (wC (.int 7919)) (wVar 1)) (wC (.int 5))))
  (wSeq (wIfS (wTst (wOp dGt (wCB dLen (wCons (wVar 0) wNil)) (wC (.int 0))))
  (wSet 2 (wOp dAdd (wOp dIx (wVar 0) (wOp dMod (wVar 1) (wCB dLen (wCons (wVar 0) wNil)))) (wOp dMul (wC (.int 104729)) (wOp dFdiv (wVar 1) (wCB dLen (wCons (wVar 0) wNil))))))
  wNext)
  (wSeq (wSet 3 (wIf (wTst (wOp dGe (wVar 2) (wOp dPow (wC (.int 10)) (wC (.int 18))))) (wVar 2) (wC (.int 0))))
  (wRet (wLst (wCons (wVar 3) (wCons (wOp dAdd (wOp dAdd (wOp dMod (wVar 2) (wC (.int 2147483629))) (wOp dMul (wC (.int 31)) (wVar 1))) (wC (.int 1))) (wCons (wC (.int 0)) wNil))))))))

def d_law_feed : DF := fun ds G Q _ => ∃ (ns : List Int) (k : Int), ds = [.ro (ns.map .int), .int k] ∧ ns.length ≤ 63 ∧ 0 ≤ k ∧ k ≤ 1000000 ∧ ∀ t G', G t = none → Sub G G' → FeedA G' t 0 → Q (.ref t) G'
theorem len_law_feed : ∀ ds G Q Y, d_law_feed ds G Q Y → ds.length = 2 := by
  rintro ds G Q Y ⟨ns, k, rfl, _⟩; rfl
theorem ok_law_feed : ∀ ds G Q Y, d_law_feed ds G Q Y → w_law_feed (bodyEnds Q Y) (start0 4 ds) G := by
  rintro ds G Q Y ⟨ns, k, rfl, hn, k0, k1, q⟩
  rw [st_law_feed]
  unfold w_law_feed
  walk_at "dl"
  refine s_mul (MulOk.of (a := 20) (b := 30) (by decide) (by omega) (by decide) (by decide) (by decide)) ?_
  walk_at "dl"
  refine s_join (fun e g => g = G ∧ ∃ cell : Int, e = [some (.ro (ns.map .int)), some (.int k), some (.int cell), none]) (fun K hK => ?_) ?_
  · walk_at "if"
    rw [List.length_map]
    refine s_ite (fun h => ?_) (fun h => ?_)
    · walk_at "dl"
      rw [List.length_map]
      refine s_mod (by omega) ?_
      obtain ⟨x, hx, _⟩ := atI_ints (l := ns) (j := k % (ns.length : Int)) (Int.emod_nonneg k (by omega)) (by rw [List.length_map]; exact Int.emod_lt_of_pos k (by omega))
      refine s_ixR hx ?_
      walk_at "dl"
      rw [List.length_map]
      refine s_fdiv (by omega) (log_small (by omega) (by omega)) ?_
      have hd0 : 0 ≤ k / (ns.length : Int) := Int.ediv_nonneg k0 (by omega)
      have hd1 : k / (ns.length : Int) ≤ k := Int.ediv_le_self _ k0
      refine s_mul (MulOk.of (a := 20) (b := 30) (by decide) (by omega) (by decide) (by decide) (by decide)) ?_
      walk_at "dl"
      exact hK _ _ ⟨rfl, _, rfl⟩
    · walk_at "dl"
      exact hK _ _ ⟨rfl, _, rfl⟩
  · rintro e g ⟨rfl, cell, rfl⟩
    have fin : ∀ l : Int, 0 ≤ l → _ := fun l hl => (True.intro : True)
    walk_at "dl"
    refine s_ite (fun h => ?_) (fun h => ?_)
    · have hc : 0 ≤ cell := Int.le_trans (by decide) h
      walk_at "dl"
      refine s_mul (MulOk.of (a := 20) (b := 30) (by decide) (by omega) (by decide) (by decide) (by decide)) ?_
      walk_at "dl"
      intro t G1 ht s1 e1
      walk_at "dl"
      exact q t G1 ht s1 ⟨_, _, _, e1, hc, by decide, by decide⟩
    · walk_at "dl"
      refine s_mul (MulOk.of (a := 20) (b := 30) (by decide) (by omega) (by decide) (by decide) (by decide)) ?_
      walk_at "dl"
      intro t G1 ht s1 e1
      walk_at "dl"
      exact q t G1 ht s1 ⟨_, _, _, e1, by decide, by decide, by decide⟩
abbrev s_law_draw : Stmt := top 12
theorem sc_law_draw : FnScope ["_law_feed_here", "_law_many", "_law_found", "_law_mixed"] ["_law_feed_here", "_law_many"] (defScope s_law_draw) := ⟨rfl, rfl, rfl, by decide +kernel, rfl, by decide +kernel, by decide +kernel⟩
/- law_draw : 0 _law_feed_here, 1 _law_many, 2 _law_found, 3 _law_mixed -/
theorem st_law_draw (x0 x1 : DV) : start0 4 [x0, x1] = [some x0, some x1, none, none] := rfl
def w_law_draw : DS := (wSeq (wAsg (wOp dAdd (wOp dIx (wVar 0) (wC (.int 2))) (wC (.int 1))) (wgSub (wVar 0) (wC (.int 2)) dSet))
  (wSeq (wIfS (wTst (wOp dGt (wOp dIx (wVar 0) (wC (.int 0))) (wC (.int 0))))
  (wSeq (wSet 2 (wOp dMod (wOp dIx (wVar 0) (wC (.int 0))) (wVar 1)))
  (wSeq (wAsg (wOp dFdiv (wOp dIx (wVar 0) (wC (.int 0))) (wVar 1)) (wgSub (wVar 0) (wC (.int 0)) dSet))
  (wRet (wVar 2))))
  wNext)
  (wSeq (wSet 3 (wOp dMod (wOp dMul (wOp dMod (wOp dAdd (wOp dIx (wVar 0) (wC (.int 1))) (wOp dMul (wC (.int 40692)) (wOp dIx (wVar 0) (wC (.int 2))))) (wC (.int 2147483399))) (wC (.int 48271))) (wC (.int 2147483647))))
  (wSeq (wSet 3 (wOp dMod (wOp dMul (wVar 3) (wOp dAdd (wVar 3) (wC (.int 7919)))) (wC (.int 2147483587))))
  (wRet (wOp dMod (wOp dFdiv (wOp dMod (wOp dMul (wVar 3) (wC (.int 69621))) (wC (.int 2147483629))) (wC (.int 7))) (wVar 1)))))))

def d_law_draw : DF := fun ds G Q _ => ∃ (t : Addr) (m : Int) (n : Nat), ds = [.ref t, .int m] ∧ FeedA G t n ∧ n ≤ 1000000000000 ∧ 0 < m ∧ m ≤ 1000000000000 ∧ ∀ r G', 0 ≤ r → r < m → FeedA G' t (n + 1) → Old t G G' → Q (.int r) G'
theorem len_law_draw : ∀ ds G Q Y, d_law_draw ds G Q Y → ds.length = 2 := by
  rintro ds G Q Y ⟨t, m, n, rfl, _⟩; rfl
theorem ok_law_draw : ∀ ds G Q Y, d_law_draw ds G Q Y → w_law_draw (bodyEnds Q Y) (start0 4 ds) G := by
  rintro ds G Q Y ⟨t, m, n, rfl, tp, hn, hm, hm1, q⟩
  have hm2 := log_small hm hm1
  obtain ⟨l, s, u, ht, l0, u0, u1⟩ := tp.ex
  rw [st_law_draw]
  unfold w_law_draw
  walk_at "dl"
  intro G1 o1 e1
  have back : ∀ (l' r : Int) (G2 : Gh), G2 t = some (.lst [.int l', .int s, .int (u + 1)]) → Old t G1 G2 → 0 ≤ l' → 0 ≤ r → r < m → Q (.int r) G2 := fun l' r G2 h2 o2 hl r0 r1 =>
    q r G2 r0 r1 ⟨l', s, u + 1, h2, hl, by omega, by omega⟩ (o1.trans o2)
  have rng : ∀ x : Int, 0 ≤ x % m ∧ x % m < m := fun x => ⟨Int.emod_nonneg _ (by omega), Int.emod_lt_of_pos _ hm⟩
  walk_at "dl"
  walk_at "if"
  refine s_ite (fun h => ?_) (fun h => ?_)
  · walk_at "dl"
    refine s_mod hm ?_
    walk_at "dl"
    refine s_fdiv hm hm2 ?_
    walk_at "dl"
    intro G2 o2 e2
    walk_at "dl"
    exact back _ _ _ e2 o2 (Int.ediv_nonneg l0 (by omega)) (rng l).1 (rng l).2
  · walk_at "dl"
    refine s_mul (MulOk.of (a := 20) (b := 41) (by decide) (by omega) (by decide) (by decide) (by decide)) ?_
    walk_at "dl"
    refine s_mul (MulOk.of (a := 60) (b := 20) (by omega) (by decide) (by decide) (by decide) (by decide)) ?_
    walk_at "dl"
    generalize hz : (s + 40692 * (u + 1)) % 2147483399 * 48271 % 2147483647 = z
    have hz0 : 0 ≤ z := by rw [← hz]; exact Int.emod_nonneg _ (by decide)
    have hz1 : z < 2147483647 := by rw [← hz]; exact Int.emod_lt_of_pos _ (by decide)
    refine s_mul (MulOk.of (a := 60) (b := 60) (by omega) (by omega) (by decide) (by decide) (by decide)) ?_
    walk_at "dl"
    generalize hw : z * (z + 7919) % 2147483587 = w
    have hw0 : 0 ≤ w := by rw [← hw]; exact Int.emod_nonneg _ (by decide)
    have hw1 : w < 2147483587 := by rw [← hw]; exact Int.emod_lt_of_pos _ (by decide)
    refine s_mul (MulOk.of (a := 60) (b := 20) (by omega) (by decide) (by decide) (by decide) (by decide)) ?_
    walk_at "dl"
    refine s_fdiv (by decide) (by decide) ?_
    walk_at "dl"
    refine s_mod hm ?_
    walk_at "dl"
    exact back _ _ _ e1 Old.refl l0 (rng _).1 (rng _).2

/-! ### the nine errors -/
def eN : Nat → Str × List Str
  | 0 => ("NoAsk", ["word"])
  | 1 => ("NoLines", ["line"])
  | 2 => ("NoRow", ["text"])
  | 3 => ("NoStep", ["place"])
  | 4 => ("NoFault", ["word", "at"])
  | 5 => ("NoJoin", ["word", "at"])
  | 6 => ("NoPaper", ["word", "at"])
  | 7 => ("NoPot", ["line", "word"])
  | _ => ("DropError", [])
def fxE (n : Nat) (x y : DV) : List (Str × DV) := ((eN n).2.zip [x, y]).reverse
theorem eN_row {n : Nat} (h : n < 9) : eN n ∈ errRows := by
  have : n = 0 ∨ n = 1 ∨ n = 2 ∨ n = 3 ∨ n = 4 ∨ n = 5 ∨ n = 6 ∨ n = 7 ∨ n = 8 := by omega
  rcases this with rfl | rfl | rfl | rfl | rfl | rfl | rfl | rfl | rfl <;> decide +kernel
abbrev s_law_raise_lines : Stmt := top 13
theorem sc_law_raise_lines : FnScope ["_law_number", "_law_some"] ["_law_number", "_law_some"] (defScope s_law_raise_lines) := ⟨rfl, rfl, rfl, by decide +kernel, rfl, by decide +kernel, by decide +kernel⟩
/- law_raise_lines : 0 _law_number, 1 _law_some -/
theorem st_law_raise_lines (x0 x1 : DV) : start0 2 [x0, x1] = [some x0, some x1] := rfl
def w_law_raise_lines : DS := (wSeq (wIfS (wTst (wOp (dEq false) (wVar 0) (wC (.int 0))))
  (wRaise (Cls.adr "NoAsk") ["word"] (wCons (wOp dIx (wVar 1) (wC (.int 0))) wNil))
  wNext)
  (wSeq (wIfS (wTst (wOp (dEq false) (wVar 0) (wC (.int 1))))
  (wRaise (Cls.adr "NoLines") ["line"] (wCons (wOp dIx (wVar 1) (wC (.int 0))) wNil))
  wNext)
  (wSeq (wIfS (wTst (wOp (dEq false) (wVar 0) (wC (.int 2))))
  (wRaise (Cls.adr "NoRow") ["text"] (wCons (wOp dIx (wVar 1) (wC (.int 0))) wNil))
  wNext)
  (wRaise (Cls.adr "NoStep") ["place"] (wCons (wOp dIx (wVar 1) (wC (.int 0))) wNil)))))

def d_law_raise_lines : DF := fun ds G _ Y => ∃ (n : Nat) (b : Addr) (x y : DV), ds = [.int (n : Nat), .ref b] ∧ G b = some (.lst [x, y]) ∧ n < 4 ∧ ∀ G', Sub G G' → Y (Cls.adr (eN n).1) (fxE n x y) G'
theorem len_law_raise_lines : ∀ ds G Q Y, d_law_raise_lines ds G Q Y → ds.length = 2 := by
  rintro ds G Q Y ⟨n, b, x, y, rfl, _⟩; rfl
theorem ok_law_raise_lines : ∀ ds G Q Y, d_law_raise_lines ds G Q Y → w_law_raise_lines (bodyEnds Q Y) (start0 2 ds) G := by
  rintro ds G Q Y ⟨n, b, x, y, rfl, hb, hn, q⟩
  rw [st_law_raise_lines]
  unfold w_law_raise_lines
  have : n = 0 ∨ n = 1 ∨ n = 2 ∨ n = 3 := by omega
  rcases this with rfl | rfl | rfl | rfl
  · walk_at "dl"
    walk_at "if"
    refine s_raise ?_
    walk_at "dl"
    exact ⟨rfl, q _ Sub.refl⟩
  · walk_at "dl"
    walk_at "if"
    walk_at "if"
    refine s_raise ?_
    walk_at "dl"
    exact ⟨rfl, q _ Sub.refl⟩
  · walk_at "dl"
    walk_at "if"
    walk_at "if"
    walk_at "if"
    refine s_raise ?_
    walk_at "dl"
    exact ⟨rfl, q _ Sub.refl⟩
  · walk_at "dl"
    walk_at "if"
    walk_at "if"
    walk_at "if"
    refine s_raise ?_
    walk_at "dl"
    exact ⟨rfl, q _ Sub.refl⟩
abbrev s_law_raise : Stmt := top 14
theorem sc_law_raise : FnScope ["_law_number", "_law_some"] ["_law_number", "_law_some"] (defScope s_law_raise) := ⟨rfl, rfl, rfl, by decide +kernel, rfl, by decide +kernel, by decide +kernel⟩
/- law_raise : 0 _law_number, 1 _law_some -/
theorem st_law_raise (x0 x1 : DV) : start0 2 [x0, x1] = [some x0, some x1] := rfl
def w_law_raise : DS := (wSeq (wIfS (wTst (wOp dLt (wVar 0) (wC (.int 4))))
  (wExpr (wCall d_law_raise_lines (wCons (wVar 0) (wCons (wVar 1) wNil))))
  wNext)
  (wSeq (wIfS (wTst (wOp (dEq false) (wVar 0) (wC (.int 4))))
  (wRaise (Cls.adr "NoFault") ["word", "at"] (wCons (wOp dIx (wVar 1) (wC (.int 0))) (wCons (wOp dIx (wVar 1) (wC (.int 1))) wNil)))
  wNext)
  (wSeq (wIfS (wTst (wOp (dEq false) (wVar 0) (wC (.int 5))))
  (wRaise (Cls.adr "NoJoin") ["word", "at"] (wCons (wOp dIx (wVar 1) (wC (.int 0))) (wCons (wOp dIx (wVar 1) (wC (.int 1))) wNil)))
  wNext)
  (wSeq (wIfS (wTst (wOp (dEq false) (wVar 0) (wC (.int 6))))
  (wRaise (Cls.adr "NoPaper") ["word", "at"] (wCons (wOp dIx (wVar 1) (wC (.int 0))) (wCons (wOp dIx (wVar 1) (wC (.int 1))) wNil)))
  wNext)
  (wSeq (wIfS (wTst (wOp (dEq false) (wVar 0) (wC (.int 7))))
  (wRaise (Cls.adr "NoPot") ["line", "word"] (wCons (wOp dIx (wVar 1) (wC (.int 0))) (wCons (wOp dIx (wVar 1) (wC (.int 1))) wNil)))
  wNext)
  (wRaise0 (Cls.adr "DropError")))))))

def d_law_raise : DF := fun ds G _ Y => ∃ (n : Nat) (b : Addr) (x y : DV), ds = [.int (n : Nat), .ref b] ∧ G b = some (.lst [x, y]) ∧ n < 9 ∧ ∀ G', Sub G G' → Y (Cls.adr (eN n).1) (fxE n x y) G'
theorem len_law_raise : ∀ ds G Q Y, d_law_raise ds G Q Y → ds.length = 2 := by
  rintro ds G Q Y ⟨n, b, x, y, rfl, _⟩; rfl
theorem ok_law_raise : ∀ ds G Q Y, d_law_raise ds G Q Y → w_law_raise (bodyEnds Q Y) (start0 2 ds) G := by
  rintro ds G Q Y ⟨n, b, x, y, rfl, hb, hn, q⟩
  rw [st_law_raise]
  unfold w_law_raise
  by_cases h4 : n < 4
  · walk_at "dl"
    refine s_ite (fun _ => ?_) (fun h => absurd h (by omega))
    walk_at "dl"
    exact ⟨n, b, x, y, rfl, hb, h4, fun G' s => q _ s⟩
  · have : n = 4 ∨ n = 5 ∨ n = 6 ∨ n = 7 ∨ n = 8 := by omega
    rcases this with rfl | rfl | rfl | rfl | rfl
    · walk_at "dl"
      walk_at "if"
      walk_at "if"
      refine s_raise ?_
      walk_at "dl"
      exact ⟨rfl, q _ Sub.refl⟩
    · walk_at "dl"
      walk_at "if"
      walk_at "if"
      walk_at "if"
      refine s_raise ?_
      walk_at "dl"
      exact ⟨rfl, q _ Sub.refl⟩
    · walk_at "dl"
      walk_at "if"
      walk_at "if"
      walk_at "if"
      walk_at "if"
      refine s_raise ?_
      walk_at "dl"
      exact ⟨rfl, q _ Sub.refl⟩
    · walk_at "dl"
      walk_at "if"
      walk_at "if"
      walk_at "if"
      walk_at "if"
      walk_at "if"
      refine s_raise ?_
      walk_at "dl"
      exact ⟨rfl, q _ Sub.refl⟩
    · walk_at "dl"
      walk_at "if"
      walk_at "if"
      walk_at "if"
      walk_at "if"
      walk_at "if"
      refine s_raise0 ?_
      exact q _ Sub.refl
abbrev s_law_fields : Stmt := top 15
theorem sc_law_fields : FnScope ["_law_e", "_law_number"] ["_law_e", "_law_number"] (defScope s_law_fields) := ⟨rfl, rfl, rfl, by decide +kernel, rfl, by decide +kernel, by decide +kernel⟩
/- law_fields : 0 _law_e, 1 _law_number -/
theorem st_law_fields (x0 x1 : DV) : start0 2 [x0, x1] = [some x0, some x1] := rfl
def w_law_fields : DS := (wSeq (wIfS (wTst (wOp (dEq false) (wVar 1) (wC (.int 0))))
  (wRet (wLst (wCons (wXf (tabE errRows "word") "word" (wVar 0)) wNil)))
  wNext)
  (wSeq (wIfS (wTst (wOp (dEq false) (wVar 1) (wC (.int 1))))
  (wRet (wLst (wCons (wXf (tabE errRows "line") "line" (wVar 0)) wNil)))
  wNext)
  (wSeq (wIfS (wTst (wOp (dEq false) (wVar 1) (wC (.int 2))))
  (wRet (wLst (wCons (wXf (tabE errRows "text") "text" (wVar 0)) wNil)))
  wNext)
  (wSeq (wIfS (wTst (wOp (dEq false) (wVar 1) (wC (.int 3))))
  (wRet (wLst (wCons (wXf (tabE errRows "place") "place" (wVar 0)) wNil)))
  wNext)
  (wRet (wIf (wTst (wOp (dEq false) (wVar 1) (wC (.int 7)))) (wLst (wCons (wXf (tabE errRows "line") "line" (wVar 0)) (wCons (wXf (tabE errRows "word") "word" (wVar 0)) wNil))) (wLst (wCons (wXf (tabE errRows "word") "word" (wVar 0)) (wCons (wXf (tabE errRows "at") "at" (wVar 0)) wNil)))))))))

def d_law_fields : DF := fun ds G Q _ => ∃ (n : Nat) (ea ed : Addr) (x y : DV), ds = [.exc ea ed (Cls.adr (eN n).1) ((fxE n x y).map Prod.fst) ((fxE n x y).map Prod.snd), .int (n : Nat)] ∧ n < 8 ∧ ∀ t G', G t = none → Sub G G' → G' t = some (.lst (if n < 4 then [x] else [x, y])) → Q (.ref t) G'
theorem len_law_fields : ∀ ds G Q Y, d_law_fields ds G Q Y → ds.length = 2 := by
  rintro ds G Q Y ⟨n, ea, ed, x, y, rfl, _⟩; rfl
theorem ok_law_fields : ∀ ds G Q Y, d_law_fields ds G Q Y → w_law_fields (bodyEnds Q Y) (start0 2 ds) G := by
  rintro ds G Q Y ⟨n, ea, ed, x, y, rfl, hn, q⟩
  rw [st_law_fields]
  unfold w_law_fields
  have e1 : (("word" : Str) == ("at" : Str)) = false := by decide +kernel
  have e2 : (("line" : Str) == ("word" : Str)) = false := by decide +kernel
  have : n = 0 ∨ n = 1 ∨ n = 2 ∨ n = 3 ∨ n = 4 ∨ n = 5 ∨ n = 6 ∨ n = 7 := by omega
  rcases this with rfl | rfl | rfl | rfl | rfl | rfl | rfl | rfl
  · walk_at "dl"
    walk_at "if"
    walk_at "dl"
    refine s_xf ?_
    walk_at "dl"
    refine s_xfK (v := x) r_NoAsk (by decide +kernel) (by simp [fxE, eN, List.lookup, e1, e2]) ?_
    walk_at "dl"
    intro t G1 h1 s1 g1
    walk_at "dl"
    exact q _ _ h1 s1 g1
  · walk_at "dl"
    walk_at "if"
    walk_at "if"
    walk_at "dl"
    refine s_xf ?_
    walk_at "dl"
    refine s_xfK (v := x) r_NoLines (by decide +kernel) (by simp [fxE, eN, List.lookup, e1, e2]) ?_
    walk_at "dl"
    intro t G1 h1 s1 g1
    walk_at "dl"
    exact q _ _ h1 s1 g1
  · walk_at "dl"
    walk_at "if"
    walk_at "if"
    walk_at "if"
    walk_at "dl"
    refine s_xf ?_
    walk_at "dl"
    refine s_xfK (v := x) r_NoRow (by decide +kernel) (by simp [fxE, eN, List.lookup, e1, e2]) ?_
    walk_at "dl"
    intro t G1 h1 s1 g1
    walk_at "dl"
    exact q _ _ h1 s1 g1
  · walk_at "dl"
    walk_at "if"
    walk_at "if"
    walk_at "if"
    walk_at "if"
    walk_at "dl"
    refine s_xf ?_
    walk_at "dl"
    refine s_xfK (v := x) r_NoStep (by decide +kernel) (by simp [fxE, eN, List.lookup, e1, e2]) ?_
    walk_at "dl"
    intro t G1 h1 s1 g1
    walk_at "dl"
    exact q _ _ h1 s1 g1
  · walk_at "dl"
    walk_at "if"
    walk_at "if"
    walk_at "if"
    walk_at "if"
    walk_at "dl"
    walk_at "dl"
    refine s_xf ?_
    walk_at "dl"
    refine s_xfK (v := x) r_NoFault (by decide +kernel) (by simp [fxE, eN, List.lookup, e1, e2]) ?_
    walk_at "dl"
    refine s_xf ?_
    walk_at "dl"
    refine s_xfK (v := y) r_NoFault (by decide +kernel) (by simp [fxE, eN, List.lookup, e1, e2]) ?_
    walk_at "dl"
    intro t G1 h1 s1 g1
    walk_at "dl"
    exact q _ _ h1 s1 g1
  · walk_at "dl"
    walk_at "if"
    walk_at "if"
    walk_at "if"
    walk_at "if"
    walk_at "dl"
    walk_at "dl"
    refine s_xf ?_
    walk_at "dl"
    refine s_xfK (v := x) r_NoJoin (by decide +kernel) (by simp [fxE, eN, List.lookup, e1, e2]) ?_
    walk_at "dl"
    refine s_xf ?_
    walk_at "dl"
    refine s_xfK (v := y) r_NoJoin (by decide +kernel) (by simp [fxE, eN, List.lookup, e1, e2]) ?_
    walk_at "dl"
    intro t G1 h1 s1 g1
    walk_at "dl"
    exact q _ _ h1 s1 g1
  · walk_at "dl"
    walk_at "if"
    walk_at "if"
    walk_at "if"
    walk_at "if"
    walk_at "dl"
    walk_at "dl"
    refine s_xf ?_
    walk_at "dl"
    refine s_xfK (v := x) r_NoPaper (by decide +kernel) (by simp [fxE, eN, List.lookup, e1, e2]) ?_
    walk_at "dl"
    refine s_xf ?_
    walk_at "dl"
    refine s_xfK (v := y) r_NoPaper (by decide +kernel) (by simp [fxE, eN, List.lookup, e1, e2]) ?_
    walk_at "dl"
    intro t G1 h1 s1 g1
    walk_at "dl"
    exact q _ _ h1 s1 g1
  · walk_at "dl"
    walk_at "if"
    walk_at "if"
    walk_at "if"
    walk_at "if"
    walk_at "dl"
    walk_at "dl"
    refine s_xf ?_
    walk_at "dl"
    refine s_xfK (v := x) r_NoPot (by decide +kernel) (by simp [fxE, eN, List.lookup, e1, e2]) ?_
    walk_at "dl"
    refine s_xf ?_
    walk_at "dl"
    refine s_xfK (v := y) r_NoPot (by decide +kernel) (by simp [fxE, eN, List.lookup, e1, e2]) ?_
    walk_at "dl"
    intro t G1 h1 s1 g1
    walk_at "dl"
    exact q _ _ h1 s1 g1
abbrev s_law_kinds : Stmt := top 16
theorem sc_law_kinds : FnScope ["_law_e", "_law_found"] ["_law_e"] (defScope s_law_kinds) := ⟨rfl, rfl, rfl, by decide +kernel, rfl, by decide +kernel, by decide +kernel⟩
/- law_kinds : 0 _law_e, 1 _law_found -/
theorem st_law_kinds (x0 : DV) : start0 2 [x0] = [some x0, none] := rfl
def w_law_kinds : DS := (wSeq (wSet 1 (wLst (wCons (wCB (dIsE (tabI errRows errT)) (wCons (wVar 0) (wCons (wC (.ref (Cls.adr "NoAsk"))) wNil))) (wCons (wCB (dIsE (tabI errRows errT)) (wCons (wVar 0) (wCons (wC (.ref (Cls.adr "NoLines"))) wNil))) (wCons (wCB (dIsE (tabI errRows errT)) (wCons (wVar 0) (wCons (wC (.ref (Cls.adr "NoRow"))) wNil))) (wCons (wCB (dIsE (tabI errRows errT)) (wCons (wVar 0) (wCons (wC (.ref (Cls.adr "NoStep"))) wNil))) wNil))))))
  (wRet (wOp dAdd (wVar 1) (wLst (wCons (wCB (dIsE (tabI errRows errT)) (wCons (wVar 0) (wCons (wC (.ref (Cls.adr "NoFault"))) wNil))) (wCons (wCB (dIsE (tabI errRows errT)) (wCons (wVar 0) (wCons (wC (.ref (Cls.adr "NoJoin"))) wNil))) (wCons (wCB (dIsE (tabI errRows errT)) (wCons (wVar 0) (wCons (wC (.ref (Cls.adr "NoPaper"))) wNil))) (wCons (wCB (dIsE (tabI errRows errT)) (wCons (wVar 0) (wCons (wC (.ref (Cls.adr "NoPot"))) wNil))) wNil))))))))

def d_law_kinds : DF := fun ds G Q _ => ∃ (n : Nat) (ea ed : Addr) (ks : List Str) (vs : List DV), ds = [.exc ea ed (Cls.adr (eN n).1) ks vs] ∧ n < 9 ∧ ∀ t G', G t = none → Sub G G' → G' t = some (.lst ((List.range 8).map fun i : Nat => .bl (decide ((i : Int) = (n : Nat))))) → Q (.ref t) G'
theorem len_law_kinds : ∀ ds G Q Y, d_law_kinds ds G Q Y → ds.length = 1 := by
  rintro ds G Q Y ⟨n, ea, ed, ks, vs, rfl, _⟩; rfl
theorem ok_law_kinds : ∀ ds G Q Y, d_law_kinds ds G Q Y → w_law_kinds (bodyEnds Q Y) (start0 2 ds) G := by
  rintro ds G Q Y ⟨n, ea, ed, ks, vs, rfl, hn, q⟩
  rw [st_law_kinds]
  unfold w_law_kinds
  have hr : ((eN n).1, (eN n).2) ∈ errRows := eN_row hn
  walk_at "dl"
  refine s_isE1 hr t_NoAsk rfl ?_
  walk_at "dl"
  refine s_isE1 hr t_NoLines rfl ?_
  walk_at "dl"
  refine s_isE1 hr t_NoRow rfl ?_
  walk_at "dl"
  refine s_isE1 hr t_NoStep rfl ?_
  walk_at "dl"
  intro p1 G1 h1 s1 g1
  walk_at "dl"
  refine s_isE1 hr t_NoFault rfl ?_
  walk_at "dl"
  refine s_isE1 hr t_NoJoin rfl ?_
  walk_at "dl"
  refine s_isE1 hr t_NoPaper rfl ?_
  walk_at "dl"
  refine s_isE1 hr t_NoPot rfl ?_
  walk_at "dl"
  intro p2 G2 h2 s2 g2
  walk_at "dl"
  intro t G3 h3 s3 g3
  walk_at "dl"
  refine q t G3 (by
    cases e : G t with
    | none => rfl
    | some c => have := (s2 _ _ (s1 _ _ e)).symm.trans h3; cases this) ((s1.trans s2).trans s3) (g3.trans ?_)
  have : n = 0 ∨ n = 1 ∨ n = 2 ∨ n = 3 ∨ n = 4 ∨ n = 5 ∨ n = 6 ∨ n = 7 ∨ n = 8 := by omega
  rcases this with rfl | rfl | rfl | rfl | rfl | rfl | rfl | rfl | rfl
  all_goals
    refine congrArg some (congrArg Cell.lst ?_)
    have key : ∀ (l m : List Bool), l = m → l.map DV.bl = m.map DV.bl := fun _ _ h => h ▸ rfl
    refine (key [_, _, _, _, _, _, _, _] ((List.range 8).map fun i : Nat => decide ((i : Int) = _)) ?_).trans (List.map_map ..)
    decide +kernel

/-! ### the law -/
theorem sub_drop (x : Str) : subB x "DropError" = true := by
  unfold subB
  rw [show (("DropError" : Str) == "DropError") = true by decide +kernel]
  simp
theorem sub_ve (x : Str) : subB x "ValueError" = true := by
  unfold subB
  rw [show (("ValueError" : Str) == "ValueError") = true by decide +kernel]
  simp
def menuL : List DV := [.int 0, .int 1, .int (10 ^ Int.toNat 39), .str "shape", .str "", .non, .int (-1), .str "a b"]
structure Mn (x : DV) : Prop where
  p : x.pure = true
  f : Fr 5 0 x.pd
theorem mn_menu : ∀ x ∈ menuL, Mn x := by
  intro x hx
  have s : ∀ z : Str, z.cps.size ≤ 5 → z.cps.all (· < 0x110000) = true → Mn (.str z) := fun z h1 h2 => ⟨by simp, by rw [pd_str]; exact Fr.str h1 h2⟩
  have i : ∀ z : Int, z.natAbs < 2 ^ 200 → Mn (.int z) := fun z h => ⟨by simp, by rw [pd_int]; exact (Fr.int (k := 0) h (by decide)).mono (by decide) (by decide)⟩
  simp only [menuL, List.mem_cons, List.not_mem_nil, or_false] at hx
  rcases hx with rfl | rfl | rfl | rfl | rfl | rfl | rfl | rfl
  · exact i _ (by decide +kernel)
  · exact i _ (by decide +kernel)
  · exact i _ (by decide +kernel)
  · exact s _ (by decide +kernel) (by decide +kernel)
  · exact s _ (by decide +kernel) (by decide +kernel)
  · exact ⟨by simp, by rw [pd_non]; exact (Fr.non (k := 0)).mono (by decide) (by decide)⟩
  · exact i _ (by decide +kernel)
  · exact s _ (by decide +kernel) (by decide +kernel)
def kindL (m : Nat) : List DV := (List.range 8).map fun i : Nat => .bl (decide ((i : Int) = (m : Nat)))
def fldL (m : Nat) (x y : DV) : List DV := if m < 4 then [x] else [x, y]
def tellE (m : Nat) (x y : DV) : PyData := if m < 8 then .list [.bool true, .list ((kindL m).map DV.pd), .list ((fldL m x y).map DV.pd)] else .list [.bool true, .list ((kindL m).map DV.pd)]
theorem kind_pure {m : Nat} : (kindL m).all DV.pure = true := by
  unfold kindL
  rw [List.all_map]
  exact List.all_eq_true.mpr fun i _ => by simp
theorem fld_all {m : Nat} {x y : DV} (hx : Mn x) (hy : Mn y) : ∀ d ∈ fldL m x y, Mn d := by
  intro d hd
  unfold fldL at hd
  split at hd
  · rw [List.mem_singleton.mp hd]; exact hx
  · rcases List.mem_cons.mp hd with rfl | hd
    · exact hx
    · rw [List.mem_singleton.mp hd]; exact hy
theorem fld_len {m : Nat} {x y : DV} : (fldL m x y).length ≤ 2 := by unfold fldL; split <;> simp
theorem kind_fr {m : Nat} : Fr 8 1 (.list ((kindL m).map DV.pd)) := by
  refine Fr.lst ((FrL.all (n := 0) (m := 8) (fun d hd => ?_) ?_).mono (by decide) (Nat.le_refl _))
  · obtain ⟨z, hz, rfl⟩ := List.mem_map.mp hd
    obtain ⟨i, _, rfl⟩ := List.mem_map.mp hz
    rw [pd_bl]; exact Fr.bl
  · simp [kindL]
theorem fld_fr {m : Nat} {x y : DV} (hx : Mn x) (hy : Mn y) : Fr 12 1 (.list ((fldL m x y).map DV.pd)) := by
  refine Fr.lst ((FrL.all (n := 5) (m := 2) (fun d hd => ?_) ?_).mono (by decide) (Nat.le_refl _))
  · obtain ⟨z, hz, rfl⟩ := List.mem_map.mp hd
    exact (fld_all hx hy z hz).f
  · rw [List.length_map]; exact fld_len
theorem tell_fair {m : Nat} {x y : DV} (hx : Mn x) (hy : Mn y) : Fair (tellE m x y) := by
  unfold tellE
  split
  · exact (Fr.lst (FrL.cons (Fr.bl (k := 1)) (FrL.cons kind_fr (FrL.cons (fld_fr hx hy) FrL.nil)))).fair
  · exact (Fr.lst (FrL.cons (Fr.bl (k := 1)) (FrL.cons kind_fr FrL.nil))).fair
theorem tell_dr {G : Gh} {m : Nat} {x y : DV} (hx : Mn x) (hy : Mn y) {a p1 p2 : Addr} (h8 : m < 8) (ga : G a = some (.lst [.bl true, .ref p1, .ref p2])) (g1 : G p1 = some (.lst (kindL m))) (g2 : G p2 = some (.lst (fldL m x y))) : DR G (.ref a) (tellE m x y) := by
  unfold tellE
  rw [if_pos h8]
  exact .ref ga (.cons (.bl _) (.cons (.ref g1 (drs_pure kind_pure)) (.cons (.ref g2 (drs_pure (List.all_eq_true.mpr fun d hd => (fld_all hx hy d hd).p))) .nil)))
theorem tell_dr8 {G : Gh} {m : Nat} {x y : DV} {a p1 : Addr} (h8 : ¬ m < 8) (ga : G a = some (.lst [.bl true, .ref p1])) (g1 : G p1 = some (.lst (kindL m))) : DR G (.ref a) (tellE m x y) := by
  unfold tellE
  rw [if_neg h8]
  exact .ref ga (.cons (.bl _) (.cons (.ref g1 (drs_pure kind_pure)) .nil))
theorem menu_at {a : Nat} (h : (a : Int) < 8) : ∃ x, atI menuL (a : Nat) = some x ∧ x ∈ menuL := atI_lt (l := menuL) (Int.natCast_nonneg a) h |>.imp fun x hx => ⟨hx.1, List.mem_of_getElem? hx.2⟩
abbrev s_law : Stmt := top 17
theorem sc_law : FnScope ["_law_script", "_law_k", "_law_feed_here", "_law_menu", "_law_some", "_law_number", "_law_told", "_law_e", "_law_due", "_law_other"] ["_law_script"] (defScope s_law) := ⟨rfl, rfl, rfl, by decide +kernel, rfl, by decide +kernel, by decide +kernel⟩
/- law : 0 _law_script, 1 _law_k, 2 _law_feed_here, 3 _law_menu, 4 _law_some, 5 _law_number, 6 _law_told, 7 _law_e, 8 _law_due, 9 _law_other -/
theorem st_law (x0 : DV) : start0 10 [x0] = [some x0, none, none, none, none, none, none, none, none, none] := rfl
def w_law : DS := (wSeq (wFor (wiRange1 (wCons (wC (.int 10)) wNil)) (wgName 1)
  (wSeq (wSet 2 (wCall d_law_feed (wCons (wVar 0) (wCons (wVar 1) wNil))))
  (wSeq (wSet 3 (wLst (wCons (wC (.int 0)) (wCons (wC (.int 1)) (wCons (wOp dPow (wC (.int 10)) (wC (.int 39))) (wCons (wC (.str "shape")) (wCons (wC (.str "")) (wCons (wC .non) (wCons (wNeg (wC (.int 1))) (wCons (wC (.str "a b")) wNil))))))))))
  (wSeq (wSet 4 (wLst (wCons (wOp dIx (wVar 3) (wCall d_law_draw (wCons (wVar 2) (wCons (wC (.int 8)) wNil)))) (wCons (wOp dIx (wVar 3) (wCall d_law_draw (wCons (wVar 2) (wCons (wC (.int 8)) wNil)))) wNil))))
  (wFor (wiRange1 (wCons (wC (.int 9)) wNil)) (wgName 5)
  (wSeq (wSet 6 (wC .non))
  (wSeq (wTryAs 7 (tabX errRows "DropError")
  (wExpr (wCall d_law_raise (wCons (wVar 5) (wCons (wVar 4) wNil))))
  (wSeq (wSet 6 (wLst (wCons (wCB (dIsE (tabI errRows errT)) (wCons (wVar 7) (wCons (wC (.ty "ValueError")) wNil))) (wCons (wCall d_law_kinds (wCons (wVar 7) wNil)) wNil))))
  (wIfS (wTst (wOp dLt (wVar 5) (wC (.int 8))))
  (wExpr (wBM "list" dAppend (wVar 6) (wCons (wCall d_law_fields (wCons (wVar 7) (wCons (wVar 5) wNil))) wNil)))
  wNext)))
  (wSeq (wSet 8 (wLst (wCons (wC (.bl true)) (wCons (wLc [9] (wiRange1 (wCons (wC (.int 8)) wNil)) (wgName 9) wYes (wOp (dEq false) (wVar 9) (wVar 5))) wNil))))
  (wSeq (wIfS (wTst (wOp dLt (wVar 5) (wC (.int 8))))
  (wExpr (wBM "list" dAppend (wVar 8) (wCons (wIf (wTst (wOp dLt (wVar 5) (wC (.int 4)))) (wSl dSl (wVar 4) wNoPart (wPart (wC (.int 1)))) (wVar 4)) wNil)))
  wNext)
  (wIfS (wTst (wOp (dEq true) (wCB dRepr (wCons (wVar 6) wNil)) (wCB dRepr (wCons (wVar 8) wNil))))
  (wRet (wC (.bl false)))
  wNext))))))))))
  (wRet (wC (.bl true))))

theorem len_lawD : ∀ ds G Q Y, lawD ds G Q Y → ds.length = 1 := by
  rintro ds G Q Y ⟨ns, rfl, _⟩; rfl
theorem ok_law : ∀ ds G Q Y, lawD ds G Q Y → w_law (bodyEnds Q Y) (start0 10 ds) G := by
  rintro ds G Q Y ⟨ns, rfl, hn, rfl, q⟩
  rw [st_law]
  unfold w_law
  refine s_seq (s_for ?_)
  walk_at "dl"
  refine forR (fun i e g => ∃ b1 b2 b3 b4 b5 b6 b7 b8 b9, e = [some (.ro (ns.map .int)), b1, b2, b3, b4, b5, b6, b7, b8, b9]) ⟨_, _, _, _, _, _, _, _, _, rfl⟩ (fun _ _ _ _ => trivial) ?_ ?_
  · rintro i e g K hi ⟨b1, b2, b3, b4, b5, b6, b7, b8, b9, rfl⟩ kk
    have hi : i < 10 := hi
    rw [Int.zero_add]
    walk_at "dl"
    refine ⟨ns, (i : Nat), rfl, hn, by omega, by omega, fun t G2 ht s2 tp2 => ?_⟩
    walk_at "dl"
    intro pm G3 hm s3 em
    have nm : pm ≠ t := tp2.ne1 hm
    have tp3 := tp2.sub s3
    walk_at "dl"
    refine ⟨t, 8, _, rfl, tp3, by decide, by decide, by decide, fun v G4 v0 v1 tp4 o4 => ?_⟩
    obtain ⟨a, rfl⟩ := Int.eq_ofNat_of_zero_le v0
    have em4 : G4 pm = some (.lst menuL) := o4 _ _ nm em
    obtain ⟨x, ax, mx⟩ := menu_at v1
    have hx := mn_menu _ mx
    walk_at "dl"
    refine s_ixL em4 ax ?_
    walk_at "dl"
    refine ⟨t, 8, _, rfl, tp4, by decide, by decide, by decide, fun v G5 v0 v1 tp5 o5 => ?_⟩
    obtain ⟨c, rfl⟩ := Int.eq_ofNat_of_zero_le v0
    obtain ⟨y, ay, my⟩ := menu_at v1
    have hy := mn_menu _ my
    walk_at "dl"
    refine s_ixL (o5 _ _ nm em4) ay ?_
    walk_at "dl"
    intro pb G6 hb6 s6 eb
    walk_at "dl"
    refine forR (fun j e g => g pb = some (.lst [x, y]) ∧ ∃ c1 c2 c3 b5 b6 b7 b8 b9, e = [some (.ro (ns.map .int)), c1, c2, c3, some (.ref pb), b5, b6, b7, b8, b9]) ⟨eb, _, _, _, _, _, _, _, _, rfl⟩ (fun _ _ _ _ => trivial) ?_ ?_
    · rintro m e g K2 hm2 ⟨gb, c1, c2, c3, b5, b6, b7, b8, b9, rfl⟩ k2
      have hm2 : m < 9 := hm2
      rw [Int.zero_add]
      walk_at "dl"
      refine s_seq (s_try ?_)
      walk_at "dl"
      refine ⟨m, pb, x, y, rfl, gb, hm2, fun G7 s7 => ?_⟩
      refine s_caught (fs := (eN m).2) (eN_row hm2) (sub_drop _) fun ea ed => ?_
      walk_at "dl"
      refine s_isE1 (t := "ValueError") (fs := (eN m).2) (eN_row hm2) (by decide +kernel) rfl ?_
      rw [sub_ve]
      walk_at "dl"
      refine ⟨m, ea, ed, _, _, rfl, hm2, fun p1 G8 h8 s8 g8 => ?_⟩
      walk_at "dl"
      intro pt G9 h9 s9 g9
      walk_at "dl"
      refine s_ite (fun h => ?_) (fun h => ?_)
      · have hm3 : m < 8 := by omega
        walk_at "dl"
        refine ⟨m, ea, ed, x, y, rfl, hm3, fun p2 G10 h10 s10 g10 => ?_⟩
        walk_at "dl"
        · rw [sizeLine_eq]; exact Nat.le_of_ble_eq_true rfl
        intro G11 o11 g11
        have n1 : p1 ≠ pt := by rintro rfl; rw [g8] at h9; cases h9
        have n2 : p2 ≠ pt := by rintro rfl; rw [g9] at h10; cases h10
        have e1 : G11 p1 = some (.lst (kindL m)) := o11 _ _ n1 (s10 _ _ (s9 _ _ g8))
        have e2 : G11 p2 = some (.lst (fldL m x y)) := o11 _ _ n2 g10
        have e3 : G11 pb = some (.lst [x, y]) := o11 _ _ (by rintro rfl; rw [s8 _ _ (s7 _ _ gb)] at h9; cases h9) (s10 _ _ (s9 _ _ (s8 _ _ (s7 _ _ gb))))
        walk_at "dl"
        refine lcR_map (fun k => .bl (decide ((k : Int) = (m : Nat)))) (fun _ g' => Sub G11 g') Sub.refl (fun _ _ _ => trivial) (by decide) (fun z g' K K3 hz sz k => ?_) (fun g' sz p3 G12 h12 s12 g12 => ?_)
        · walk_at "dl"
          rw [Int.zero_add]
          exact k _ sz
        · walk_at "dl"
          intro pd G13 h13 s13 g13
          walk_at "dl"
          refine s_ite (fun h => ?_) (fun h2 => absurd h h2)
          walk_at "dl"
          have sub13 : Sub G11 G13 := (sz.trans s12).trans s13
          have np : p3 ≠ pd := by rintro rfl; rw [g12] at h13; cases h13
          have nt : pt ≠ pd := by rintro rfl; rw [s12 _ _ (sz _ _ g11)] at h13; cases h13
          have n1d : p1 ≠ pd := by rintro rfl; rw [s12 _ _ (sz _ _ e1)] at h13; cases h13
          have n2d : p2 ≠ pd := by rintro rfl; rw [s12 _ _ (sz _ _ e2)] at h13; cases h13
          have nbd : pb ≠ pd := by rintro rfl; rw [s12 _ _ (sz _ _ e3)] at h13; cases h13
          by_cases h4 : m < 4
          · rw [if_pos (decide_eq_true (by omega))]
            walk_at "dl"
            intro p4 G14 h14 s14 g14
            have nd : p4 ≠ pd := by rintro rfl; rw [g13] at h14; cases h14
            have g14 : G14 p4 = some (.lst (fldL m x y)) := by rw [g14]; unfold fldL; rw [if_pos h4]; rfl
            walk_at "dl"
            · rw [sizeLine_eq]; exact Nat.le_of_ble_eq_true rfl
            intro G15 o15 g15
            walk_at "dl"
            refine s_repr (tell_dr hx hy hm3 (p1 := p1) (p2 := p2) (o15 _ _ nt (s14 _ _ (sub13 _ _ g11))) (o15 _ _ n1d (s14 _ _ (sub13 _ _ e1))) (o15 _ _ n2d (s14 _ _ (sub13 _ _ e2)))) (tell_fair hx hy) ?_
            walk_at "dl"
            refine s_repr (tell_dr hx hy hm3 (p1 := p3) (p2 := p4) g15 (o15 _ _ np (s14 _ _ (s13 _ _ g12))) (o15 _ _ nd g14)) (tell_fair hx hy) ?_
            walk_at "dl"
            refine s_noN rfl ?_
            walk_at "dl"
            exact k2 _ _ ⟨o15 _ _ nbd (s14 _ _ (sub13 _ _ e3)), _, _, _, _, _, _, _, _, rfl⟩
          · rw [if_neg (fun h => h4 (by have := of_decide_eq_true h; omega))]
            walk_at "dl"
            · rw [sizeLine_eq]; exact Nat.le_of_ble_eq_true rfl
            intro G15 o15 g15
            have e3' : G15 pb = some (.lst (fldL m x y)) := by rw [o15 _ _ nbd (sub13 _ _ e3)]; unfold fldL; rw [if_neg h4]
            walk_at "dl"
            refine s_repr (tell_dr hx hy hm3 (p1 := p1) (p2 := p2) (o15 _ _ nt (sub13 _ _ g11)) (o15 _ _ n1d (sub13 _ _ e1)) (o15 _ _ n2d (sub13 _ _ e2))) (tell_fair hx hy) ?_
            walk_at "dl"
            refine s_repr (tell_dr hx hy hm3 (p1 := p3) (p2 := pb) g15 (o15 _ _ np (s13 _ _ g12)) e3') (tell_fair hx hy) ?_
            walk_at "dl"
            refine s_noN rfl ?_
            walk_at "dl"
            exact k2 _ _ ⟨o15 _ _ nbd (sub13 _ _ e3), _, _, _, _, _, _, _, _, rfl⟩
      · walk_at "dl"
        refine lcR_map (fun k => .bl (decide ((k : Int) = (m : Nat)))) (fun _ g' => Sub G9 g') Sub.refl (fun _ _ _ => trivial) (by decide) (fun z g' K K3 hz sz k => ?_) (fun g' sz p3 G12 h12 s12 g12 => ?_)
        · walk_at "dl"
          rw [Int.zero_add]
          exact k _ sz
        · walk_at "dl"
          intro pd G13 h13 s13 g13
          walk_at "dl"
          refine s_ite (fun h2 => absurd h2 h) (fun h => ?_)
          walk_at "dl"
          have h8m : ¬ m < 8 := by omega
          have sub13 : Sub G9 G13 := (sz.trans s12).trans s13
          refine s_repr (tell_dr8 (x := x) (y := y) h8m (p1 := p1) (sub13 _ _ g9) (sub13 _ _ (s9 _ _ g8))) (tell_fair hx hy) ?_
          walk_at "dl"
          refine s_repr (tell_dr8 (x := x) (y := y) h8m (p1 := p3) g13 (s13 _ _ g12)) (tell_fair hx hy) ?_
          walk_at "dl"
          refine s_noN rfl ?_
          walk_at "dl"
          exact k2 _ _ ⟨sub13 _ _ (s9 _ _ (s8 _ _ (s7 _ _ gb))), _, _, _, _, _, _, _, _, rfl⟩
    · rintro e g ⟨gb, c1, c2, c3, b5, b6, b7, b8, b9, rfl⟩
      exact kk _ _ ⟨_, _, _, _, _, _, _, _, _, rfl⟩
  · rintro e g ⟨b1, b2, b3, b4, b5, b6, b7, b8, b9, rfl⟩
    walk_at "dl"
    exact q _

theorem f_law_feed {P : Program} {w : World} {K : PySem.W.Frag} {mg : Str → Option Value} {base : Heap} (Z : BI mg bins) (D : DefAt K mg "_law_feed" s_law_feed ["_law_script", "_law_k"]) : Has P w K mg base 1 "_law_feed" ["_law_script", "_law_k"] d_law_feed :=
  D.has fun f fd F => fg_of (k := 0) (wb := w_law_feed) F sc_law_feed len_law_feed (fun cdv A outer s H E hgd hr =>
  (qss_cons (qs_set 2 sc_law_feed.nd (q_op o_add (q_op o_mul q_int (q_var 1)) q_int))
  (qss_cons (qs_if (qt_cmp o_gt (q_callB c_len (Z.at "len") (qa_cons (q_var 0) qa_nil)) q_int)
  (qss_one (qs_set 2 sc_law_feed.nd (q_op o_add (q_ix o_ix (q_var 0) (q_op o_mod (q_var 1) (q_callB c_len (Z.at "len") (qa_cons (q_var 0) qa_nil)))) (q_op o_mul q_int (q_op o_fdiv (q_var 1) (q_callB c_len (Z.at "len") (qa_cons (q_var 0) qa_nil)))))))
  qss_nil)
  (qss_cons (qs_set 3 sc_law_feed.nd (q_ifExp (qt_cmp o_ge (q_var 2) (q_op o_pow q_int q_int)) (q_var 2) q_int))
  (qss_one (qs_ret (q_lst (qa_cons (q_var 3) (qa_cons (q_op o_add (q_op o_add (q_op o_mod (q_var 2) q_int) (q_op o_mul q_int (q_var 1))) q_int) (qa_cons q_int qa_nil)))))))))) ok_law_feed

theorem f_law_draw {P : Program} {w : World} {K : PySem.W.Frag} {mg : Str → Option Value} {base : Heap} (Z : BI mg bins) (D : DefAt K mg "_law_draw" s_law_draw ["_law_feed_here", "_law_many"]) : Has P w K mg base 1 "_law_draw" ["_law_feed_here", "_law_many"] d_law_draw :=
  D.has fun f fd F => fg_of (k := 0) (wb := w_law_draw) F sc_law_draw len_law_draw (fun cdv A outer s H E hgd hr =>
  (qss_cons (qs_asg (q_op o_add (q_ix o_ix (q_var 0) q_int) q_int) (qg_sub' (W := W0) (q_var 0) q_int o_set))
  (qss_cons (qs_if (qt_cmp o_gt (q_ix o_ix (q_var 0) q_int) q_int)
  (qss_cons (qs_set 2 sc_law_draw.nd (q_op o_mod (q_ix o_ix (q_var 0) q_int) (q_var 1)))
  (qss_cons (qs_asg (q_op o_fdiv (q_ix o_ix (q_var 0) q_int) (q_var 1)) (qg_sub' (W := W0) (q_var 0) q_int o_set))
  (qss_one (qs_ret (q_var 2)))))
  qss_nil)
  (qss_cons (qs_set 3 sc_law_draw.nd (q_op o_mod (q_op o_mul (q_op o_mod (q_op o_add (q_ix o_ix (q_var 0) q_int) (q_op o_mul q_int (q_ix o_ix (q_var 0) q_int))) q_int) q_int) q_int))
  (qss_cons (qs_set 3 sc_law_draw.nd (q_op o_mod (q_op o_mul (q_var 3) (q_op o_add (q_var 3) q_int)) q_int))
  (qss_one (qs_ret (q_op o_mod (q_op o_fdiv (q_op o_mod (q_op o_mul (q_var 3) q_int) q_int) q_int) (q_var 1))))))))) ok_law_draw

theorem f_law_raise_lines {P : Program} {w : World} {K : PySem.W.Frag} {mg : Str → Option Value} {base : Heap} (Z : BI mg bins) (EF : Errs P w K mg base errRows errT) (D : DefAt K mg "_law_raise_lines" s_law_raise_lines ["_law_number", "_law_some"]) : Has P w K mg base 3 "_law_raise_lines" ["_law_number", "_law_some"] d_law_raise_lines :=
  D.has fun f fd F => fg_of (k := 2) (wb := w_law_raise_lines) F sc_law_raise_lines len_law_raise_lines (fun cdv A outer s H E hgd hr =>
  (qss_cons (qs_if (qt_cmp (o_eq (room_u hr)) (q_var 0) q_int)
  (qss_one (qs_raise (EF.at "NoAsk" ["word"] (by decide +kernel)) rfl hr (takes_of rfl rfl rfl rfl) (qa_cons (q_ix o_ix (q_var 1) q_int) qa_nil)))
  qss_nil)
  (qss_cons (qs_if (qt_cmp (o_eq (room_u hr)) (q_var 0) q_int)
  (qss_one (qs_raise (EF.at "NoLines" ["line"] (by decide +kernel)) rfl hr (takes_of rfl rfl rfl rfl) (qa_cons (q_ix o_ix (q_var 1) q_int) qa_nil)))
  qss_nil)
  (qss_cons (qs_if (qt_cmp (o_eq (room_u hr)) (q_var 0) q_int)
  (qss_one (qs_raise (EF.at "NoRow" ["text"] (by decide +kernel)) rfl hr (takes_of rfl rfl rfl rfl) (qa_cons (q_ix o_ix (q_var 1) q_int) qa_nil)))
  qss_nil)
  (qss_one (qs_raise (EF.at "NoStep" ["place"] (by decide +kernel)) rfl hr (takes_of rfl rfl rfl rfl) (qa_cons (q_ix o_ix (q_var 1) q_int) qa_nil))))))) ok_law_raise_lines

theorem f_law_raise {P : Program} {w : World} {K : PySem.W.Frag} {mg : Str → Option Value} {base : Heap} (Z : BI mg bins) (h_law_raise_lines : Has P w K mg base 3 "_law_raise_lines" ["_law_number", "_law_some"] d_law_raise_lines) (EF : Errs P w K mg base errRows errT) (D : DefAt K mg "_law_raise" s_law_raise ["_law_number", "_law_some"]) : Has P w K mg base 4 "_law_raise" ["_law_number", "_law_some"] d_law_raise :=
  D.has fun f fd F => fg_of (k := 3) (wb := w_law_raise) F sc_law_raise len_law_raise (fun cdv A outer s H E hgd hr =>
  (qss_cons (qs_if (qt_cmp o_lt (q_var 0) q_int)
  (qss_one (qs_expr (q_callH h_law_raise_lines hgd hr (takes_of rfl rfl rfl rfl) (qa_cons (q_var 0) (qa_cons (q_var 1) qa_nil)) (by decide))))
  qss_nil)
  (qss_cons (qs_if (qt_cmp (o_eq (room_u hr)) (q_var 0) q_int)
  (qss_one (qs_raise (EF.at "NoFault" ["word", "at"] (by decide +kernel)) rfl hr (takes_of rfl rfl rfl rfl) (qa_cons (q_ix o_ix (q_var 1) q_int) (qa_cons (q_ix o_ix (q_var 1) q_int) qa_nil))))
  qss_nil)
  (qss_cons (qs_if (qt_cmp (o_eq (room_u hr)) (q_var 0) q_int)
  (qss_one (qs_raise (EF.at "NoJoin" ["word", "at"] (by decide +kernel)) rfl hr (takes_of rfl rfl rfl rfl) (qa_cons (q_ix o_ix (q_var 1) q_int) (qa_cons (q_ix o_ix (q_var 1) q_int) qa_nil))))
  qss_nil)
  (qss_cons (qs_if (qt_cmp (o_eq (room_u hr)) (q_var 0) q_int)
  (qss_one (qs_raise (EF.at "NoPaper" ["word", "at"] (by decide +kernel)) rfl hr (takes_of rfl rfl rfl rfl) (qa_cons (q_ix o_ix (q_var 1) q_int) (qa_cons (q_ix o_ix (q_var 1) q_int) qa_nil))))
  qss_nil)
  (qss_cons (qs_if (qt_cmp (o_eq (room_u hr)) (q_var 0) q_int)
  (qss_one (qs_raise (EF.at "NoPot" ["line", "word"] (by decide +kernel)) rfl hr (takes_of rfl rfl rfl rfl) (qa_cons (q_ix o_ix (q_var 1) q_int) (qa_cons (q_ix o_ix (q_var 1) q_int) qa_nil))))
  qss_nil)
  (qss_one (qs_raise0 (EF.at0 "DropError" (by decide +kernel)) rfl (takes_of rfl rfl rfl rfl))))))))) ok_law_raise

theorem fu_law_fields {P : Program} {w : World} {K : PySem.W.Frag} {mg : Str → Option Value} {base : Heap} (Z : BI mg bins) (EF : Errs P w K mg base errRows errT) (D : DefAt K mg "_law_fields" s_law_fields ["_law_e", "_law_number"]) : HasU P w K mg base 1 "_law_fields" ["_law_e", "_law_number"] d_law_fields :=
  D.hasU fun f fd F => fu_of (k := 0) (wb := w_law_fields) F sc_law_fields len_law_fields (fun cdv A outer s H E p hgd hr =>
  (qss_cons (qs_if (qt_cmp (o_eq (room_uh hr)) (q_var 1) q_int)
  (qss_one (qs_ret (q_lst (qa_cons (q_xf (EF.e "word") (q_var 0)) qa_nil))))
  qss_nil)
  (qss_cons (qs_if (qt_cmp (o_eq (room_uh hr)) (q_var 1) q_int)
  (qss_one (qs_ret (q_lst (qa_cons (q_xf (EF.e "line") (q_var 0)) qa_nil))))
  qss_nil)
  (qss_cons (qs_if (qt_cmp (o_eq (room_uh hr)) (q_var 1) q_int)
  (qss_one (qs_ret (q_lst (qa_cons (q_xf (EF.e "text") (q_var 0)) qa_nil))))
  qss_nil)
  (qss_cons (qs_if (qt_cmp (o_eq (room_uh hr)) (q_var 1) q_int)
  (qss_one (qs_ret (q_lst (qa_cons (q_xf (EF.e "place") (q_var 0)) qa_nil))))
  qss_nil)
  (qss_one (qs_ret (q_ifExp (qt_cmp (o_eq (room_uh hr)) (q_var 1) q_int) (q_lst (qa_cons (q_xf (EF.e "line") (q_var 0)) (qa_cons (q_xf (EF.e "word") (q_var 0)) qa_nil))) (q_lst (qa_cons (q_xf (EF.e "word") (q_var 0)) (qa_cons (q_xf (EF.e "at") (q_var 0)) qa_nil))))))))))) ok_law_fields
theorem f_law_fields {P : Program} {w : World} {K : PySem.W.Frag} {mg : Str → Option Value} {base : Heap} (Z : BI mg bins) (EF : Errs P w K mg base errRows errT) (D : DefAt K mg "_law_fields" s_law_fields ["_law_e", "_law_number"]) : Has P w K mg base 1 "_law_fields" ["_law_e", "_law_number"] d_law_fields :=
  D.has fun f fd F => fg_of (k := 0) (wb := w_law_fields) F sc_law_fields len_law_fields (fun cdv A outer s H E hgd hr =>
  (qss_cons (qs_if (qt_cmp (o_eq (room_u hr)) (q_var 1) q_int)
  (qss_one (qs_ret (q_lst (qa_cons (q_xf (EF.e "word") (q_var 0)) qa_nil))))
  qss_nil)
  (qss_cons (qs_if (qt_cmp (o_eq (room_u hr)) (q_var 1) q_int)
  (qss_one (qs_ret (q_lst (qa_cons (q_xf (EF.e "line") (q_var 0)) qa_nil))))
  qss_nil)
  (qss_cons (qs_if (qt_cmp (o_eq (room_u hr)) (q_var 1) q_int)
  (qss_one (qs_ret (q_lst (qa_cons (q_xf (EF.e "text") (q_var 0)) qa_nil))))
  qss_nil)
  (qss_cons (qs_if (qt_cmp (o_eq (room_u hr)) (q_var 1) q_int)
  (qss_one (qs_ret (q_lst (qa_cons (q_xf (EF.e "place") (q_var 0)) qa_nil))))
  qss_nil)
  (qss_one (qs_ret (q_ifExp (qt_cmp (o_eq (room_u hr)) (q_var 1) q_int) (q_lst (qa_cons (q_xf (EF.e "line") (q_var 0)) (qa_cons (q_xf (EF.e "word") (q_var 0)) qa_nil))) (q_lst (qa_cons (q_xf (EF.e "word") (q_var 0)) (qa_cons (q_xf (EF.e "at") (q_var 0)) qa_nil))))))))))) ok_law_fields

theorem fu_law_kinds {P : Program} {w : World} {K : PySem.W.Frag} {mg : Str → Option Value} {base : Heap} (Z : BI mg bins) (EF : Errs P w K mg base errRows errT) (D : DefAt K mg "_law_kinds" s_law_kinds ["_law_e"]) : HasU P w K mg base 1 "_law_kinds" ["_law_e"] d_law_kinds :=
  D.hasU fun f fd F => fu_of (k := 0) (wb := w_law_kinds) F sc_law_kinds len_law_kinds (fun cdv A outer s H E p hgd hr =>
  (qss_cons (qs_set 1 sc_law_kinds.nd (q_lst (qa_cons (q_callB (c_isE EF.i) (Z.at "isinstance") (qa_cons (q_var 0) (qa_cons (q_cls (EF.g "NoAsk" (by decide +kernel) (by decide +kernel))) qa_nil))) (qa_cons (q_callB (c_isE EF.i) (Z.at "isinstance") (qa_cons (q_var 0) (qa_cons (q_cls (EF.g "NoLines" (by decide +kernel) (by decide +kernel))) qa_nil))) (qa_cons (q_callB (c_isE EF.i) (Z.at "isinstance") (qa_cons (q_var 0) (qa_cons (q_cls (EF.g "NoRow" (by decide +kernel) (by decide +kernel))) qa_nil))) (qa_cons (q_callB (c_isE EF.i) (Z.at "isinstance") (qa_cons (q_var 0) (qa_cons (q_cls (EF.g "NoStep" (by decide +kernel) (by decide +kernel))) qa_nil))) qa_nil))))))
  (qss_one (qs_ret (q_op o_add (q_var 1) (q_lst (qa_cons (q_callB (c_isE EF.i) (Z.at "isinstance") (qa_cons (q_var 0) (qa_cons (q_cls (EF.g "NoFault" (by decide +kernel) (by decide +kernel))) qa_nil))) (qa_cons (q_callB (c_isE EF.i) (Z.at "isinstance") (qa_cons (q_var 0) (qa_cons (q_cls (EF.g "NoJoin" (by decide +kernel) (by decide +kernel))) qa_nil))) (qa_cons (q_callB (c_isE EF.i) (Z.at "isinstance") (qa_cons (q_var 0) (qa_cons (q_cls (EF.g "NoPaper" (by decide +kernel) (by decide +kernel))) qa_nil))) (qa_cons (q_callB (c_isE EF.i) (Z.at "isinstance") (qa_cons (q_var 0) (qa_cons (q_cls (EF.g "NoPot" (by decide +kernel) (by decide +kernel))) qa_nil))) qa_nil)))))))))) ok_law_kinds
theorem f_law_kinds {P : Program} {w : World} {K : PySem.W.Frag} {mg : Str → Option Value} {base : Heap} (Z : BI mg bins) (EF : Errs P w K mg base errRows errT) (D : DefAt K mg "_law_kinds" s_law_kinds ["_law_e"]) : Has P w K mg base 1 "_law_kinds" ["_law_e"] d_law_kinds :=
  D.has fun f fd F => fg_of (k := 0) (wb := w_law_kinds) F sc_law_kinds len_law_kinds (fun cdv A outer s H E hgd hr =>
  (qss_cons (qs_set 1 sc_law_kinds.nd (q_lst (qa_cons (q_callB (c_isE EF.i) (Z.at "isinstance") (qa_cons (q_var 0) (qa_cons (q_cls (EF.g "NoAsk" (by decide +kernel) (by decide +kernel))) qa_nil))) (qa_cons (q_callB (c_isE EF.i) (Z.at "isinstance") (qa_cons (q_var 0) (qa_cons (q_cls (EF.g "NoLines" (by decide +kernel) (by decide +kernel))) qa_nil))) (qa_cons (q_callB (c_isE EF.i) (Z.at "isinstance") (qa_cons (q_var 0) (qa_cons (q_cls (EF.g "NoRow" (by decide +kernel) (by decide +kernel))) qa_nil))) (qa_cons (q_callB (c_isE EF.i) (Z.at "isinstance") (qa_cons (q_var 0) (qa_cons (q_cls (EF.g "NoStep" (by decide +kernel) (by decide +kernel))) qa_nil))) qa_nil))))))
  (qss_one (qs_ret (q_op o_add (q_var 1) (q_lst (qa_cons (q_callB (c_isE EF.i) (Z.at "isinstance") (qa_cons (q_var 0) (qa_cons (q_cls (EF.g "NoFault" (by decide +kernel) (by decide +kernel))) qa_nil))) (qa_cons (q_callB (c_isE EF.i) (Z.at "isinstance") (qa_cons (q_var 0) (qa_cons (q_cls (EF.g "NoJoin" (by decide +kernel) (by decide +kernel))) qa_nil))) (qa_cons (q_callB (c_isE EF.i) (Z.at "isinstance") (qa_cons (q_var 0) (qa_cons (q_cls (EF.g "NoPaper" (by decide +kernel) (by decide +kernel))) qa_nil))) (qa_cons (q_callB (c_isE EF.i) (Z.at "isinstance") (qa_cons (q_var 0) (qa_cons (q_cls (EF.g "NoPot" (by decide +kernel) (by decide +kernel))) qa_nil))) qa_nil)))))))))) ok_law_kinds

theorem law_fg {P : Program} {w : World} {K : PySem.W.Frag} {mg : Str → Option Value} {base : Heap} {f : Addr} {fd : FuncData} (Z : BI mg bins) (h_law_feed : Has P w K mg base 1 "_law_feed" ["_law_script", "_law_k"] d_law_feed) (h_law_draw : Has P w K mg base 1 "_law_draw" ["_law_feed_here", "_law_many"] d_law_draw) (h_law_raise : Has P w K mg base 4 "_law_raise" ["_law_number", "_law_some"] d_law_raise) (hu_law_kinds : HasU P w K mg base 1 "_law_kinds" ["_law_e"] d_law_kinds) (hu_law_fields : HasU P w K mg base 1 "_law_fields" ["_law_e", "_law_number"] d_law_fields) (EF : Errs P w K mg base errRows errT) (F : L2.Fun K "law" "law" s_law f fd) : FG P w K mg base 5 f fd ["_law_script"] lawD :=
  fg_of (k := 4) (wb := w_law) F sc_law len_lawD (fun cdv A outer s H E hgd hr =>
  (qss_cons (qs_for (passes_of rfl) rfl (qi_range1 (Z.at "range") (qa_cons q_int qa_nil)) (qg_name 1 sc_law.nd)
  (qss_cons (qs_set 2 sc_law.nd (q_callH h_law_feed hgd hr (takes_of rfl rfl rfl rfl) (qa_cons (q_var 0) (qa_cons (q_var 1) qa_nil)) (by decide)))
  (qss_cons (qs_set 3 sc_law.nd (q_lst (qa_cons q_int (qa_cons q_int (qa_cons (q_op o_pow q_int q_int) (qa_cons q_str (qa_cons q_str (qa_cons q_non (qa_cons (q_neg q_int) (qa_cons q_str qa_nil))))))))))
  (qss_cons (qs_set 4 sc_law.nd (q_lst (qa_cons (q_ix o_ix (q_var 3) (q_callH h_law_draw hgd hr (takes_of rfl rfl rfl rfl) (qa_cons (q_var 2) (qa_cons q_int qa_nil)) (by decide))) (qa_cons (q_ix o_ix (q_var 3) (q_callH h_law_draw hgd hr (takes_of rfl rfl rfl rfl) (qa_cons (q_var 2) (qa_cons q_int qa_nil)) (by decide))) qa_nil))))
  (qss_one (qs_for (passes_of rfl) rfl (qi_range1 (Z.at "range") (qa_cons q_int qa_nil)) (qg_name 5 sc_law.nd)
  (qss_cons (qs_set 6 sc_law.nd q_non)
  (qss_cons (qs_tryAs 7 rfl rfl rfl sc_law.nd rfl rfl ⟨rfl, by decide, .inl (EF.g "DropError" (by decide +kernel) (by decide +kernel))⟩ (EF.x "DropError" (by decide +kernel) (by decide +kernel)) (takes_of rfl rfl rfl rfl) (fun W pn xe tk _ =>
  (qss_one (qs_expr (q_callH h_law_raise hgd hr tk (qa_cons (q_var 5) (qa_cons (q_var 4) qa_nil)) (by decide)))))
  (fun xa pn =>
  (qss_cons (qs_set 6 sc_law.nd (q_lst (qa_cons (q_callB (c_isE EF.i) (Z.at "isinstance") (qa_cons (q_var 7) (qa_cons (q_bty (n := "ValueError") (u := .type "ValueError") (Z.at "ValueError")) qa_nil))) (qa_cons (q_callUH hu_law_kinds hgd (roomU hr (by decide)) (qa_cons (q_var 7) qa_nil)) qa_nil))))
  (qss_one (qs_if (qt_cmp o_lt (q_var 5) q_int)
  (qss_one (qs_expr (q_bm PySem.F.plainAttrs_list PySem.F.slot_list_append PySem.F.type_list_append m_append (q_var 6) (qa_cons (q_callUH hu_law_fields hgd (roomU hr (by decide)) (qa_cons (q_var 7) (qa_cons (q_var 5) qa_nil))) qa_nil))))
  qss_nil)))))
  (qss_cons (qs_set 8 sc_law.nd (q_lst (qa_cons q_bl (qa_cons (q_lc (own := [("_law_other", 9)]) rfl sc_law.nd (qi_range1 (Z.at "range") (qa_cons q_int qa_nil)) rfl (fun _ _ _ _ _ => (qg_name 9 sc_law.nd).pg) gok_name (fun _ _ _ _ _ => qts_nil) (fun _ _ _ _ _ => (q_cmp (o_eq (room_u hr)) (q_var 9) (q_var 5)))) qa_nil))))
  (qss_cons (qs_if (qt_cmp o_lt (q_var 5) q_int)
  (qss_one (qs_expr (q_bm PySem.F.plainAttrs_list PySem.F.slot_list_append PySem.F.type_list_append m_append (q_var 8) (qa_cons (q_ifExp (qt_cmp o_lt (q_var 5) q_int) (q_slice o_sl (q_var 4) qo_none (qo_some q_int)) (q_var 4)) qa_nil))))
  qss_nil)
  (qss_one (qs_if (qt_cmp (o_ne (room_u hr)) (q_callB (c_repr hgd (room_u hr)) (Z.at "repr") (qa_cons (q_var 6) qa_nil)) (q_callB (c_repr hgd (room_u hr)) (Z.at "repr") (qa_cons (q_var 8) qa_nil)))
  (qss_one (qs_ret q_bl))
  qss_nil))))))))))))
  (qss_one (qs_ret q_bl)))) ok_law
omit [Cls] in
theorem all_mk {w : World} {K : PySem.W.Frag} {h : Heap} {mg : Str → Option Value} {fa : Addr} (X : K.In h) (G : h.Ns mainGlobals mg) (hfa : mg "law" = some (.ref fa))
    {f1 : Addr} {od1 an1 : Option Addr} {sl1 : Array (Option Value)} {oc1 kV1 dc1 pm1 cd1 ct1 : Value}
    (a1 : PySem.W.nsIn K mainGlobals "_law_feed" = some (some (.ref f1))) (l1 : K.lookup f1 = some ⟨oc1, od1, .func (PySem.W.fnOf "_law_feed" "_law_feed" (defArgs s_law_feed) (defBody s_law_feed) (defScope s_law_feed) .none kV1 dc1 pm1 an1 cd1 ct1), sl1⟩) (c1 : PySem.W.codeIn K cd1 "_law_feed" = true) (k1 : PySem.W.keepIn K (.ref f1) = true)
    {f2 : Addr} {od2 an2 : Option Addr} {sl2 : Array (Option Value)} {oc2 kV2 dc2 pm2 cd2 ct2 : Value}
    (a2 : PySem.W.nsIn K mainGlobals "_law_draw" = some (some (.ref f2))) (l2 : K.lookup f2 = some ⟨oc2, od2, .func (PySem.W.fnOf "_law_draw" "_law_draw" (defArgs s_law_draw) (defBody s_law_draw) (defScope s_law_draw) .none kV2 dc2 pm2 an2 cd2 ct2), sl2⟩) (c2 : PySem.W.codeIn K cd2 "_law_draw" = true) (k2 : PySem.W.keepIn K (.ref f2) = true)
    {f3 : Addr} {od3 an3 : Option Addr} {sl3 : Array (Option Value)} {oc3 kV3 dc3 pm3 cd3 ct3 : Value}
    (a3 : PySem.W.nsIn K mainGlobals "_law_raise_lines" = some (some (.ref f3))) (l3 : K.lookup f3 = some ⟨oc3, od3, .func (PySem.W.fnOf "_law_raise_lines" "_law_raise_lines" (defArgs s_law_raise_lines) (defBody s_law_raise_lines) (defScope s_law_raise_lines) .none kV3 dc3 pm3 an3 cd3 ct3), sl3⟩) (c3 : PySem.W.codeIn K cd3 "_law_raise_lines" = true) (k3 : PySem.W.keepIn K (.ref f3) = true)
    {f4 : Addr} {od4 an4 : Option Addr} {sl4 : Array (Option Value)} {oc4 kV4 dc4 pm4 cd4 ct4 : Value}
    (a4 : PySem.W.nsIn K mainGlobals "_law_raise" = some (some (.ref f4))) (l4 : K.lookup f4 = some ⟨oc4, od4, .func (PySem.W.fnOf "_law_raise" "_law_raise" (defArgs s_law_raise) (defBody s_law_raise) (defScope s_law_raise) .none kV4 dc4 pm4 an4 cd4 ct4), sl4⟩) (c4 : PySem.W.codeIn K cd4 "_law_raise" = true) (k4 : PySem.W.keepIn K (.ref f4) = true)
    {f5 : Addr} {od5 an5 : Option Addr} {sl5 : Array (Option Value)} {oc5 kV5 dc5 pm5 cd5 ct5 : Value}
    (a5 : PySem.W.nsIn K mainGlobals "_law_kinds" = some (some (.ref f5))) (l5 : K.lookup f5 = some ⟨oc5, od5, .func (PySem.W.fnOf "_law_kinds" "_law_kinds" (defArgs s_law_kinds) (defBody s_law_kinds) (defScope s_law_kinds) .none kV5 dc5 pm5 an5 cd5 ct5), sl5⟩) (c5 : PySem.W.codeIn K cd5 "_law_kinds" = true) (k5 : PySem.W.keepIn K (.ref f5) = true)
    {f6 : Addr} {od6 an6 : Option Addr} {sl6 : Array (Option Value)} {oc6 kV6 dc6 pm6 cd6 ct6 : Value}
    (a6 : PySem.W.nsIn K mainGlobals "_law_fields" = some (some (.ref f6))) (l6 : K.lookup f6 = some ⟨oc6, od6, .func (PySem.W.fnOf "_law_fields" "_law_fields" (defArgs s_law_fields) (defBody s_law_fields) (defScope s_law_fields) .none kV6 dc6 pm6 an6 cd6 ct6), sl6⟩) (c6 : PySem.W.codeIn K cd6 "_law_fields" = true) (k6 : PySem.W.keepIn K (.ref f6) = true)
    {f7 : Addr} {od7 an7 : Option Addr} {sl7 : Array (Option Value)} {oc7 kV7 dc7 pm7 cd7 ct7 : Value}
    (a7 : PySem.W.nsIn K mainGlobals "law" = some (some (.ref f7))) (l7 : K.lookup f7 = some ⟨oc7, od7, .func (PySem.W.fnOf "law" "law" (defArgs s_law) (defBody s_law) (defScope s_law) .none kV7 dc7 pm7 an7 cd7 ct7), sl7⟩) (c7 : PySem.W.codeIn K cd7 "law" = true) (k7 : PySem.W.keepIn K (.ref f7) = true)
    (z1 : PySem.W.nsIn K mainGlobals "ValueError" = some none)
    (z2 : PySem.W.nsIn K mainGlobals "isinstance" = some none)
    (z3 : PySem.W.nsIn K mainGlobals "len" = some none)
    (z4 : PySem.W.nsIn K mainGlobals "range" = some none)
    (z5 : PySem.W.nsIn K mainGlobals "repr" = some none)
    {C_DropError : Addr} (ac_DropError : PySem.W.nsIn K mainGlobals "DropError" = some (some (.ref C_DropError))) (bc_DropError : PySem.W.subIn K (.ref C_DropError) (.type "BaseException") = some true) (tc_DropError : PySem.W.typeIn K (.ref C_DropError) = some (.type "type")) (ic_DropError : PySem.W.isClsIn K C_DropError = true)
    {C_NoAsk : Addr} (ac_NoAsk : PySem.W.nsIn K mainGlobals "NoAsk" = some (some (.ref C_NoAsk))) (bc_NoAsk : PySem.W.subIn K (.ref C_NoAsk) (.type "BaseException") = some true) (tc_NoAsk : PySem.W.typeIn K (.ref C_NoAsk) = some (.type "type")) (ic_NoAsk : PySem.W.isClsIn K C_NoAsk = true)
    {C_NoFault : Addr} (ac_NoFault : PySem.W.nsIn K mainGlobals "NoFault" = some (some (.ref C_NoFault))) (bc_NoFault : PySem.W.subIn K (.ref C_NoFault) (.type "BaseException") = some true) (tc_NoFault : PySem.W.typeIn K (.ref C_NoFault) = some (.type "type")) (ic_NoFault : PySem.W.isClsIn K C_NoFault = true)
    {C_NoJoin : Addr} (ac_NoJoin : PySem.W.nsIn K mainGlobals "NoJoin" = some (some (.ref C_NoJoin))) (bc_NoJoin : PySem.W.subIn K (.ref C_NoJoin) (.type "BaseException") = some true) (tc_NoJoin : PySem.W.typeIn K (.ref C_NoJoin) = some (.type "type")) (ic_NoJoin : PySem.W.isClsIn K C_NoJoin = true)
    {C_NoLines : Addr} (ac_NoLines : PySem.W.nsIn K mainGlobals "NoLines" = some (some (.ref C_NoLines))) (bc_NoLines : PySem.W.subIn K (.ref C_NoLines) (.type "BaseException") = some true) (tc_NoLines : PySem.W.typeIn K (.ref C_NoLines) = some (.type "type")) (ic_NoLines : PySem.W.isClsIn K C_NoLines = true)
    {C_NoPaper : Addr} (ac_NoPaper : PySem.W.nsIn K mainGlobals "NoPaper" = some (some (.ref C_NoPaper))) (bc_NoPaper : PySem.W.subIn K (.ref C_NoPaper) (.type "BaseException") = some true) (tc_NoPaper : PySem.W.typeIn K (.ref C_NoPaper) = some (.type "type")) (ic_NoPaper : PySem.W.isClsIn K C_NoPaper = true)
    {C_NoPot : Addr} (ac_NoPot : PySem.W.nsIn K mainGlobals "NoPot" = some (some (.ref C_NoPot))) (bc_NoPot : PySem.W.subIn K (.ref C_NoPot) (.type "BaseException") = some true) (tc_NoPot : PySem.W.typeIn K (.ref C_NoPot) = some (.type "type")) (ic_NoPot : PySem.W.isClsIn K C_NoPot = true)
    {C_NoRow : Addr} (ac_NoRow : PySem.W.nsIn K mainGlobals "NoRow" = some (some (.ref C_NoRow))) (bc_NoRow : PySem.W.subIn K (.ref C_NoRow) (.type "BaseException") = some true) (tc_NoRow : PySem.W.typeIn K (.ref C_NoRow) = some (.type "type")) (ic_NoRow : PySem.W.isClsIn K C_NoRow = true)
    {C_NoStep : Addr} (ac_NoStep : PySem.W.nsIn K mainGlobals "NoStep" = some (some (.ref C_NoStep))) (bc_NoStep : PySem.W.subIn K (.ref C_NoStep) (.type "BaseException") = some true) (tc_NoStep : PySem.W.typeIn K (.ref C_NoStep) = some (.type "type")) (ic_NoStep : PySem.W.isClsIn K C_NoStep = true)
    (dr : PySem.W.readsIn K C_DropError (.type "type") = true) (dg : PySem.W.specialIn K (.ref C_DropError) "__getattribute__" = some (some (.builtin "type.__getattribute__"))) (dv : PySem.W.findCls K (.ref C_DropError) (.type "type") "__init__" = some (.val (.builtin "ValueError.__init__")))
    (og : PySem.W.specialIn K (.builtin "object.__class__") "__get__" = some (some (.builtin "getset_descriptor.__get__"))) (ot : PySem.W.takesIn K (.builtin "object.__class__") = some true)
    {f_NoAsk : Addr} {od_NoAsk an_NoAsk : Option Addr} {sl_NoAsk : Array (Option Value)} {oc_NoAsk kV_NoAsk dc_NoAsk pm_NoAsk cd_NoAsk ct_NoAsk : Value} {nm_NoAsk q_NoAsk : Str} {N_NoAsk : Addr} {bs_NoAsk sub_NoAsk : List Value} {sn_NoAsk : List Str} {ab_NoAsk : Bool} {col_NoAsk : Option Bool} {dd_NoAsk : Option Addr} {m0_NoAsk m1_NoAsk m2_NoAsk m3_NoAsk m5_NoAsk : Option Value}
    (xl_NoAsk : K.lookup C_NoAsk = some (excClassObj nm_NoAsk q_NoAsk C_NoAsk N_NoAsk bs_NoAsk [.ref C_DropError, .type "ValueError", .type "Exception", .type "BaseException", .type "object"] true sn_NoAsk sub_NoAsk ab_NoAsk col_NoAsk dd_NoAsk m0_NoAsk m1_NoAsk m2_NoAsk m3_NoAsk m5_NoAsk "ValueError.__new__"))
    (sa_NoAsk : PySem.W.findIn K (.ref C_NoAsk) "__setattr__" = some (some (.builtin "object.__setattr__"))) (ga_NoAsk : PySem.W.findIn K (.ref C_NoAsk) "__getattribute__" = some (some (.builtin "BaseException.__getattribute__"))) (gg_NoAsk : PySem.W.findIn K (.ref C_NoAsk) "__getattr__" = some none) (kc_NoAsk : PySem.W.keepIn K (.ref C_NoAsk) = true) (hd_NoAsk : PySem.W.hasDictIn K C_NoAsk = true) (cl_NoAsk : PySem.W.findIn K (.ref C_NoAsk) "__class__" = some (some (.builtin "object.__class__"))) (mo_NoAsk : PySem.W.mroIn K C_NoAsk (.type "object") = some true) (sv_NoAsk : PySem.W.subIn K (.ref C_NoAsk) (.type "ValueError") = some true) (ss_NoAsk : PySem.W.subIn K (.ref C_NoAsk) (.ref C_NoAsk) = some true)
    (ai_NoAsk : PySem.W.findIn K (.ref C_NoAsk) "__init__" = some (some (.ref f_NoAsk))) (ti_NoAsk : PySem.W.typeIn K (.ref f_NoAsk) = some (.type "function")) (li_NoAsk : K.lookup f_NoAsk = some ⟨oc_NoAsk, od_NoAsk, .func (PySem.W.fnOf "__init__" "NoAsk.__init__" (defArgs s_NoAsk) (defBody s_NoAsk) (defScope s_NoAsk) .none kV_NoAsk dc_NoAsk pm_NoAsk an_NoAsk cd_NoAsk ct_NoAsk), sl_NoAsk⟩) (ci_NoAsk : PySem.W.codeIn K cd_NoAsk "NoAsk.__init__" = true) (ki_NoAsk : PySem.W.keepIn K (.ref f_NoAsk) = true)
    (n1_NoAsk : PySem.W.findIn K (.ref C_NoAsk) "word" = some none)
    (is_NoAsk_DropError : PySem.W.subIn K (.ref C_NoAsk) (.ref C_DropError) = some true)
    (is_NoAsk_NoFault : PySem.W.subIn K (.ref C_NoAsk) (.ref C_NoFault) = some false)
    (is_NoAsk_NoJoin : PySem.W.subIn K (.ref C_NoAsk) (.ref C_NoJoin) = some false)
    (is_NoAsk_NoLines : PySem.W.subIn K (.ref C_NoAsk) (.ref C_NoLines) = some false)
    (is_NoAsk_NoPaper : PySem.W.subIn K (.ref C_NoAsk) (.ref C_NoPaper) = some false)
    (is_NoAsk_NoPot : PySem.W.subIn K (.ref C_NoAsk) (.ref C_NoPot) = some false)
    (is_NoAsk_NoRow : PySem.W.subIn K (.ref C_NoAsk) (.ref C_NoRow) = some false)
    (is_NoAsk_NoStep : PySem.W.subIn K (.ref C_NoAsk) (.ref C_NoStep) = some false)
    {f_NoFault : Addr} {od_NoFault an_NoFault : Option Addr} {sl_NoFault : Array (Option Value)} {oc_NoFault kV_NoFault dc_NoFault pm_NoFault cd_NoFault ct_NoFault : Value} {nm_NoFault q_NoFault : Str} {N_NoFault : Addr} {bs_NoFault sub_NoFault : List Value} {sn_NoFault : List Str} {ab_NoFault : Bool} {col_NoFault : Option Bool} {dd_NoFault : Option Addr} {m0_NoFault m1_NoFault m2_NoFault m3_NoFault m5_NoFault : Option Value}
    (xl_NoFault : K.lookup C_NoFault = some (excClassObj nm_NoFault q_NoFault C_NoFault N_NoFault bs_NoFault [.ref C_DropError, .type "ValueError", .type "Exception", .type "BaseException", .type "object"] true sn_NoFault sub_NoFault ab_NoFault col_NoFault dd_NoFault m0_NoFault m1_NoFault m2_NoFault m3_NoFault m5_NoFault "ValueError.__new__"))
    (sa_NoFault : PySem.W.findIn K (.ref C_NoFault) "__setattr__" = some (some (.builtin "object.__setattr__"))) (ga_NoFault : PySem.W.findIn K (.ref C_NoFault) "__getattribute__" = some (some (.builtin "BaseException.__getattribute__"))) (gg_NoFault : PySem.W.findIn K (.ref C_NoFault) "__getattr__" = some none) (kc_NoFault : PySem.W.keepIn K (.ref C_NoFault) = true) (hd_NoFault : PySem.W.hasDictIn K C_NoFault = true) (cl_NoFault : PySem.W.findIn K (.ref C_NoFault) "__class__" = some (some (.builtin "object.__class__"))) (mo_NoFault : PySem.W.mroIn K C_NoFault (.type "object") = some true) (sv_NoFault : PySem.W.subIn K (.ref C_NoFault) (.type "ValueError") = some true) (ss_NoFault : PySem.W.subIn K (.ref C_NoFault) (.ref C_NoFault) = some true)
    (ai_NoFault : PySem.W.findIn K (.ref C_NoFault) "__init__" = some (some (.ref f_NoFault))) (ti_NoFault : PySem.W.typeIn K (.ref f_NoFault) = some (.type "function")) (li_NoFault : K.lookup f_NoFault = some ⟨oc_NoFault, od_NoFault, .func (PySem.W.fnOf "__init__" "NoFault.__init__" (defArgs s_NoFault) (defBody s_NoFault) (defScope s_NoFault) .none kV_NoFault dc_NoFault pm_NoFault an_NoFault cd_NoFault ct_NoFault), sl_NoFault⟩) (ci_NoFault : PySem.W.codeIn K cd_NoFault "NoFault.__init__" = true) (ki_NoFault : PySem.W.keepIn K (.ref f_NoFault) = true)
    (n1_NoFault : PySem.W.findIn K (.ref C_NoFault) "word" = some none)
    (n2_NoFault : PySem.W.findIn K (.ref C_NoFault) "at" = some none)
    (is_NoFault_DropError : PySem.W.subIn K (.ref C_NoFault) (.ref C_DropError) = some true)
    (is_NoFault_NoAsk : PySem.W.subIn K (.ref C_NoFault) (.ref C_NoAsk) = some false)
    (is_NoFault_NoJoin : PySem.W.subIn K (.ref C_NoFault) (.ref C_NoJoin) = some false)
    (is_NoFault_NoLines : PySem.W.subIn K (.ref C_NoFault) (.ref C_NoLines) = some false)
    (is_NoFault_NoPaper : PySem.W.subIn K (.ref C_NoFault) (.ref C_NoPaper) = some false)
    (is_NoFault_NoPot : PySem.W.subIn K (.ref C_NoFault) (.ref C_NoPot) = some false)
    (is_NoFault_NoRow : PySem.W.subIn K (.ref C_NoFault) (.ref C_NoRow) = some false)
    (is_NoFault_NoStep : PySem.W.subIn K (.ref C_NoFault) (.ref C_NoStep) = some false)
    {f_NoJoin : Addr} {od_NoJoin an_NoJoin : Option Addr} {sl_NoJoin : Array (Option Value)} {oc_NoJoin kV_NoJoin dc_NoJoin pm_NoJoin cd_NoJoin ct_NoJoin : Value} {nm_NoJoin q_NoJoin : Str} {N_NoJoin : Addr} {bs_NoJoin sub_NoJoin : List Value} {sn_NoJoin : List Str} {ab_NoJoin : Bool} {col_NoJoin : Option Bool} {dd_NoJoin : Option Addr} {m0_NoJoin m1_NoJoin m2_NoJoin m3_NoJoin m5_NoJoin : Option Value}
    (xl_NoJoin : K.lookup C_NoJoin = some (excClassObj nm_NoJoin q_NoJoin C_NoJoin N_NoJoin bs_NoJoin [.ref C_DropError, .type "ValueError", .type "Exception", .type "BaseException", .type "object"] true sn_NoJoin sub_NoJoin ab_NoJoin col_NoJoin dd_NoJoin m0_NoJoin m1_NoJoin m2_NoJoin m3_NoJoin m5_NoJoin "ValueError.__new__"))
    (sa_NoJoin : PySem.W.findIn K (.ref C_NoJoin) "__setattr__" = some (some (.builtin "object.__setattr__"))) (ga_NoJoin : PySem.W.findIn K (.ref C_NoJoin) "__getattribute__" = some (some (.builtin "BaseException.__getattribute__"))) (gg_NoJoin : PySem.W.findIn K (.ref C_NoJoin) "__getattr__" = some none) (kc_NoJoin : PySem.W.keepIn K (.ref C_NoJoin) = true) (hd_NoJoin : PySem.W.hasDictIn K C_NoJoin = true) (cl_NoJoin : PySem.W.findIn K (.ref C_NoJoin) "__class__" = some (some (.builtin "object.__class__"))) (mo_NoJoin : PySem.W.mroIn K C_NoJoin (.type "object") = some true) (sv_NoJoin : PySem.W.subIn K (.ref C_NoJoin) (.type "ValueError") = some true) (ss_NoJoin : PySem.W.subIn K (.ref C_NoJoin) (.ref C_NoJoin) = some true)
    (ai_NoJoin : PySem.W.findIn K (.ref C_NoJoin) "__init__" = some (some (.ref f_NoJoin))) (ti_NoJoin : PySem.W.typeIn K (.ref f_NoJoin) = some (.type "function")) (li_NoJoin : K.lookup f_NoJoin = some ⟨oc_NoJoin, od_NoJoin, .func (PySem.W.fnOf "__init__" "NoJoin.__init__" (defArgs s_NoJoin) (defBody s_NoJoin) (defScope s_NoJoin) .none kV_NoJoin dc_NoJoin pm_NoJoin an_NoJoin cd_NoJoin ct_NoJoin), sl_NoJoin⟩) (ci_NoJoin : PySem.W.codeIn K cd_NoJoin "NoJoin.__init__" = true) (ki_NoJoin : PySem.W.keepIn K (.ref f_NoJoin) = true)
    (n1_NoJoin : PySem.W.findIn K (.ref C_NoJoin) "word" = some none)
    (n2_NoJoin : PySem.W.findIn K (.ref C_NoJoin) "at" = some none)
    (is_NoJoin_DropError : PySem.W.subIn K (.ref C_NoJoin) (.ref C_DropError) = some true)
    (is_NoJoin_NoAsk : PySem.W.subIn K (.ref C_NoJoin) (.ref C_NoAsk) = some false)
    (is_NoJoin_NoFault : PySem.W.subIn K (.ref C_NoJoin) (.ref C_NoFault) = some false)
    (is_NoJoin_NoLines : PySem.W.subIn K (.ref C_NoJoin) (.ref C_NoLines) = some false)
    (is_NoJoin_NoPaper : PySem.W.subIn K (.ref C_NoJoin) (.ref C_NoPaper) = some false)
    (is_NoJoin_NoPot : PySem.W.subIn K (.ref C_NoJoin) (.ref C_NoPot) = some false)
    (is_NoJoin_NoRow : PySem.W.subIn K (.ref C_NoJoin) (.ref C_NoRow) = some false)
    (is_NoJoin_NoStep : PySem.W.subIn K (.ref C_NoJoin) (.ref C_NoStep) = some false)
    {f_NoLines : Addr} {od_NoLines an_NoLines : Option Addr} {sl_NoLines : Array (Option Value)} {oc_NoLines kV_NoLines dc_NoLines pm_NoLines cd_NoLines ct_NoLines : Value} {nm_NoLines q_NoLines : Str} {N_NoLines : Addr} {bs_NoLines sub_NoLines : List Value} {sn_NoLines : List Str} {ab_NoLines : Bool} {col_NoLines : Option Bool} {dd_NoLines : Option Addr} {m0_NoLines m1_NoLines m2_NoLines m3_NoLines m5_NoLines : Option Value}
    (xl_NoLines : K.lookup C_NoLines = some (excClassObj nm_NoLines q_NoLines C_NoLines N_NoLines bs_NoLines [.ref C_DropError, .type "ValueError", .type "Exception", .type "BaseException", .type "object"] true sn_NoLines sub_NoLines ab_NoLines col_NoLines dd_NoLines m0_NoLines m1_NoLines m2_NoLines m3_NoLines m5_NoLines "ValueError.__new__"))
    (sa_NoLines : PySem.W.findIn K (.ref C_NoLines) "__setattr__" = some (some (.builtin "object.__setattr__"))) (ga_NoLines : PySem.W.findIn K (.ref C_NoLines) "__getattribute__" = some (some (.builtin "BaseException.__getattribute__"))) (gg_NoLines : PySem.W.findIn K (.ref C_NoLines) "__getattr__" = some none) (kc_NoLines : PySem.W.keepIn K (.ref C_NoLines) = true) (hd_NoLines : PySem.W.hasDictIn K C_NoLines = true) (cl_NoLines : PySem.W.findIn K (.ref C_NoLines) "__class__" = some (some (.builtin "object.__class__"))) (mo_NoLines : PySem.W.mroIn K C_NoLines (.type "object") = some true) (sv_NoLines : PySem.W.subIn K (.ref C_NoLines) (.type "ValueError") = some true) (ss_NoLines : PySem.W.subIn K (.ref C_NoLines) (.ref C_NoLines) = some true)
    (ai_NoLines : PySem.W.findIn K (.ref C_NoLines) "__init__" = some (some (.ref f_NoLines))) (ti_NoLines : PySem.W.typeIn K (.ref f_NoLines) = some (.type "function")) (li_NoLines : K.lookup f_NoLines = some ⟨oc_NoLines, od_NoLines, .func (PySem.W.fnOf "__init__" "NoLines.__init__" (defArgs s_NoLines) (defBody s_NoLines) (defScope s_NoLines) .none kV_NoLines dc_NoLines pm_NoLines an_NoLines cd_NoLines ct_NoLines), sl_NoLines⟩) (ci_NoLines : PySem.W.codeIn K cd_NoLines "NoLines.__init__" = true) (ki_NoLines : PySem.W.keepIn K (.ref f_NoLines) = true)
    (n1_NoLines : PySem.W.findIn K (.ref C_NoLines) "line" = some none)
    (is_NoLines_DropError : PySem.W.subIn K (.ref C_NoLines) (.ref C_DropError) = some true)
    (is_NoLines_NoAsk : PySem.W.subIn K (.ref C_NoLines) (.ref C_NoAsk) = some false)
    (is_NoLines_NoFault : PySem.W.subIn K (.ref C_NoLines) (.ref C_NoFault) = some false)
    (is_NoLines_NoJoin : PySem.W.subIn K (.ref C_NoLines) (.ref C_NoJoin) = some false)
    (is_NoLines_NoPaper : PySem.W.subIn K (.ref C_NoLines) (.ref C_NoPaper) = some false)
    (is_NoLines_NoPot : PySem.W.subIn K (.ref C_NoLines) (.ref C_NoPot) = some false)
    (is_NoLines_NoRow : PySem.W.subIn K (.ref C_NoLines) (.ref C_NoRow) = some false)
    (is_NoLines_NoStep : PySem.W.subIn K (.ref C_NoLines) (.ref C_NoStep) = some false)
    {f_NoPaper : Addr} {od_NoPaper an_NoPaper : Option Addr} {sl_NoPaper : Array (Option Value)} {oc_NoPaper kV_NoPaper dc_NoPaper pm_NoPaper cd_NoPaper ct_NoPaper : Value} {nm_NoPaper q_NoPaper : Str} {N_NoPaper : Addr} {bs_NoPaper sub_NoPaper : List Value} {sn_NoPaper : List Str} {ab_NoPaper : Bool} {col_NoPaper : Option Bool} {dd_NoPaper : Option Addr} {m0_NoPaper m1_NoPaper m2_NoPaper m3_NoPaper m5_NoPaper : Option Value}
    (xl_NoPaper : K.lookup C_NoPaper = some (excClassObj nm_NoPaper q_NoPaper C_NoPaper N_NoPaper bs_NoPaper [.ref C_DropError, .type "ValueError", .type "Exception", .type "BaseException", .type "object"] true sn_NoPaper sub_NoPaper ab_NoPaper col_NoPaper dd_NoPaper m0_NoPaper m1_NoPaper m2_NoPaper m3_NoPaper m5_NoPaper "ValueError.__new__"))
    (sa_NoPaper : PySem.W.findIn K (.ref C_NoPaper) "__setattr__" = some (some (.builtin "object.__setattr__"))) (ga_NoPaper : PySem.W.findIn K (.ref C_NoPaper) "__getattribute__" = some (some (.builtin "BaseException.__getattribute__"))) (gg_NoPaper : PySem.W.findIn K (.ref C_NoPaper) "__getattr__" = some none) (kc_NoPaper : PySem.W.keepIn K (.ref C_NoPaper) = true) (hd_NoPaper : PySem.W.hasDictIn K C_NoPaper = true) (cl_NoPaper : PySem.W.findIn K (.ref C_NoPaper) "__class__" = some (some (.builtin "object.__class__"))) (mo_NoPaper : PySem.W.mroIn K C_NoPaper (.type "object") = some true) (sv_NoPaper : PySem.W.subIn K (.ref C_NoPaper) (.type "ValueError") = some true) (ss_NoPaper : PySem.W.subIn K (.ref C_NoPaper) (.ref C_NoPaper) = some true)
    (ai_NoPaper : PySem.W.findIn K (.ref C_NoPaper) "__init__" = some (some (.ref f_NoPaper))) (ti_NoPaper : PySem.W.typeIn K (.ref f_NoPaper) = some (.type "function")) (li_NoPaper : K.lookup f_NoPaper = some ⟨oc_NoPaper, od_NoPaper, .func (PySem.W.fnOf "__init__" "NoPaper.__init__" (defArgs s_NoPaper) (defBody s_NoPaper) (defScope s_NoPaper) .none kV_NoPaper dc_NoPaper pm_NoPaper an_NoPaper cd_NoPaper ct_NoPaper), sl_NoPaper⟩) (ci_NoPaper : PySem.W.codeIn K cd_NoPaper "NoPaper.__init__" = true) (ki_NoPaper : PySem.W.keepIn K (.ref f_NoPaper) = true)
    (n1_NoPaper : PySem.W.findIn K (.ref C_NoPaper) "word" = some none)
    (n2_NoPaper : PySem.W.findIn K (.ref C_NoPaper) "at" = some none)
    (is_NoPaper_DropError : PySem.W.subIn K (.ref C_NoPaper) (.ref C_DropError) = some true)
    (is_NoPaper_NoAsk : PySem.W.subIn K (.ref C_NoPaper) (.ref C_NoAsk) = some false)
    (is_NoPaper_NoFault : PySem.W.subIn K (.ref C_NoPaper) (.ref C_NoFault) = some false)
    (is_NoPaper_NoJoin : PySem.W.subIn K (.ref C_NoPaper) (.ref C_NoJoin) = some false)
    (is_NoPaper_NoLines : PySem.W.subIn K (.ref C_NoPaper) (.ref C_NoLines) = some false)
    (is_NoPaper_NoPot : PySem.W.subIn K (.ref C_NoPaper) (.ref C_NoPot) = some false)
    (is_NoPaper_NoRow : PySem.W.subIn K (.ref C_NoPaper) (.ref C_NoRow) = some false)
    (is_NoPaper_NoStep : PySem.W.subIn K (.ref C_NoPaper) (.ref C_NoStep) = some false)
    {f_NoPot : Addr} {od_NoPot an_NoPot : Option Addr} {sl_NoPot : Array (Option Value)} {oc_NoPot kV_NoPot dc_NoPot pm_NoPot cd_NoPot ct_NoPot : Value} {nm_NoPot q_NoPot : Str} {N_NoPot : Addr} {bs_NoPot sub_NoPot : List Value} {sn_NoPot : List Str} {ab_NoPot : Bool} {col_NoPot : Option Bool} {dd_NoPot : Option Addr} {m0_NoPot m1_NoPot m2_NoPot m3_NoPot m5_NoPot : Option Value}
    (xl_NoPot : K.lookup C_NoPot = some (excClassObj nm_NoPot q_NoPot C_NoPot N_NoPot bs_NoPot [.ref C_DropError, .type "ValueError", .type "Exception", .type "BaseException", .type "object"] true sn_NoPot sub_NoPot ab_NoPot col_NoPot dd_NoPot m0_NoPot m1_NoPot m2_NoPot m3_NoPot m5_NoPot "ValueError.__new__"))
    (sa_NoPot : PySem.W.findIn K (.ref C_NoPot) "__setattr__" = some (some (.builtin "object.__setattr__"))) (ga_NoPot : PySem.W.findIn K (.ref C_NoPot) "__getattribute__" = some (some (.builtin "BaseException.__getattribute__"))) (gg_NoPot : PySem.W.findIn K (.ref C_NoPot) "__getattr__" = some none) (kc_NoPot : PySem.W.keepIn K (.ref C_NoPot) = true) (hd_NoPot : PySem.W.hasDictIn K C_NoPot = true) (cl_NoPot : PySem.W.findIn K (.ref C_NoPot) "__class__" = some (some (.builtin "object.__class__"))) (mo_NoPot : PySem.W.mroIn K C_NoPot (.type "object") = some true) (sv_NoPot : PySem.W.subIn K (.ref C_NoPot) (.type "ValueError") = some true) (ss_NoPot : PySem.W.subIn K (.ref C_NoPot) (.ref C_NoPot) = some true)
    (ai_NoPot : PySem.W.findIn K (.ref C_NoPot) "__init__" = some (some (.ref f_NoPot))) (ti_NoPot : PySem.W.typeIn K (.ref f_NoPot) = some (.type "function")) (li_NoPot : K.lookup f_NoPot = some ⟨oc_NoPot, od_NoPot, .func (PySem.W.fnOf "__init__" "NoPot.__init__" (defArgs s_NoPot) (defBody s_NoPot) (defScope s_NoPot) .none kV_NoPot dc_NoPot pm_NoPot an_NoPot cd_NoPot ct_NoPot), sl_NoPot⟩) (ci_NoPot : PySem.W.codeIn K cd_NoPot "NoPot.__init__" = true) (ki_NoPot : PySem.W.keepIn K (.ref f_NoPot) = true)
    (n1_NoPot : PySem.W.findIn K (.ref C_NoPot) "line" = some none)
    (n2_NoPot : PySem.W.findIn K (.ref C_NoPot) "word" = some none)
    (is_NoPot_DropError : PySem.W.subIn K (.ref C_NoPot) (.ref C_DropError) = some true)
    (is_NoPot_NoAsk : PySem.W.subIn K (.ref C_NoPot) (.ref C_NoAsk) = some false)
    (is_NoPot_NoFault : PySem.W.subIn K (.ref C_NoPot) (.ref C_NoFault) = some false)
    (is_NoPot_NoJoin : PySem.W.subIn K (.ref C_NoPot) (.ref C_NoJoin) = some false)
    (is_NoPot_NoLines : PySem.W.subIn K (.ref C_NoPot) (.ref C_NoLines) = some false)
    (is_NoPot_NoPaper : PySem.W.subIn K (.ref C_NoPot) (.ref C_NoPaper) = some false)
    (is_NoPot_NoRow : PySem.W.subIn K (.ref C_NoPot) (.ref C_NoRow) = some false)
    (is_NoPot_NoStep : PySem.W.subIn K (.ref C_NoPot) (.ref C_NoStep) = some false)
    {f_NoRow : Addr} {od_NoRow an_NoRow : Option Addr} {sl_NoRow : Array (Option Value)} {oc_NoRow kV_NoRow dc_NoRow pm_NoRow cd_NoRow ct_NoRow : Value} {nm_NoRow q_NoRow : Str} {N_NoRow : Addr} {bs_NoRow sub_NoRow : List Value} {sn_NoRow : List Str} {ab_NoRow : Bool} {col_NoRow : Option Bool} {dd_NoRow : Option Addr} {m0_NoRow m1_NoRow m2_NoRow m3_NoRow m5_NoRow : Option Value}
    (xl_NoRow : K.lookup C_NoRow = some (excClassObj nm_NoRow q_NoRow C_NoRow N_NoRow bs_NoRow [.ref C_DropError, .type "ValueError", .type "Exception", .type "BaseException", .type "object"] true sn_NoRow sub_NoRow ab_NoRow col_NoRow dd_NoRow m0_NoRow m1_NoRow m2_NoRow m3_NoRow m5_NoRow "ValueError.__new__"))
    (sa_NoRow : PySem.W.findIn K (.ref C_NoRow) "__setattr__" = some (some (.builtin "object.__setattr__"))) (ga_NoRow : PySem.W.findIn K (.ref C_NoRow) "__getattribute__" = some (some (.builtin "BaseException.__getattribute__"))) (gg_NoRow : PySem.W.findIn K (.ref C_NoRow) "__getattr__" = some none) (kc_NoRow : PySem.W.keepIn K (.ref C_NoRow) = true) (hd_NoRow : PySem.W.hasDictIn K C_NoRow = true) (cl_NoRow : PySem.W.findIn K (.ref C_NoRow) "__class__" = some (some (.builtin "object.__class__"))) (mo_NoRow : PySem.W.mroIn K C_NoRow (.type "object") = some true) (sv_NoRow : PySem.W.subIn K (.ref C_NoRow) (.type "ValueError") = some true) (ss_NoRow : PySem.W.subIn K (.ref C_NoRow) (.ref C_NoRow) = some true)
    (ai_NoRow : PySem.W.findIn K (.ref C_NoRow) "__init__" = some (some (.ref f_NoRow))) (ti_NoRow : PySem.W.typeIn K (.ref f_NoRow) = some (.type "function")) (li_NoRow : K.lookup f_NoRow = some ⟨oc_NoRow, od_NoRow, .func (PySem.W.fnOf "__init__" "NoRow.__init__" (defArgs s_NoRow) (defBody s_NoRow) (defScope s_NoRow) .none kV_NoRow dc_NoRow pm_NoRow an_NoRow cd_NoRow ct_NoRow), sl_NoRow⟩) (ci_NoRow : PySem.W.codeIn K cd_NoRow "NoRow.__init__" = true) (ki_NoRow : PySem.W.keepIn K (.ref f_NoRow) = true)
    (n1_NoRow : PySem.W.findIn K (.ref C_NoRow) "text" = some none)
    (is_NoRow_DropError : PySem.W.subIn K (.ref C_NoRow) (.ref C_DropError) = some true)
    (is_NoRow_NoAsk : PySem.W.subIn K (.ref C_NoRow) (.ref C_NoAsk) = some false)
    (is_NoRow_NoFault : PySem.W.subIn K (.ref C_NoRow) (.ref C_NoFault) = some false)
    (is_NoRow_NoJoin : PySem.W.subIn K (.ref C_NoRow) (.ref C_NoJoin) = some false)
    (is_NoRow_NoLines : PySem.W.subIn K (.ref C_NoRow) (.ref C_NoLines) = some false)
    (is_NoRow_NoPaper : PySem.W.subIn K (.ref C_NoRow) (.ref C_NoPaper) = some false)
    (is_NoRow_NoPot : PySem.W.subIn K (.ref C_NoRow) (.ref C_NoPot) = some false)
    (is_NoRow_NoStep : PySem.W.subIn K (.ref C_NoRow) (.ref C_NoStep) = some false)
    {f_NoStep : Addr} {od_NoStep an_NoStep : Option Addr} {sl_NoStep : Array (Option Value)} {oc_NoStep kV_NoStep dc_NoStep pm_NoStep cd_NoStep ct_NoStep : Value} {nm_NoStep q_NoStep : Str} {N_NoStep : Addr} {bs_NoStep sub_NoStep : List Value} {sn_NoStep : List Str} {ab_NoStep : Bool} {col_NoStep : Option Bool} {dd_NoStep : Option Addr} {m0_NoStep m1_NoStep m2_NoStep m3_NoStep m5_NoStep : Option Value}
    (xl_NoStep : K.lookup C_NoStep = some (excClassObj nm_NoStep q_NoStep C_NoStep N_NoStep bs_NoStep [.ref C_DropError, .type "ValueError", .type "Exception", .type "BaseException", .type "object"] true sn_NoStep sub_NoStep ab_NoStep col_NoStep dd_NoStep m0_NoStep m1_NoStep m2_NoStep m3_NoStep m5_NoStep "ValueError.__new__"))
    (sa_NoStep : PySem.W.findIn K (.ref C_NoStep) "__setattr__" = some (some (.builtin "object.__setattr__"))) (ga_NoStep : PySem.W.findIn K (.ref C_NoStep) "__getattribute__" = some (some (.builtin "BaseException.__getattribute__"))) (gg_NoStep : PySem.W.findIn K (.ref C_NoStep) "__getattr__" = some none) (kc_NoStep : PySem.W.keepIn K (.ref C_NoStep) = true) (hd_NoStep : PySem.W.hasDictIn K C_NoStep = true) (cl_NoStep : PySem.W.findIn K (.ref C_NoStep) "__class__" = some (some (.builtin "object.__class__"))) (mo_NoStep : PySem.W.mroIn K C_NoStep (.type "object") = some true) (sv_NoStep : PySem.W.subIn K (.ref C_NoStep) (.type "ValueError") = some true) (ss_NoStep : PySem.W.subIn K (.ref C_NoStep) (.ref C_NoStep) = some true)
    (ai_NoStep : PySem.W.findIn K (.ref C_NoStep) "__init__" = some (some (.ref f_NoStep))) (ti_NoStep : PySem.W.typeIn K (.ref f_NoStep) = some (.type "function")) (li_NoStep : K.lookup f_NoStep = some ⟨oc_NoStep, od_NoStep, .func (PySem.W.fnOf "__init__" "NoStep.__init__" (defArgs s_NoStep) (defBody s_NoStep) (defScope s_NoStep) .none kV_NoStep dc_NoStep pm_NoStep an_NoStep cd_NoStep ct_NoStep), sl_NoStep⟩) (ci_NoStep : PySem.W.codeIn K cd_NoStep "NoStep.__init__" = true) (ki_NoStep : PySem.W.keepIn K (.ref f_NoStep) = true)
    (n1_NoStep : PySem.W.findIn K (.ref C_NoStep) "place" = some none)
    (is_NoStep_DropError : PySem.W.subIn K (.ref C_NoStep) (.ref C_DropError) = some true)
    (is_NoStep_NoAsk : PySem.W.subIn K (.ref C_NoStep) (.ref C_NoAsk) = some false)
    (is_NoStep_NoFault : PySem.W.subIn K (.ref C_NoStep) (.ref C_NoFault) = some false)
    (is_NoStep_NoJoin : PySem.W.subIn K (.ref C_NoStep) (.ref C_NoJoin) = some false)
    (is_NoStep_NoLines : PySem.W.subIn K (.ref C_NoStep) (.ref C_NoLines) = some false)
    (is_NoStep_NoPaper : PySem.W.subIn K (.ref C_NoStep) (.ref C_NoPaper) = some false)
    (is_NoStep_NoPot : PySem.W.subIn K (.ref C_NoStep) (.ref C_NoPot) = some false)
    (is_NoStep_NoRow : PySem.W.subIn K (.ref C_NoStep) (.ref C_NoRow) = some false)
    {nm_DropError q_DropError : Str} {N_DropError : Addr} {bs_DropError sub_DropError : List Value} {ct_DropError ab_DropError : Bool} {sn_DropError : List Str} {col_DropError : Option Bool} {dd_DropError d0_DropError : Option Addr} {m0_DropError m1_DropError m2_DropError m3_DropError m5_DropError : Option Value} {c0_DropError : Value} {es_DropError : Array DictEntry} {en_DropError : Nat} {el_DropError : Array (Option Value)} (xl_DropError : K.lookup C_DropError = some (excClassObj nm_DropError q_DropError C_DropError N_DropError bs_DropError [.type "ValueError", .type "Exception", .type "BaseException", .type "object"] ct_DropError sn_DropError sub_DropError ab_DropError col_DropError dd_DropError m0_DropError m1_DropError m2_DropError m3_DropError m5_DropError "ValueError.__new__")) (ln_DropError : K.lookup N_DropError = some ⟨c0_DropError, d0_DropError, .dict es_DropError en_DropError, el_DropError⟩) (no_DropError : (es_DropError.all fun e => match e.key with | .str _ _ => true | _ => false) = true) (ni_DropError : PySem.W.nsIn K N_DropError "__init__" = some none) (ga_DropError : PySem.W.findIn K (.ref C_DropError) "__getattribute__" = some (some (.builtin "BaseException.__getattribute__"))) (gg_DropError : PySem.W.findIn K (.ref C_DropError) "__getattr__" = some none) (kc_DropError : PySem.W.keepIn K (.ref C_DropError) = true) (hd_DropError : PySem.W.hasDictIn K C_DropError = true) (cl_DropError : PySem.W.findIn K (.ref C_DropError) "__class__" = some (some (.builtin "object.__class__"))) (mo_DropError : PySem.W.mroIn K C_DropError (.type "object") = some true) (sv_DropError : PySem.W.subIn K (.ref C_DropError) (.type "ValueError") = some true) (ss_DropError : PySem.W.subIn K (.ref C_DropError) (.ref C_DropError) = some true)
    (is_DropError_NoAsk : PySem.W.subIn K (.ref C_DropError) (.ref C_NoAsk) = some false)
    (is_DropError_NoFault : PySem.W.subIn K (.ref C_DropError) (.ref C_NoFault) = some false)
    (is_DropError_NoJoin : PySem.W.subIn K (.ref C_DropError) (.ref C_NoJoin) = some false)
    (is_DropError_NoLines : PySem.W.subIn K (.ref C_DropError) (.ref C_NoLines) = some false)
    (is_DropError_NoPaper : PySem.W.subIn K (.ref C_DropError) (.ref C_NoPaper) = some false)
    (is_DropError_NoPot : PySem.W.subIn K (.ref C_DropError) (.ref C_NoPot) = some false)
    (is_DropError_NoRow : PySem.W.subIn K (.ref C_DropError) (.ref C_NoRow) = some false)
    (is_DropError_NoStep : PySem.W.subIn K (.ref C_DropError) (.ref C_NoStep) = some false)
    : ∃ fd : FuncData, (∀ (s : Shared) (v : Value), BindsTo s fd ⟨[v], []⟩ [("_law_script", v)]) ∧ ∀ base : Heap, K.In base → base.Ns mainGlobals mg → FG PySem.Challenge.rw_dropsums_k18_refusals_apart.prog w K mg base 5 fa fd ["_law_script"] lawD := by
  have e := hfa.symm.trans (PySem.W.mg_of X G a7)
  cases e
  letI clsI : Cls := ⟨fun n => match mg n with | some (.ref a) => a | _ => 0⟩
  have F1 := fun_mk (st := s_law_feed) l1 c1 k1
  have D1 : DefAt K mg "_law_feed" s_law_feed ["_law_script", "_law_k"] := ⟨_, _, F1, F1.binds fun _ _ _ _ _ _ us hl => match us, hl with | [_, _], _ => rfl, PySem.W.mg_of X G a1⟩
  have F2 := fun_mk (st := s_law_draw) l2 c2 k2
  have D2 : DefAt K mg "_law_draw" s_law_draw ["_law_feed_here", "_law_many"] := ⟨_, _, F2, F2.binds fun _ _ _ _ _ _ us hl => match us, hl with | [_, _], _ => rfl, PySem.W.mg_of X G a2⟩
  have F3 := fun_mk (st := s_law_raise_lines) l3 c3 k3
  have D3 : DefAt K mg "_law_raise_lines" s_law_raise_lines ["_law_number", "_law_some"] := ⟨_, _, F3, F3.binds fun _ _ _ _ _ _ us hl => match us, hl with | [_, _], _ => rfl, PySem.W.mg_of X G a3⟩
  have F4 := fun_mk (st := s_law_raise) l4 c4 k4
  have D4 : DefAt K mg "_law_raise" s_law_raise ["_law_number", "_law_some"] := ⟨_, _, F4, F4.binds fun _ _ _ _ _ _ us hl => match us, hl with | [_, _], _ => rfl, PySem.W.mg_of X G a4⟩
  have F5 := fun_mk (st := s_law_kinds) l5 c5 k5
  have D5 : DefAt K mg "_law_kinds" s_law_kinds ["_law_e"] := ⟨_, _, F5, F5.binds fun _ _ _ _ _ _ us hl => match us, hl with | [_], _ => rfl, PySem.W.mg_of X G a5⟩
  have F6 := fun_mk (st := s_law_fields) l6 c6 k6
  have D6 : DefAt K mg "_law_fields" s_law_fields ["_law_e", "_law_number"] := ⟨_, _, F6, F6.binds fun _ _ _ _ _ _ us hl => match us, hl with | [_, _], _ => rfl, PySem.W.mg_of X G a6⟩
  have F7 := fun_mk (st := s_law) l7 c7 k7
  have D7 : DefAt K mg "law" s_law ["_law_script"] := ⟨_, _, F7, F7.binds fun _ _ _ _ _ _ us hl => match us, hl with | [_], _ => rfl, PySem.W.mg_of X G a7⟩
  have Z : BI mg bins := by
    intro x hx
    simp only [bins, List.mem_cons, List.not_mem_nil, or_false] at hx
    rcases hx with rfl | rfl | rfl | rfl | rfl
    · exact PySem.W.mg_none_of X G z1
    · exact PySem.W.mg_none_of X G z2
    · exact PySem.W.mg_none_of X G z3
    · exact PySem.W.mg_none_of X G z4
    · exact PySem.W.mg_none_of X G z5
  refine ⟨PySem.W.fnOf "law" "law" (defArgs s_law) (defBody s_law) (defScope s_law) .none kV7 dc7 pm7 an7 cd7 ct7, fun s v => .of_eq rfl, fun base _ _ => ?_⟩
  have g_DropError := PySem.W.mg_of X G ac_DropError
  have e_DropError : Cls.adr "DropError" = C_DropError := by
    show (match mg "DropError" with | some (.ref a) => a | _ => 0) = C_DropError
    rw [g_DropError]
  have g_NoAsk := PySem.W.mg_of X G ac_NoAsk
  have e_NoAsk : Cls.adr "NoAsk" = C_NoAsk := by
    show (match mg "NoAsk" with | some (.ref a) => a | _ => 0) = C_NoAsk
    rw [g_NoAsk]
  have g_NoFault := PySem.W.mg_of X G ac_NoFault
  have e_NoFault : Cls.adr "NoFault" = C_NoFault := by
    show (match mg "NoFault" with | some (.ref a) => a | _ => 0) = C_NoFault
    rw [g_NoFault]
  have g_NoJoin := PySem.W.mg_of X G ac_NoJoin
  have e_NoJoin : Cls.adr "NoJoin" = C_NoJoin := by
    show (match mg "NoJoin" with | some (.ref a) => a | _ => 0) = C_NoJoin
    rw [g_NoJoin]
  have g_NoLines := PySem.W.mg_of X G ac_NoLines
  have e_NoLines : Cls.adr "NoLines" = C_NoLines := by
    show (match mg "NoLines" with | some (.ref a) => a | _ => 0) = C_NoLines
    rw [g_NoLines]
  have g_NoPaper := PySem.W.mg_of X G ac_NoPaper
  have e_NoPaper : Cls.adr "NoPaper" = C_NoPaper := by
    show (match mg "NoPaper" with | some (.ref a) => a | _ => 0) = C_NoPaper
    rw [g_NoPaper]
  have g_NoPot := PySem.W.mg_of X G ac_NoPot
  have e_NoPot : Cls.adr "NoPot" = C_NoPot := by
    show (match mg "NoPot" with | some (.ref a) => a | _ => 0) = C_NoPot
    rw [g_NoPot]
  have g_NoRow := PySem.W.mg_of X G ac_NoRow
  have e_NoRow : Cls.adr "NoRow" = C_NoRow := by
    show (match mg "NoRow" with | some (.ref a) => a | _ => 0) = C_NoRow
    rw [g_NoRow]
  have g_NoStep := PySem.W.mg_of X G ac_NoStep
  have e_NoStep : Cls.adr "NoStep" = C_NoStep := by
    show (match mg "NoStep" with | some (.ref a) => a | _ => 0) = C_NoStep
    rw [g_NoStep]
  have dcr : ClX.CRead K C_DropError (.type "type") := ⟨dr, dg⟩
  have oe_NoAsk : OexC K C_NoAsk := ⟨⟨_, _, _, _, _, _, _, _, _, _, _, _, _, _, _, xl_NoAsk, rfl⟩, sa_NoAsk, bc_NoAsk, tc_NoAsk, kc_NoAsk⟩
  have FI_NoAsk := fun_mk (st := s_NoAsk) li_NoAsk ci_NoAsk ki_NoAsk
  have EA_NoAsk : ErrAt PySem.Challenge.rw_dropsums_k18_refusals_apart.prog w K mg base "NoAsk" C_NoAsk ["word"] := ⟨g_NoAsk, oe_NoAsk, _, _, ai_NoAsk, ti_NoAsk, (x_NoAsk FI_NoAsk oe_NoAsk n1_NoAsk g_DropError dcr dv).1, FI_NoAsk.binds fun _ _ _ _ _ _ us hl => (match us, hl with | [_, _], _ => rfl), (x_NoAsk FI_NoAsk oe_NoAsk n1_NoAsk g_DropError dcr dv).2⟩
  have oe_NoFault : OexC K C_NoFault := ⟨⟨_, _, _, _, _, _, _, _, _, _, _, _, _, _, _, xl_NoFault, rfl⟩, sa_NoFault, bc_NoFault, tc_NoFault, kc_NoFault⟩
  have FI_NoFault := fun_mk (st := s_NoFault) li_NoFault ci_NoFault ki_NoFault
  have EA_NoFault : ErrAt PySem.Challenge.rw_dropsums_k18_refusals_apart.prog w K mg base "NoFault" C_NoFault ["word", "at"] := ⟨g_NoFault, oe_NoFault, _, _, ai_NoFault, ti_NoFault, (x_NoFault FI_NoFault oe_NoFault n1_NoFault n2_NoFault g_DropError dcr dv).1, FI_NoFault.binds fun _ _ _ _ _ _ us hl => (match us, hl with | [_, _, _], _ => rfl), (x_NoFault FI_NoFault oe_NoFault n1_NoFault n2_NoFault g_DropError dcr dv).2⟩
  have oe_NoJoin : OexC K C_NoJoin := ⟨⟨_, _, _, _, _, _, _, _, _, _, _, _, _, _, _, xl_NoJoin, rfl⟩, sa_NoJoin, bc_NoJoin, tc_NoJoin, kc_NoJoin⟩
  have FI_NoJoin := fun_mk (st := s_NoJoin) li_NoJoin ci_NoJoin ki_NoJoin
  have EA_NoJoin : ErrAt PySem.Challenge.rw_dropsums_k18_refusals_apart.prog w K mg base "NoJoin" C_NoJoin ["word", "at"] := ⟨g_NoJoin, oe_NoJoin, _, _, ai_NoJoin, ti_NoJoin, (x_NoJoin FI_NoJoin oe_NoJoin n1_NoJoin n2_NoJoin g_DropError dcr dv).1, FI_NoJoin.binds fun _ _ _ _ _ _ us hl => (match us, hl with | [_, _, _], _ => rfl), (x_NoJoin FI_NoJoin oe_NoJoin n1_NoJoin n2_NoJoin g_DropError dcr dv).2⟩
  have oe_NoLines : OexC K C_NoLines := ⟨⟨_, _, _, _, _, _, _, _, _, _, _, _, _, _, _, xl_NoLines, rfl⟩, sa_NoLines, bc_NoLines, tc_NoLines, kc_NoLines⟩
  have FI_NoLines := fun_mk (st := s_NoLines) li_NoLines ci_NoLines ki_NoLines
  have EA_NoLines : ErrAt PySem.Challenge.rw_dropsums_k18_refusals_apart.prog w K mg base "NoLines" C_NoLines ["line"] := ⟨g_NoLines, oe_NoLines, _, _, ai_NoLines, ti_NoLines, (x_NoLines FI_NoLines oe_NoLines n1_NoLines g_DropError dcr dv).1, FI_NoLines.binds fun _ _ _ _ _ _ us hl => (match us, hl with | [_, _], _ => rfl), (x_NoLines FI_NoLines oe_NoLines n1_NoLines g_DropError dcr dv).2⟩
  have oe_NoPaper : OexC K C_NoPaper := ⟨⟨_, _, _, _, _, _, _, _, _, _, _, _, _, _, _, xl_NoPaper, rfl⟩, sa_NoPaper, bc_NoPaper, tc_NoPaper, kc_NoPaper⟩
  have FI_NoPaper := fun_mk (st := s_NoPaper) li_NoPaper ci_NoPaper ki_NoPaper
  have EA_NoPaper : ErrAt PySem.Challenge.rw_dropsums_k18_refusals_apart.prog w K mg base "NoPaper" C_NoPaper ["word", "at"] := ⟨g_NoPaper, oe_NoPaper, _, _, ai_NoPaper, ti_NoPaper, (x_NoPaper FI_NoPaper oe_NoPaper n1_NoPaper n2_NoPaper g_DropError dcr dv).1, FI_NoPaper.binds fun _ _ _ _ _ _ us hl => (match us, hl with | [_, _, _], _ => rfl), (x_NoPaper FI_NoPaper oe_NoPaper n1_NoPaper n2_NoPaper g_DropError dcr dv).2⟩
  have oe_NoPot : OexC K C_NoPot := ⟨⟨_, _, _, _, _, _, _, _, _, _, _, _, _, _, _, xl_NoPot, rfl⟩, sa_NoPot, bc_NoPot, tc_NoPot, kc_NoPot⟩
  have FI_NoPot := fun_mk (st := s_NoPot) li_NoPot ci_NoPot ki_NoPot
  have EA_NoPot : ErrAt PySem.Challenge.rw_dropsums_k18_refusals_apart.prog w K mg base "NoPot" C_NoPot ["line", "word"] := ⟨g_NoPot, oe_NoPot, _, _, ai_NoPot, ti_NoPot, (x_NoPot FI_NoPot oe_NoPot n1_NoPot n2_NoPot g_DropError dcr dv).1, FI_NoPot.binds fun _ _ _ _ _ _ us hl => (match us, hl with | [_, _, _], _ => rfl), (x_NoPot FI_NoPot oe_NoPot n1_NoPot n2_NoPot g_DropError dcr dv).2⟩
  have oe_NoRow : OexC K C_NoRow := ⟨⟨_, _, _, _, _, _, _, _, _, _, _, _, _, _, _, xl_NoRow, rfl⟩, sa_NoRow, bc_NoRow, tc_NoRow, kc_NoRow⟩
  have FI_NoRow := fun_mk (st := s_NoRow) li_NoRow ci_NoRow ki_NoRow
  have EA_NoRow : ErrAt PySem.Challenge.rw_dropsums_k18_refusals_apart.prog w K mg base "NoRow" C_NoRow ["text"] := ⟨g_NoRow, oe_NoRow, _, _, ai_NoRow, ti_NoRow, (x_NoRow FI_NoRow oe_NoRow n1_NoRow g_DropError dcr dv).1, FI_NoRow.binds fun _ _ _ _ _ _ us hl => (match us, hl with | [_, _], _ => rfl), (x_NoRow FI_NoRow oe_NoRow n1_NoRow g_DropError dcr dv).2⟩
  have oe_NoStep : OexC K C_NoStep := ⟨⟨_, _, _, _, _, _, _, _, _, _, _, _, _, _, _, xl_NoStep, rfl⟩, sa_NoStep, bc_NoStep, tc_NoStep, kc_NoStep⟩
  have FI_NoStep := fun_mk (st := s_NoStep) li_NoStep ci_NoStep ki_NoStep
  have EA_NoStep : ErrAt PySem.Challenge.rw_dropsums_k18_refusals_apart.prog w K mg base "NoStep" C_NoStep ["place"] := ⟨g_NoStep, oe_NoStep, _, _, ai_NoStep, ti_NoStep, (x_NoStep FI_NoStep oe_NoStep n1_NoStep g_DropError dcr dv).1, FI_NoStep.binds fun _ _ _ _ _ _ us hl => (match us, hl with | [_, _], _ => rfl), (x_NoStep FI_NoStep oe_NoStep n1_NoStep g_DropError dcr dv).2⟩
  have EF : Errs PySem.Challenge.rw_dropsums_k18_refusals_apart.prog w K mg base errRows errT := by
    refine ⟨?_, ?_, ?_, ?_, ?_, ?_⟩
    · intro r hr
      simp only [errRows, List.mem_cons, List.not_mem_nil, or_false] at hr
      rcases hr with rfl | rfl | rfl | rfl | rfl | rfl | rfl | rfl | rfl
      · intro _; show ErrAt _ _ _ _ _ "NoAsk" (Cls.adr "NoAsk") ["word"]; rw [e_NoAsk]; exact EA_NoAsk
      · intro _; show ErrAt _ _ _ _ _ "NoFault" (Cls.adr "NoFault") ["word", "at"]; rw [e_NoFault]; exact EA_NoFault
      · intro _; show ErrAt _ _ _ _ _ "NoJoin" (Cls.adr "NoJoin") ["word", "at"]; rw [e_NoJoin]; exact EA_NoJoin
      · intro _; show ErrAt _ _ _ _ _ "NoLines" (Cls.adr "NoLines") ["line"]; rw [e_NoLines]; exact EA_NoLines
      · intro _; show ErrAt _ _ _ _ _ "NoPaper" (Cls.adr "NoPaper") ["word", "at"]; rw [e_NoPaper]; exact EA_NoPaper
      · intro _; show ErrAt _ _ _ _ _ "NoPot" (Cls.adr "NoPot") ["line", "word"]; rw [e_NoPot]; exact EA_NoPot
      · intro _; show ErrAt _ _ _ _ _ "NoRow" (Cls.adr "NoRow") ["text"]; rw [e_NoRow]; exact EA_NoRow
      · intro _; show ErrAt _ _ _ _ _ "NoStep" (Cls.adr "NoStep") ["place"]; rw [e_NoStep]; exact EA_NoStep
      · intro h; exact absurd rfl h
    · intro r hr
      simp only [errRows, List.mem_cons, List.not_mem_nil, or_false] at hr
      rcases hr with rfl | rfl | rfl | rfl | rfl | rfl | rfl | rfl | rfl
      · intro h; exact absurd h (List.cons_ne_nil _ _)
      · intro h; exact absurd h (List.cons_ne_nil _ _)
      · intro h; exact absurd h (List.cons_ne_nil _ _)
      · intro h; exact absurd h (List.cons_ne_nil _ _)
      · intro h; exact absurd h (List.cons_ne_nil _ _)
      · intro h; exact absurd h (List.cons_ne_nil _ _)
      · intro h; exact absurd h (List.cons_ne_nil _ _)
      · intro h; exact absurd h (List.cons_ne_nil _ _)
      · intro _; show Err0At _ _ "DropError" (Cls.adr "DropError"); rw [e_DropError]; exact ⟨g_DropError, exc_in xl_DropError ln_DropError no_DropError ni_DropError, kc_DropError, bc_DropError, tc_DropError⟩
    · intro r hr
      simp only [errRows, List.mem_cons, List.not_mem_nil, or_false] at hr
      rcases hr with rfl | rfl | rfl | rfl | rfl | rfl | rfl | rfl | rfl
      · show ExcC K (Cls.adr "NoAsk") ∧ XfC K (Cls.adr "NoAsk"); rw [e_NoAsk]; exact ⟨⟨ga_NoAsk, gg_NoAsk, bc_NoAsk, hd_NoAsk, cl_NoAsk, og, ot, mo_NoAsk⟩, ⟨ga_NoAsk, gg_NoAsk, bc_NoAsk, hd_NoAsk⟩⟩
      · show ExcC K (Cls.adr "NoFault") ∧ XfC K (Cls.adr "NoFault"); rw [e_NoFault]; exact ⟨⟨ga_NoFault, gg_NoFault, bc_NoFault, hd_NoFault, cl_NoFault, og, ot, mo_NoFault⟩, ⟨ga_NoFault, gg_NoFault, bc_NoFault, hd_NoFault⟩⟩
      · show ExcC K (Cls.adr "NoJoin") ∧ XfC K (Cls.adr "NoJoin"); rw [e_NoJoin]; exact ⟨⟨ga_NoJoin, gg_NoJoin, bc_NoJoin, hd_NoJoin, cl_NoJoin, og, ot, mo_NoJoin⟩, ⟨ga_NoJoin, gg_NoJoin, bc_NoJoin, hd_NoJoin⟩⟩
      · show ExcC K (Cls.adr "NoLines") ∧ XfC K (Cls.adr "NoLines"); rw [e_NoLines]; exact ⟨⟨ga_NoLines, gg_NoLines, bc_NoLines, hd_NoLines, cl_NoLines, og, ot, mo_NoLines⟩, ⟨ga_NoLines, gg_NoLines, bc_NoLines, hd_NoLines⟩⟩
      · show ExcC K (Cls.adr "NoPaper") ∧ XfC K (Cls.adr "NoPaper"); rw [e_NoPaper]; exact ⟨⟨ga_NoPaper, gg_NoPaper, bc_NoPaper, hd_NoPaper, cl_NoPaper, og, ot, mo_NoPaper⟩, ⟨ga_NoPaper, gg_NoPaper, bc_NoPaper, hd_NoPaper⟩⟩
      · show ExcC K (Cls.adr "NoPot") ∧ XfC K (Cls.adr "NoPot"); rw [e_NoPot]; exact ⟨⟨ga_NoPot, gg_NoPot, bc_NoPot, hd_NoPot, cl_NoPot, og, ot, mo_NoPot⟩, ⟨ga_NoPot, gg_NoPot, bc_NoPot, hd_NoPot⟩⟩
      · show ExcC K (Cls.adr "NoRow") ∧ XfC K (Cls.adr "NoRow"); rw [e_NoRow]; exact ⟨⟨ga_NoRow, gg_NoRow, bc_NoRow, hd_NoRow, cl_NoRow, og, ot, mo_NoRow⟩, ⟨ga_NoRow, gg_NoRow, bc_NoRow, hd_NoRow⟩⟩
      · show ExcC K (Cls.adr "NoStep") ∧ XfC K (Cls.adr "NoStep"); rw [e_NoStep]; exact ⟨⟨ga_NoStep, gg_NoStep, bc_NoStep, hd_NoStep, cl_NoStep, og, ot, mo_NoStep⟩, ⟨ga_NoStep, gg_NoStep, bc_NoStep, hd_NoStep⟩⟩
      · show ExcC K (Cls.adr "DropError") ∧ XfC K (Cls.adr "DropError"); rw [e_DropError]; exact ⟨⟨ga_DropError, gg_DropError, bc_DropError, hd_DropError, cl_DropError, og, ot, mo_DropError⟩, ⟨ga_DropError, gg_DropError, bc_DropError, hd_DropError⟩⟩
    · intro r hr
      simp only [errRows, List.mem_cons, List.not_mem_nil, or_false] at hr
      rcases hr with rfl | rfl | rfl | rfl | rfl | rfl | rfl | rfl | rfl
      · intro f hf
        show PySem.W.findIn K (.ref (Cls.adr "NoAsk")) f = some none
        rw [e_NoAsk]
        have hf : f ∈ (["word"] : List Str) := hf
        simp only [List.mem_cons, List.not_mem_nil, or_false] at hf
        subst hf
        exact n1_NoAsk
      · intro f hf
        show PySem.W.findIn K (.ref (Cls.adr "NoFault")) f = some none
        rw [e_NoFault]
        have hf : f ∈ (["word", "at"] : List Str) := hf
        simp only [List.mem_cons, List.not_mem_nil, or_false] at hf
        rcases hf with rfl | rfl
        · exact n1_NoFault
        · exact n2_NoFault
      · intro f hf
        show PySem.W.findIn K (.ref (Cls.adr "NoJoin")) f = some none
        rw [e_NoJoin]
        have hf : f ∈ (["word", "at"] : List Str) := hf
        simp only [List.mem_cons, List.not_mem_nil, or_false] at hf
        rcases hf with rfl | rfl
        · exact n1_NoJoin
        · exact n2_NoJoin
      · intro f hf
        show PySem.W.findIn K (.ref (Cls.adr "NoLines")) f = some none
        rw [e_NoLines]
        have hf : f ∈ (["line"] : List Str) := hf
        simp only [List.mem_cons, List.not_mem_nil, or_false] at hf
        subst hf
        exact n1_NoLines
      · intro f hf
        show PySem.W.findIn K (.ref (Cls.adr "NoPaper")) f = some none
        rw [e_NoPaper]
        have hf : f ∈ (["word", "at"] : List Str) := hf
        simp only [List.mem_cons, List.not_mem_nil, or_false] at hf
        rcases hf with rfl | rfl
        · exact n1_NoPaper
        · exact n2_NoPaper
      · intro f hf
        show PySem.W.findIn K (.ref (Cls.adr "NoPot")) f = some none
        rw [e_NoPot]
        have hf : f ∈ (["line", "word"] : List Str) := hf
        simp only [List.mem_cons, List.not_mem_nil, or_false] at hf
        rcases hf with rfl | rfl
        · exact n1_NoPot
        · exact n2_NoPot
      · intro f hf
        show PySem.W.findIn K (.ref (Cls.adr "NoRow")) f = some none
        rw [e_NoRow]
        have hf : f ∈ (["text"] : List Str) := hf
        simp only [List.mem_cons, List.not_mem_nil, or_false] at hf
        subst hf
        exact n1_NoRow
      · intro f hf
        show PySem.W.findIn K (.ref (Cls.adr "NoStep")) f = some none
        rw [e_NoStep]
        have hf : f ∈ (["place"] : List Str) := hf
        simp only [List.mem_cons, List.not_mem_nil, or_false] at hf
        subst hf
        exact n1_NoStep
      · intro f hf; cases hf
    · intro r hr
      simp only [errRows, List.mem_cons, List.not_mem_nil, or_false] at hr
      rcases hr with rfl | rfl | rfl | rfl | rfl | rfl | rfl | rfl | rfl
      · intro t ht
        show PySem.W.kitOne K (.ref (Cls.adr "NoAsk")) (clsU t) = some (subB "NoAsk" t) ∧ PySem.W.exmOne K (.ref (Cls.adr "NoAsk")) (clsU t) = some (subB "NoAsk" t)
        rw [e_NoAsk]
        simp only [errT, List.mem_cons, List.not_mem_nil, or_false] at ht
        rcases ht with rfl | rfl | rfl | rfl | rfl | rfl | rfl | rfl | rfl | rfl
        · rw [show clsU "DropError" = .ref (Cls.adr "DropError") from if_neg (by decide +kernel), e_DropError, show subB "NoAsk" "DropError" = true by decide +kernel]; exact ⟨kit_own ic_DropError tc_DropError ss_NoAsk is_NoAsk_DropError, exm_own ic_DropError tc_DropError bc_DropError is_NoAsk_DropError⟩
        · rw [show clsU "NoAsk" = .ref (Cls.adr "NoAsk") from if_neg (by decide +kernel), e_NoAsk, show subB "NoAsk" "NoAsk" = true by decide +kernel]; exact ⟨kit_own ic_NoAsk tc_NoAsk ss_NoAsk ss_NoAsk, exm_own ic_NoAsk tc_NoAsk bc_NoAsk ss_NoAsk⟩
        · rw [show clsU "NoFault" = .ref (Cls.adr "NoFault") from if_neg (by decide +kernel), e_NoFault, show subB "NoAsk" "NoFault" = false by decide +kernel]; exact ⟨kit_own ic_NoFault tc_NoFault ss_NoAsk is_NoAsk_NoFault, exm_own ic_NoFault tc_NoFault bc_NoFault is_NoAsk_NoFault⟩
        · rw [show clsU "NoJoin" = .ref (Cls.adr "NoJoin") from if_neg (by decide +kernel), e_NoJoin, show subB "NoAsk" "NoJoin" = false by decide +kernel]; exact ⟨kit_own ic_NoJoin tc_NoJoin ss_NoAsk is_NoAsk_NoJoin, exm_own ic_NoJoin tc_NoJoin bc_NoJoin is_NoAsk_NoJoin⟩
        · rw [show clsU "NoLines" = .ref (Cls.adr "NoLines") from if_neg (by decide +kernel), e_NoLines, show subB "NoAsk" "NoLines" = false by decide +kernel]; exact ⟨kit_own ic_NoLines tc_NoLines ss_NoAsk is_NoAsk_NoLines, exm_own ic_NoLines tc_NoLines bc_NoLines is_NoAsk_NoLines⟩
        · rw [show clsU "NoPaper" = .ref (Cls.adr "NoPaper") from if_neg (by decide +kernel), e_NoPaper, show subB "NoAsk" "NoPaper" = false by decide +kernel]; exact ⟨kit_own ic_NoPaper tc_NoPaper ss_NoAsk is_NoAsk_NoPaper, exm_own ic_NoPaper tc_NoPaper bc_NoPaper is_NoAsk_NoPaper⟩
        · rw [show clsU "NoPot" = .ref (Cls.adr "NoPot") from if_neg (by decide +kernel), e_NoPot, show subB "NoAsk" "NoPot" = false by decide +kernel]; exact ⟨kit_own ic_NoPot tc_NoPot ss_NoAsk is_NoAsk_NoPot, exm_own ic_NoPot tc_NoPot bc_NoPot is_NoAsk_NoPot⟩
        · rw [show clsU "NoRow" = .ref (Cls.adr "NoRow") from if_neg (by decide +kernel), e_NoRow, show subB "NoAsk" "NoRow" = false by decide +kernel]; exact ⟨kit_own ic_NoRow tc_NoRow ss_NoAsk is_NoAsk_NoRow, exm_own ic_NoRow tc_NoRow bc_NoRow is_NoAsk_NoRow⟩
        · rw [show clsU "NoStep" = .ref (Cls.adr "NoStep") from if_neg (by decide +kernel), e_NoStep, show subB "NoAsk" "NoStep" = false by decide +kernel]; exact ⟨kit_own ic_NoStep tc_NoStep ss_NoAsk is_NoAsk_NoStep, exm_own ic_NoStep tc_NoStep bc_NoStep is_NoAsk_NoStep⟩
        · rw [show clsU "ValueError" = .type "ValueError" from if_pos rfl, show subB "NoAsk" "ValueError" = true by decide +kernel]; exact ⟨kit_ve sv_NoAsk, exm_ve sv_NoAsk⟩
      · intro t ht
        show PySem.W.kitOne K (.ref (Cls.adr "NoFault")) (clsU t) = some (subB "NoFault" t) ∧ PySem.W.exmOne K (.ref (Cls.adr "NoFault")) (clsU t) = some (subB "NoFault" t)
        rw [e_NoFault]
        simp only [errT, List.mem_cons, List.not_mem_nil, or_false] at ht
        rcases ht with rfl | rfl | rfl | rfl | rfl | rfl | rfl | rfl | rfl | rfl
        · rw [show clsU "DropError" = .ref (Cls.adr "DropError") from if_neg (by decide +kernel), e_DropError, show subB "NoFault" "DropError" = true by decide +kernel]; exact ⟨kit_own ic_DropError tc_DropError ss_NoFault is_NoFault_DropError, exm_own ic_DropError tc_DropError bc_DropError is_NoFault_DropError⟩
        · rw [show clsU "NoAsk" = .ref (Cls.adr "NoAsk") from if_neg (by decide +kernel), e_NoAsk, show subB "NoFault" "NoAsk" = false by decide +kernel]; exact ⟨kit_own ic_NoAsk tc_NoAsk ss_NoFault is_NoFault_NoAsk, exm_own ic_NoAsk tc_NoAsk bc_NoAsk is_NoFault_NoAsk⟩
        · rw [show clsU "NoFault" = .ref (Cls.adr "NoFault") from if_neg (by decide +kernel), e_NoFault, show subB "NoFault" "NoFault" = true by decide +kernel]; exact ⟨kit_own ic_NoFault tc_NoFault ss_NoFault ss_NoFault, exm_own ic_NoFault tc_NoFault bc_NoFault ss_NoFault⟩
        · rw [show clsU "NoJoin" = .ref (Cls.adr "NoJoin") from if_neg (by decide +kernel), e_NoJoin, show subB "NoFault" "NoJoin" = false by decide +kernel]; exact ⟨kit_own ic_NoJoin tc_NoJoin ss_NoFault is_NoFault_NoJoin, exm_own ic_NoJoin tc_NoJoin bc_NoJoin is_NoFault_NoJoin⟩
        · rw [show clsU "NoLines" = .ref (Cls.adr "NoLines") from if_neg (by decide +kernel), e_NoLines, show subB "NoFault" "NoLines" = false by decide +kernel]; exact ⟨kit_own ic_NoLines tc_NoLines ss_NoFault is_NoFault_NoLines, exm_own ic_NoLines tc_NoLines bc_NoLines is_NoFault_NoLines⟩
        · rw [show clsU "NoPaper" = .ref (Cls.adr "NoPaper") from if_neg (by decide +kernel), e_NoPaper, show subB "NoFault" "NoPaper" = false by decide +kernel]; exact ⟨kit_own ic_NoPaper tc_NoPaper ss_NoFault is_NoFault_NoPaper, exm_own ic_NoPaper tc_NoPaper bc_NoPaper is_NoFault_NoPaper⟩
        · rw [show clsU "NoPot" = .ref (Cls.adr "NoPot") from if_neg (by decide +kernel), e_NoPot, show subB "NoFault" "NoPot" = false by decide +kernel]; exact ⟨kit_own ic_NoPot tc_NoPot ss_NoFault is_NoFault_NoPot, exm_own ic_NoPot tc_NoPot bc_NoPot is_NoFault_NoPot⟩
        · rw [show clsU "NoRow" = .ref (Cls.adr "NoRow") from if_neg (by decide +kernel), e_NoRow, show subB "NoFault" "NoRow" = false by decide +kernel]; exact ⟨kit_own ic_NoRow tc_NoRow ss_NoFault is_NoFault_NoRow, exm_own ic_NoRow tc_NoRow bc_NoRow is_NoFault_NoRow⟩
        · rw [show clsU "NoStep" = .ref (Cls.adr "NoStep") from if_neg (by decide +kernel), e_NoStep, show subB "NoFault" "NoStep" = false by decide +kernel]; exact ⟨kit_own ic_NoStep tc_NoStep ss_NoFault is_NoFault_NoStep, exm_own ic_NoStep tc_NoStep bc_NoStep is_NoFault_NoStep⟩
        · rw [show clsU "ValueError" = .type "ValueError" from if_pos rfl, show subB "NoFault" "ValueError" = true by decide +kernel]; exact ⟨kit_ve sv_NoFault, exm_ve sv_NoFault⟩
      · intro t ht
        show PySem.W.kitOne K (.ref (Cls.adr "NoJoin")) (clsU t) = some (subB "NoJoin" t) ∧ PySem.W.exmOne K (.ref (Cls.adr "NoJoin")) (clsU t) = some (subB "NoJoin" t)
        rw [e_NoJoin]
        simp only [errT, List.mem_cons, List.not_mem_nil, or_false] at ht
        rcases ht with rfl | rfl | rfl | rfl | rfl | rfl | rfl | rfl | rfl | rfl
        · rw [show clsU "DropError" = .ref (Cls.adr "DropError") from if_neg (by decide +kernel), e_DropError, show subB "NoJoin" "DropError" = true by decide +kernel]; exact ⟨kit_own ic_DropError tc_DropError ss_NoJoin is_NoJoin_DropError, exm_own ic_DropError tc_DropError bc_DropError is_NoJoin_DropError⟩
        · rw [show clsU "NoAsk" = .ref (Cls.adr "NoAsk") from if_neg (by decide +kernel), e_NoAsk, show subB "NoJoin" "NoAsk" = false by decide +kernel]; exact ⟨kit_own ic_NoAsk tc_NoAsk ss_NoJoin is_NoJoin_NoAsk, exm_own ic_NoAsk tc_NoAsk bc_NoAsk is_NoJoin_NoAsk⟩
        · rw [show clsU "NoFault" = .ref (Cls.adr "NoFault") from if_neg (by decide +kernel), e_NoFault, show subB "NoJoin" "NoFault" = false by decide +kernel]; exact ⟨kit_own ic_NoFault tc_NoFault ss_NoJoin is_NoJoin_NoFault, exm_own ic_NoFault tc_NoFault bc_NoFault is_NoJoin_NoFault⟩
        · rw [show clsU "NoJoin" = .ref (Cls.adr "NoJoin") from if_neg (by decide +kernel), e_NoJoin, show subB "NoJoin" "NoJoin" = true by decide +kernel]; exact ⟨kit_own ic_NoJoin tc_NoJoin ss_NoJoin ss_NoJoin, exm_own ic_NoJoin tc_NoJoin bc_NoJoin ss_NoJoin⟩
        · rw [show clsU "NoLines" = .ref (Cls.adr "NoLines") from if_neg (by decide +kernel), e_NoLines, show subB "NoJoin" "NoLines" = false by decide +kernel]; exact ⟨kit_own ic_NoLines tc_NoLines ss_NoJoin is_NoJoin_NoLines, exm_own ic_NoLines tc_NoLines bc_NoLines is_NoJoin_NoLines⟩
        · rw [show clsU "NoPaper" = .ref (Cls.adr "NoPaper") from if_neg (by decide +kernel), e_NoPaper, show subB "NoJoin" "NoPaper" = false by decide +kernel]; exact ⟨kit_own ic_NoPaper tc_NoPaper ss_NoJoin is_NoJoin_NoPaper, exm_own ic_NoPaper tc_NoPaper bc_NoPaper is_NoJoin_NoPaper⟩
        · rw [show clsU "NoPot" = .ref (Cls.adr "NoPot") from if_neg (by decide +kernel), e_NoPot, show subB "NoJoin" "NoPot" = false by decide +kernel]; exact ⟨kit_own ic_NoPot tc_NoPot ss_NoJoin is_NoJoin_NoPot, exm_own ic_NoPot tc_NoPot bc_NoPot is_NoJoin_NoPot⟩
        · rw [show clsU "NoRow" = .ref (Cls.adr "NoRow") from if_neg (by decide +kernel), e_NoRow, show subB "NoJoin" "NoRow" = false by decide +kernel]; exact ⟨kit_own ic_NoRow tc_NoRow ss_NoJoin is_NoJoin_NoRow, exm_own ic_NoRow tc_NoRow bc_NoRow is_NoJoin_NoRow⟩
        · rw [show clsU "NoStep" = .ref (Cls.adr "NoStep") from if_neg (by decide +kernel), e_NoStep, show subB "NoJoin" "NoStep" = false by decide +kernel]; exact ⟨kit_own ic_NoStep tc_NoStep ss_NoJoin is_NoJoin_NoStep, exm_own ic_NoStep tc_NoStep bc_NoStep is_NoJoin_NoStep⟩
        · rw [show clsU "ValueError" = .type "ValueError" from if_pos rfl, show subB "NoJoin" "ValueError" = true by decide +kernel]; exact ⟨kit_ve sv_NoJoin, exm_ve sv_NoJoin⟩
      · intro t ht
        show PySem.W.kitOne K (.ref (Cls.adr "NoLines")) (clsU t) = some (subB "NoLines" t) ∧ PySem.W.exmOne K (.ref (Cls.adr "NoLines")) (clsU t) = some (subB "NoLines" t)
        rw [e_NoLines]
        simp only [errT, List.mem_cons, List.not_mem_nil, or_false] at ht
        rcases ht with rfl | rfl | rfl | rfl | rfl | rfl | rfl | rfl | rfl | rfl
        · rw [show clsU "DropError" = .ref (Cls.adr "DropError") from if_neg (by decide +kernel), e_DropError, show subB "NoLines" "DropError" = true by decide +kernel]; exact ⟨kit_own ic_DropError tc_DropError ss_NoLines is_NoLines_DropError, exm_own ic_DropError tc_DropError bc_DropError is_NoLines_DropError⟩
        · rw [show clsU "NoAsk" = .ref (Cls.adr "NoAsk") from if_neg (by decide +kernel), e_NoAsk, show subB "NoLines" "NoAsk" = false by decide +kernel]; exact ⟨kit_own ic_NoAsk tc_NoAsk ss_NoLines is_NoLines_NoAsk, exm_own ic_NoAsk tc_NoAsk bc_NoAsk is_NoLines_NoAsk⟩
        · rw [show clsU "NoFault" = .ref (Cls.adr "NoFault") from if_neg (by decide +kernel), e_NoFault, show subB "NoLines" "NoFault" = false by decide +kernel]; exact ⟨kit_own ic_NoFault tc_NoFault ss_NoLines is_NoLines_NoFault, exm_own ic_NoFault tc_NoFault bc_NoFault is_NoLines_NoFault⟩
        · rw [show clsU "NoJoin" = .ref (Cls.adr "NoJoin") from if_neg (by decide +kernel), e_NoJoin, show subB "NoLines" "NoJoin" = false by decide +kernel]; exact ⟨kit_own ic_NoJoin tc_NoJoin ss_NoLines is_NoLines_NoJoin, exm_own ic_NoJoin tc_NoJoin bc_NoJoin is_NoLines_NoJoin⟩
        · rw [show clsU "NoLines" = .ref (Cls.adr "NoLines") from if_neg (by decide +kernel), e_NoLines, show subB "NoLines" "NoLines" = true by decide +kernel]; exact ⟨kit_own ic_NoLines tc_NoLines ss_NoLines ss_NoLines, exm_own ic_NoLines tc_NoLines bc_NoLines ss_NoLines⟩
        · rw [show clsU "NoPaper" = .ref (Cls.adr "NoPaper") from if_neg (by decide +kernel), e_NoPaper, show subB "NoLines" "NoPaper" = false by decide +kernel]; exact ⟨kit_own ic_NoPaper tc_NoPaper ss_NoLines is_NoLines_NoPaper, exm_own ic_NoPaper tc_NoPaper bc_NoPaper is_NoLines_NoPaper⟩
        · rw [show clsU "NoPot" = .ref (Cls.adr "NoPot") from if_neg (by decide +kernel), e_NoPot, show subB "NoLines" "NoPot" = false by decide +kernel]; exact ⟨kit_own ic_NoPot tc_NoPot ss_NoLines is_NoLines_NoPot, exm_own ic_NoPot tc_NoPot bc_NoPot is_NoLines_NoPot⟩
        · rw [show clsU "NoRow" = .ref (Cls.adr "NoRow") from if_neg (by decide +kernel), e_NoRow, show subB "NoLines" "NoRow" = false by decide +kernel]; exact ⟨kit_own ic_NoRow tc_NoRow ss_NoLines is_NoLines_NoRow, exm_own ic_NoRow tc_NoRow bc_NoRow is_NoLines_NoRow⟩
        · rw [show clsU "NoStep" = .ref (Cls.adr "NoStep") from if_neg (by decide +kernel), e_NoStep, show subB "NoLines" "NoStep" = false by decide +kernel]; exact ⟨kit_own ic_NoStep tc_NoStep ss_NoLines is_NoLines_NoStep, exm_own ic_NoStep tc_NoStep bc_NoStep is_NoLines_NoStep⟩
        · rw [show clsU "ValueError" = .type "ValueError" from if_pos rfl, show subB "NoLines" "ValueError" = true by decide +kernel]; exact ⟨kit_ve sv_NoLines, exm_ve sv_NoLines⟩
      · intro t ht
        show PySem.W.kitOne K (.ref (Cls.adr "NoPaper")) (clsU t) = some (subB "NoPaper" t) ∧ PySem.W.exmOne K (.ref (Cls.adr "NoPaper")) (clsU t) = some (subB "NoPaper" t)
        rw [e_NoPaper]
        simp only [errT, List.mem_cons, List.not_mem_nil, or_false] at ht
        rcases ht with rfl | rfl | rfl | rfl | rfl | rfl | rfl | rfl | rfl | rfl
        · rw [show clsU "DropError" = .ref (Cls.adr "DropError") from if_neg (by decide +kernel), e_DropError, show subB "NoPaper" "DropError" = true by decide +kernel]; exact ⟨kit_own ic_DropError tc_DropError ss_NoPaper is_NoPaper_DropError, exm_own ic_DropError tc_DropError bc_DropError is_NoPaper_DropError⟩
        · rw [show clsU "NoAsk" = .ref (Cls.adr "NoAsk") from if_neg (by decide +kernel), e_NoAsk, show subB "NoPaper" "NoAsk" = false by decide +kernel]; exact ⟨kit_own ic_NoAsk tc_NoAsk ss_NoPaper is_NoPaper_NoAsk, exm_own ic_NoAsk tc_NoAsk bc_NoAsk is_NoPaper_NoAsk⟩
        · rw [show clsU "NoFault" = .ref (Cls.adr "NoFault") from if_neg (by decide +kernel), e_NoFault, show subB "NoPaper" "NoFault" = false by decide +kernel]; exact ⟨kit_own ic_NoFault tc_NoFault ss_NoPaper is_NoPaper_NoFault, exm_own ic_NoFault tc_NoFault bc_NoFault is_NoPaper_NoFault⟩
        · rw [show clsU "NoJoin" = .ref (Cls.adr "NoJoin") from if_neg (by decide +kernel), e_NoJoin, show subB "NoPaper" "NoJoin" = false by decide +kernel]; exact ⟨kit_own ic_NoJoin tc_NoJoin ss_NoPaper is_NoPaper_NoJoin, exm_own ic_NoJoin tc_NoJoin bc_NoJoin is_NoPaper_NoJoin⟩
        · rw [show clsU "NoLines" = .ref (Cls.adr "NoLines") from if_neg (by decide +kernel), e_NoLines, show subB "NoPaper" "NoLines" = false by decide +kernel]; exact ⟨kit_own ic_NoLines tc_NoLines ss_NoPaper is_NoPaper_NoLines, exm_own ic_NoLines tc_NoLines bc_NoLines is_NoPaper_NoLines⟩
        · rw [show clsU "NoPaper" = .ref (Cls.adr "NoPaper") from if_neg (by decide +kernel), e_NoPaper, show subB "NoPaper" "NoPaper" = true by decide +kernel]; exact ⟨kit_own ic_NoPaper tc_NoPaper ss_NoPaper ss_NoPaper, exm_own ic_NoPaper tc_NoPaper bc_NoPaper ss_NoPaper⟩
        · rw [show clsU "NoPot" = .ref (Cls.adr "NoPot") from if_neg (by decide +kernel), e_NoPot, show subB "NoPaper" "NoPot" = false by decide +kernel]; exact ⟨kit_own ic_NoPot tc_NoPot ss_NoPaper is_NoPaper_NoPot, exm_own ic_NoPot tc_NoPot bc_NoPot is_NoPaper_NoPot⟩
        · rw [show clsU "NoRow" = .ref (Cls.adr "NoRow") from if_neg (by decide +kernel), e_NoRow, show subB "NoPaper" "NoRow" = false by decide +kernel]; exact ⟨kit_own ic_NoRow tc_NoRow ss_NoPaper is_NoPaper_NoRow, exm_own ic_NoRow tc_NoRow bc_NoRow is_NoPaper_NoRow⟩
        · rw [show clsU "NoStep" = .ref (Cls.adr "NoStep") from if_neg (by decide +kernel), e_NoStep, show subB "NoPaper" "NoStep" = false by decide +kernel]; exact ⟨kit_own ic_NoStep tc_NoStep ss_NoPaper is_NoPaper_NoStep, exm_own ic_NoStep tc_NoStep bc_NoStep is_NoPaper_NoStep⟩
        · rw [show clsU "ValueError" = .type "ValueError" from if_pos rfl, show subB "NoPaper" "ValueError" = true by decide +kernel]; exact ⟨kit_ve sv_NoPaper, exm_ve sv_NoPaper⟩
      · intro t ht
        show PySem.W.kitOne K (.ref (Cls.adr "NoPot")) (clsU t) = some (subB "NoPot" t) ∧ PySem.W.exmOne K (.ref (Cls.adr "NoPot")) (clsU t) = some (subB "NoPot" t)
        rw [e_NoPot]
        simp only [errT, List.mem_cons, List.not_mem_nil, or_false] at ht
        rcases ht with rfl | rfl | rfl | rfl | rfl | rfl | rfl | rfl | rfl | rfl
        · rw [show clsU "DropError" = .ref (Cls.adr "DropError") from if_neg (by decide +kernel), e_DropError, show subB "NoPot" "DropError" = true by decide +kernel]; exact ⟨kit_own ic_DropError tc_DropError ss_NoPot is_NoPot_DropError, exm_own ic_DropError tc_DropError bc_DropError is_NoPot_DropError⟩
        · rw [show clsU "NoAsk" = .ref (Cls.adr "NoAsk") from if_neg (by decide +kernel), e_NoAsk, show subB "NoPot" "NoAsk" = false by decide +kernel]; exact ⟨kit_own ic_NoAsk tc_NoAsk ss_NoPot is_NoPot_NoAsk, exm_own ic_NoAsk tc_NoAsk bc_NoAsk is_NoPot_NoAsk⟩
        · rw [show clsU "NoFault" = .ref (Cls.adr "NoFault") from if_neg (by decide +kernel), e_NoFault, show subB "NoPot" "NoFault" = false by decide +kernel]; exact ⟨kit_own ic_NoFault tc_NoFault ss_NoPot is_NoPot_NoFault, exm_own ic_NoFault tc_NoFault bc_NoFault is_NoPot_NoFault⟩
        · rw [show clsU "NoJoin" = .ref (Cls.adr "NoJoin") from if_neg (by decide +kernel), e_NoJoin, show subB "NoPot" "NoJoin" = false by decide +kernel]; exact ⟨kit_own ic_NoJoin tc_NoJoin ss_NoPot is_NoPot_NoJoin, exm_own ic_NoJoin tc_NoJoin bc_NoJoin is_NoPot_NoJoin⟩
        · rw [show clsU "NoLines" = .ref (Cls.adr "NoLines") from if_neg (by decide +kernel), e_NoLines, show subB "NoPot" "NoLines" = false by decide +kernel]; exact ⟨kit_own ic_NoLines tc_NoLines ss_NoPot is_NoPot_NoLines, exm_own ic_NoLines tc_NoLines bc_NoLines is_NoPot_NoLines⟩
        · rw [show clsU "NoPaper" = .ref (Cls.adr "NoPaper") from if_neg (by decide +kernel), e_NoPaper, show subB "NoPot" "NoPaper" = false by decide +kernel]; exact ⟨kit_own ic_NoPaper tc_NoPaper ss_NoPot is_NoPot_NoPaper, exm_own ic_NoPaper tc_NoPaper bc_NoPaper is_NoPot_NoPaper⟩
        · rw [show clsU "NoPot" = .ref (Cls.adr "NoPot") from if_neg (by decide +kernel), e_NoPot, show subB "NoPot" "NoPot" = true by decide +kernel]; exact ⟨kit_own ic_NoPot tc_NoPot ss_NoPot ss_NoPot, exm_own ic_NoPot tc_NoPot bc_NoPot ss_NoPot⟩
        · rw [show clsU "NoRow" = .ref (Cls.adr "NoRow") from if_neg (by decide +kernel), e_NoRow, show subB "NoPot" "NoRow" = false by decide +kernel]; exact ⟨kit_own ic_NoRow tc_NoRow ss_NoPot is_NoPot_NoRow, exm_own ic_NoRow tc_NoRow bc_NoRow is_NoPot_NoRow⟩
        · rw [show clsU "NoStep" = .ref (Cls.adr "NoStep") from if_neg (by decide +kernel), e_NoStep, show subB "NoPot" "NoStep" = false by decide +kernel]; exact ⟨kit_own ic_NoStep tc_NoStep ss_NoPot is_NoPot_NoStep, exm_own ic_NoStep tc_NoStep bc_NoStep is_NoPot_NoStep⟩
        · rw [show clsU "ValueError" = .type "ValueError" from if_pos rfl, show subB "NoPot" "ValueError" = true by decide +kernel]; exact ⟨kit_ve sv_NoPot, exm_ve sv_NoPot⟩
      · intro t ht
        show PySem.W.kitOne K (.ref (Cls.adr "NoRow")) (clsU t) = some (subB "NoRow" t) ∧ PySem.W.exmOne K (.ref (Cls.adr "NoRow")) (clsU t) = some (subB "NoRow" t)
        rw [e_NoRow]
        simp only [errT, List.mem_cons, List.not_mem_nil, or_false] at ht
        rcases ht with rfl | rfl | rfl | rfl | rfl | rfl | rfl | rfl | rfl | rfl
        · rw [show clsU "DropError" = .ref (Cls.adr "DropError") from if_neg (by decide +kernel), e_DropError, show subB "NoRow" "DropError" = true by decide +kernel]; exact ⟨kit_own ic_DropError tc_DropError ss_NoRow is_NoRow_DropError, exm_own ic_DropError tc_DropError bc_DropError is_NoRow_DropError⟩
        · rw [show clsU "NoAsk" = .ref (Cls.adr "NoAsk") from if_neg (by decide +kernel), e_NoAsk, show subB "NoRow" "NoAsk" = false by decide +kernel]; exact ⟨kit_own ic_NoAsk tc_NoAsk ss_NoRow is_NoRow_NoAsk, exm_own ic_NoAsk tc_NoAsk bc_NoAsk is_NoRow_NoAsk⟩
        · rw [show clsU "NoFault" = .ref (Cls.adr "NoFault") from if_neg (by decide +kernel), e_NoFault, show subB "NoRow" "NoFault" = false by decide +kernel]; exact ⟨kit_own ic_NoFault tc_NoFault ss_NoRow is_NoRow_NoFault, exm_own ic_NoFault tc_NoFault bc_NoFault is_NoRow_NoFault⟩
        · rw [show clsU "NoJoin" = .ref (Cls.adr "NoJoin") from if_neg (by decide +kernel), e_NoJoin, show subB "NoRow" "NoJoin" = false by decide +kernel]; exact ⟨kit_own ic_NoJoin tc_NoJoin ss_NoRow is_NoRow_NoJoin, exm_own ic_NoJoin tc_NoJoin bc_NoJoin is_NoRow_NoJoin⟩
        · rw [show clsU "NoLines" = .ref (Cls.adr "NoLines") from if_neg (by decide +kernel), e_NoLines, show subB "NoRow" "NoLines" = false by decide +kernel]; exact ⟨kit_own ic_NoLines tc_NoLines ss_NoRow is_NoRow_NoLines, exm_own ic_NoLines tc_NoLines bc_NoLines is_NoRow_NoLines⟩
        · rw [show clsU "NoPaper" = .ref (Cls.adr "NoPaper") from if_neg (by decide +kernel), e_NoPaper, show subB "NoRow" "NoPaper" = false by decide +kernel]; exact ⟨kit_own ic_NoPaper tc_NoPaper ss_NoRow is_NoRow_NoPaper, exm_own ic_NoPaper tc_NoPaper bc_NoPaper is_NoRow_NoPaper⟩
        · rw [show clsU "NoPot" = .ref (Cls.adr "NoPot") from if_neg (by decide +kernel), e_NoPot, show subB "NoRow" "NoPot" = false by decide +kernel]; exact ⟨kit_own ic_NoPot tc_NoPot ss_NoRow is_NoRow_NoPot, exm_own ic_NoPot tc_NoPot bc_NoPot is_NoRow_NoPot⟩
        · rw [show clsU "NoRow" = .ref (Cls.adr "NoRow") from if_neg (by decide +kernel), e_NoRow, show subB "NoRow" "NoRow" = true by decide +kernel]; exact ⟨kit_own ic_NoRow tc_NoRow ss_NoRow ss_NoRow, exm_own ic_NoRow tc_NoRow bc_NoRow ss_NoRow⟩
        · rw [show clsU "NoStep" = .ref (Cls.adr "NoStep") from if_neg (by decide +kernel), e_NoStep, show subB "NoRow" "NoStep" = false by decide +kernel]; exact ⟨kit_own ic_NoStep tc_NoStep ss_NoRow is_NoRow_NoStep, exm_own ic_NoStep tc_NoStep bc_NoStep is_NoRow_NoStep⟩
        · rw [show clsU "ValueError" = .type "ValueError" from if_pos rfl, show subB "NoRow" "ValueError" = true by decide +kernel]; exact ⟨kit_ve sv_NoRow, exm_ve sv_NoRow⟩
      · intro t ht
        show PySem.W.kitOne K (.ref (Cls.adr "NoStep")) (clsU t) = some (subB "NoStep" t) ∧ PySem.W.exmOne K (.ref (Cls.adr "NoStep")) (clsU t) = some (subB "NoStep" t)
        rw [e_NoStep]
        simp only [errT, List.mem_cons, List.not_mem_nil, or_false] at ht
        rcases ht with rfl | rfl | rfl | rfl | rfl | rfl | rfl | rfl | rfl | rfl
        · rw [show clsU "DropError" = .ref (Cls.adr "DropError") from if_neg (by decide +kernel), e_DropError, show subB "NoStep" "DropError" = true by decide +kernel]; exact ⟨kit_own ic_DropError tc_DropError ss_NoStep is_NoStep_DropError, exm_own ic_DropError tc_DropError bc_DropError is_NoStep_DropError⟩
        · rw [show clsU "NoAsk" = .ref (Cls.adr "NoAsk") from if_neg (by decide +kernel), e_NoAsk, show subB "NoStep" "NoAsk" = false by decide +kernel]; exact ⟨kit_own ic_NoAsk tc_NoAsk ss_NoStep is_NoStep_NoAsk, exm_own ic_NoAsk tc_NoAsk bc_NoAsk is_NoStep_NoAsk⟩
        · rw [show clsU "NoFault" = .ref (Cls.adr "NoFault") from if_neg (by decide +kernel), e_NoFault, show subB "NoStep" "NoFault" = false by decide +kernel]; exact ⟨kit_own ic_NoFault tc_NoFault ss_NoStep is_NoStep_NoFault, exm_own ic_NoFault tc_NoFault bc_NoFault is_NoStep_NoFault⟩
        · rw [show clsU "NoJoin" = .ref (Cls.adr "NoJoin") from if_neg (by decide +kernel), e_NoJoin, show subB "NoStep" "NoJoin" = false by decide +kernel]; exact ⟨kit_own ic_NoJoin tc_NoJoin ss_NoStep is_NoStep_NoJoin, exm_own ic_NoJoin tc_NoJoin bc_NoJoin is_NoStep_NoJoin⟩
        · rw [show clsU "NoLines" = .ref (Cls.adr "NoLines") from if_neg (by decide +kernel), e_NoLines, show subB "NoStep" "NoLines" = false by decide +kernel]; exact ⟨kit_own ic_NoLines tc_NoLines ss_NoStep is_NoStep_NoLines, exm_own ic_NoLines tc_NoLines bc_NoLines is_NoStep_NoLines⟩
        · rw [show clsU "NoPaper" = .ref (Cls.adr "NoPaper") from if_neg (by decide +kernel), e_NoPaper, show subB "NoStep" "NoPaper" = false by decide +kernel]; exact ⟨kit_own ic_NoPaper tc_NoPaper ss_NoStep is_NoStep_NoPaper, exm_own ic_NoPaper tc_NoPaper bc_NoPaper is_NoStep_NoPaper⟩
        · rw [show clsU "NoPot" = .ref (Cls.adr "NoPot") from if_neg (by decide +kernel), e_NoPot, show subB "NoStep" "NoPot" = false by decide +kernel]; exact ⟨kit_own ic_NoPot tc_NoPot ss_NoStep is_NoStep_NoPot, exm_own ic_NoPot tc_NoPot bc_NoPot is_NoStep_NoPot⟩
        · rw [show clsU "NoRow" = .ref (Cls.adr "NoRow") from if_neg (by decide +kernel), e_NoRow, show subB "NoStep" "NoRow" = false by decide +kernel]; exact ⟨kit_own ic_NoRow tc_NoRow ss_NoStep is_NoStep_NoRow, exm_own ic_NoRow tc_NoRow bc_NoRow is_NoStep_NoRow⟩
        · rw [show clsU "NoStep" = .ref (Cls.adr "NoStep") from if_neg (by decide +kernel), e_NoStep, show subB "NoStep" "NoStep" = true by decide +kernel]; exact ⟨kit_own ic_NoStep tc_NoStep ss_NoStep ss_NoStep, exm_own ic_NoStep tc_NoStep bc_NoStep ss_NoStep⟩
        · rw [show clsU "ValueError" = .type "ValueError" from if_pos rfl, show subB "NoStep" "ValueError" = true by decide +kernel]; exact ⟨kit_ve sv_NoStep, exm_ve sv_NoStep⟩
      · intro t ht
        show PySem.W.kitOne K (.ref (Cls.adr "DropError")) (clsU t) = some (subB "DropError" t) ∧ PySem.W.exmOne K (.ref (Cls.adr "DropError")) (clsU t) = some (subB "DropError" t)
        rw [e_DropError]
        simp only [errT, List.mem_cons, List.not_mem_nil, or_false] at ht
        rcases ht with rfl | rfl | rfl | rfl | rfl | rfl | rfl | rfl | rfl | rfl
        · rw [show clsU "DropError" = .ref (Cls.adr "DropError") from if_neg (by decide +kernel), e_DropError, show subB "DropError" "DropError" = true by decide +kernel]; exact ⟨kit_own ic_DropError tc_DropError ss_DropError ss_DropError, exm_own ic_DropError tc_DropError bc_DropError ss_DropError⟩
        · rw [show clsU "NoAsk" = .ref (Cls.adr "NoAsk") from if_neg (by decide +kernel), e_NoAsk, show subB "DropError" "NoAsk" = false by decide +kernel]; exact ⟨kit_own ic_NoAsk tc_NoAsk ss_DropError is_DropError_NoAsk, exm_own ic_NoAsk tc_NoAsk bc_NoAsk is_DropError_NoAsk⟩
        · rw [show clsU "NoFault" = .ref (Cls.adr "NoFault") from if_neg (by decide +kernel), e_NoFault, show subB "DropError" "NoFault" = false by decide +kernel]; exact ⟨kit_own ic_NoFault tc_NoFault ss_DropError is_DropError_NoFault, exm_own ic_NoFault tc_NoFault bc_NoFault is_DropError_NoFault⟩
        · rw [show clsU "NoJoin" = .ref (Cls.adr "NoJoin") from if_neg (by decide +kernel), e_NoJoin, show subB "DropError" "NoJoin" = false by decide +kernel]; exact ⟨kit_own ic_NoJoin tc_NoJoin ss_DropError is_DropError_NoJoin, exm_own ic_NoJoin tc_NoJoin bc_NoJoin is_DropError_NoJoin⟩
        · rw [show clsU "NoLines" = .ref (Cls.adr "NoLines") from if_neg (by decide +kernel), e_NoLines, show subB "DropError" "NoLines" = false by decide +kernel]; exact ⟨kit_own ic_NoLines tc_NoLines ss_DropError is_DropError_NoLines, exm_own ic_NoLines tc_NoLines bc_NoLines is_DropError_NoLines⟩
        · rw [show clsU "NoPaper" = .ref (Cls.adr "NoPaper") from if_neg (by decide +kernel), e_NoPaper, show subB "DropError" "NoPaper" = false by decide +kernel]; exact ⟨kit_own ic_NoPaper tc_NoPaper ss_DropError is_DropError_NoPaper, exm_own ic_NoPaper tc_NoPaper bc_NoPaper is_DropError_NoPaper⟩
        · rw [show clsU "NoPot" = .ref (Cls.adr "NoPot") from if_neg (by decide +kernel), e_NoPot, show subB "DropError" "NoPot" = false by decide +kernel]; exact ⟨kit_own ic_NoPot tc_NoPot ss_DropError is_DropError_NoPot, exm_own ic_NoPot tc_NoPot bc_NoPot is_DropError_NoPot⟩
        · rw [show clsU "NoRow" = .ref (Cls.adr "NoRow") from if_neg (by decide +kernel), e_NoRow, show subB "DropError" "NoRow" = false by decide +kernel]; exact ⟨kit_own ic_NoRow tc_NoRow ss_DropError is_DropError_NoRow, exm_own ic_NoRow tc_NoRow bc_NoRow is_DropError_NoRow⟩
        · rw [show clsU "NoStep" = .ref (Cls.adr "NoStep") from if_neg (by decide +kernel), e_NoStep, show subB "DropError" "NoStep" = false by decide +kernel]; exact ⟨kit_own ic_NoStep tc_NoStep ss_DropError is_DropError_NoStep, exm_own ic_NoStep tc_NoStep bc_NoStep is_DropError_NoStep⟩
        · rw [show clsU "ValueError" = .type "ValueError" from if_pos rfl, show subB "DropError" "ValueError" = true by decide +kernel]; exact ⟨kit_ve sv_DropError, exm_ve sv_DropError⟩
    · intro t ht hv
      simp only [errT, List.mem_cons, List.not_mem_nil, or_false] at ht
      rcases ht with rfl | rfl | rfl | rfl | rfl | rfl | rfl | rfl | rfl | rfl
      · rw [e_DropError]; exact g_DropError
      · rw [e_NoAsk]; exact g_NoAsk
      · rw [e_NoFault]; exact g_NoFault
      · rw [e_NoJoin]; exact g_NoJoin
      · rw [e_NoLines]; exact g_NoLines
      · rw [e_NoPaper]; exact g_NoPaper
      · rw [e_NoPot]; exact g_NoPot
      · rw [e_NoRow]; exact g_NoRow
      · rw [e_NoStep]; exact g_NoStep
      · exact absurd rfl hv
  have h_law_feed := f_law_feed (P := PySem.Challenge.rw_dropsums_k18_refusals_apart.prog) (w := w) (base := base) Z D1
  have h_law_draw := f_law_draw (P := PySem.Challenge.rw_dropsums_k18_refusals_apart.prog) (w := w) (base := base) Z D2
  have h_law_raise_lines := f_law_raise_lines (P := PySem.Challenge.rw_dropsums_k18_refusals_apart.prog) (w := w) (base := base) Z EF D3
  have h_law_raise := f_law_raise (P := PySem.Challenge.rw_dropsums_k18_refusals_apart.prog) (w := w) (base := base) Z h_law_raise_lines EF D4
  have h_law_kinds := f_law_kinds (P := PySem.Challenge.rw_dropsums_k18_refusals_apart.prog) (w := w) (base := base) Z EF D5
  have hu_law_kinds := fu_law_kinds (P := PySem.Challenge.rw_dropsums_k18_refusals_apart.prog) (w := w) (base := base) Z EF D5
  have h_law_fields := f_law_fields (P := PySem.Challenge.rw_dropsums_k18_refusals_apart.prog) (w := w) (base := base) Z EF D6
  have hu_law_fields := fu_law_fields (P := PySem.Challenge.rw_dropsums_k18_refusals_apart.prog) (w := w) (base := base) Z EF D6
  exact law_fg Z h_law_feed h_law_draw h_law_raise hu_law_kinds hu_law_fields EF F7
end DL
open PySem PySem.W PyProof.Rows
set_option maxRecDepth 100000 in
set_option maxHeartbeats 0 in
theorem PySem.Challenge.cw_dropsums_k18_refusals_apart_holds : PySem.Challenge.rw_dropsums_k18_refusals_apart.Holds := by
  w_on; o_law; k_head; (case hw => w_witness2)
  k_fill
  refine DL.law_walk (l := PySem.Challenge.rw_dropsums_k18_refusals_apart) (k := 5) (x := "_law_script") rfl rfl ⟨rfl, by decide, by decide⟩ (fun w h Y => PySem.W.kIn_of Y) ?F
  case F =>
    intro w mg fa h KX G hmg
    refine' DL.all_mk KX G hmg ?a1 ?l1 ?c1 ?k1 ?a2 ?l2 ?c2 ?k2 ?a3 ?l3 ?c3 ?k3 ?a4 ?l4 ?c4 ?k4 ?a5 ?l5 ?c5 ?k5 ?a6 ?l6 ?c6 ?k6 ?a7 ?l7 ?c7 ?k7 ?z1 ?z2 ?z3 ?z4 ?z5 ?ac_DropError ?bc_DropError ?tc_DropError ?ic_DropError ?ac_NoAsk ?bc_NoAsk ?tc_NoAsk ?ic_NoAsk ?ac_NoFault ?bc_NoFault ?tc_NoFault ?ic_NoFault ?ac_NoJoin ?bc_NoJoin ?tc_NoJoin ?ic_NoJoin ?ac_NoLines ?bc_NoLines ?tc_NoLines ?ic_NoLines ?ac_NoPaper ?bc_NoPaper ?tc_NoPaper ?ic_NoPaper ?ac_NoPot ?bc_NoPot ?tc_NoPot ?ic_NoPot ?ac_NoRow ?bc_NoRow ?tc_NoRow ?ic_NoRow ?ac_NoStep ?bc_NoStep ?tc_NoStep ?ic_NoStep ?dr ?dg ?dv ?og ?ot ?xl_NoAsk ?sa_NoAsk ?ga_NoAsk ?gg_NoAsk ?kc_NoAsk ?hd_NoAsk ?cl_NoAsk ?mo_NoAsk ?sv_NoAsk ?ss_NoAsk ?ai_NoAsk ?ti_NoAsk ?li_NoAsk ?ci_NoAsk ?ki_NoAsk ?n1_NoAsk ?is_NoAsk_DropError ?is_NoAsk_NoFault ?is_NoAsk_NoJoin ?is_NoAsk_NoLines ?is_NoAsk_NoPaper ?is_NoAsk_NoPot ?is_NoAsk_NoRow ?is_NoAsk_NoStep ?xl_NoFault ?sa_NoFault ?ga_NoFault ?gg_NoFault ?kc_NoFault ?hd_NoFault ?cl_NoFault ?mo_NoFault ?sv_NoFault ?ss_NoFault ?ai_NoFault ?ti_NoFault ?li_NoFault ?ci_NoFault ?ki_NoFault ?n1_NoFault ?n2_NoFault ?is_NoFault_DropError ?is_NoFault_NoAsk ?is_NoFault_NoJoin ?is_NoFault_NoLines ?is_NoFault_NoPaper ?is_NoFault_NoPot ?is_NoFault_NoRow ?is_NoFault_NoStep ?xl_NoJoin ?sa_NoJoin ?ga_NoJoin ?gg_NoJoin ?kc_NoJoin ?hd_NoJoin ?cl_NoJoin ?mo_NoJoin ?sv_NoJoin ?ss_NoJoin ?ai_NoJoin ?ti_NoJoin ?li_NoJoin ?ci_NoJoin ?ki_NoJoin ?n1_NoJoin ?n2_NoJoin ?is_NoJoin_DropError ?is_NoJoin_NoAsk ?is_NoJoin_NoFault ?is_NoJoin_NoLines ?is_NoJoin_NoPaper ?is_NoJoin_NoPot ?is_NoJoin_NoRow ?is_NoJoin_NoStep ?xl_NoLines ?sa_NoLines ?ga_NoLines ?gg_NoLines ?kc_NoLines ?hd_NoLines ?cl_NoLines ?mo_NoLines ?sv_NoLines ?ss_NoLines ?ai_NoLines ?ti_NoLines ?li_NoLines ?ci_NoLines ?ki_NoLines ?n1_NoLines ?is_NoLines_DropError ?is_NoLines_NoAsk ?is_NoLines_NoFault ?is_NoLines_NoJoin ?is_NoLines_NoPaper ?is_NoLines_NoPot ?is_NoLines_NoRow ?is_NoLines_NoStep ?xl_NoPaper ?sa_NoPaper ?ga_NoPaper ?gg_NoPaper ?kc_NoPaper ?hd_NoPaper ?cl_NoPaper ?mo_NoPaper ?sv_NoPaper ?ss_NoPaper ?ai_NoPaper ?ti_NoPaper ?li_NoPaper ?ci_NoPaper ?ki_NoPaper ?n1_NoPaper ?n2_NoPaper ?is_NoPaper_DropError ?is_NoPaper_NoAsk ?is_NoPaper_NoFault ?is_NoPaper_NoJoin ?is_NoPaper_NoLines ?is_NoPaper_NoPot ?is_NoPaper_NoRow ?is_NoPaper_NoStep ?xl_NoPot ?sa_NoPot ?ga_NoPot ?gg_NoPot ?kc_NoPot ?hd_NoPot ?cl_NoPot ?mo_NoPot ?sv_NoPot ?ss_NoPot ?ai_NoPot ?ti_NoPot ?li_NoPot ?ci_NoPot ?ki_NoPot ?n1_NoPot ?n2_NoPot ?is_NoPot_DropError ?is_NoPot_NoAsk ?is_NoPot_NoFault ?is_NoPot_NoJoin ?is_NoPot_NoLines ?is_NoPot_NoPaper ?is_NoPot_NoRow ?is_NoPot_NoStep ?xl_NoRow ?sa_NoRow ?ga_NoRow ?gg_NoRow ?kc_NoRow ?hd_NoRow ?cl_NoRow ?mo_NoRow ?sv_NoRow ?ss_NoRow ?ai_NoRow ?ti_NoRow ?li_NoRow ?ci_NoRow ?ki_NoRow ?n1_NoRow ?is_NoRow_DropError ?is_NoRow_NoAsk ?is_NoRow_NoFault ?is_NoRow_NoJoin ?is_NoRow_NoLines ?is_NoRow_NoPaper ?is_NoRow_NoPot ?is_NoRow_NoStep ?xl_NoStep ?sa_NoStep ?ga_NoStep ?gg_NoStep ?kc_NoStep ?hd_NoStep ?cl_NoStep ?mo_NoStep ?sv_NoStep ?ss_NoStep ?ai_NoStep ?ti_NoStep ?li_NoStep ?ci_NoStep ?ki_NoStep ?n1_NoStep ?is_NoStep_DropError ?is_NoStep_NoAsk ?is_NoStep_NoFault ?is_NoStep_NoJoin ?is_NoStep_NoLines ?is_NoStep_NoPaper ?is_NoStep_NoPot ?is_NoStep_NoRow ?xl_DropError ?ln_DropError ?no_DropError ?ni_DropError ?ga_DropError ?gg_DropError ?kc_DropError ?hd_DropError ?cl_DropError ?mo_DropError ?sv_DropError ?ss_DropError ?is_DropError_NoAsk ?is_DropError_NoFault ?is_DropError_NoJoin ?is_DropError_NoLines ?is_DropError_NoPaper ?is_DropError_NoPot ?is_DropError_NoRow ?is_DropError_NoStep
    (case a1 => k_is)
    (case l1 => k_is)
    (case c1 => k_is)
    (case k1 => k_is)
    (case a2 => k_is)
    (case l2 => k_is)
    (case c2 => k_is)
    (case k2 => k_is)
    (case a3 => k_is)
    (case l3 => k_is)
    (case c3 => k_is)
    (case k3 => k_is)
    (case a4 => k_is)
    (case l4 => k_is)
    (case c4 => k_is)
    (case k4 => k_is)
    (case a5 => k_is)
    (case l5 => k_is)
    (case c5 => k_is)
    (case k5 => k_is)
    (case a6 => k_is)
    (case l6 => k_is)
    (case c6 => k_is)
    (case k6 => k_is)
    (case a7 => k_is)
    (case l7 => k_is)
    (case c7 => k_is)
    (case k7 => k_is)
    (case z1 => k_is)
    (case z2 => k_is)
    (case z3 => k_is)
    (case z4 => k_is)
    (case z5 => k_is)
    (case ac_DropError => k_is)
    (case bc_DropError => k_is)
    (case tc_DropError => k_is)
    (case ic_DropError => k_is)
    (case ac_NoAsk => k_is)
    (case bc_NoAsk => k_is)
    (case tc_NoAsk => k_is)
    (case ic_NoAsk => k_is)
    (case ac_NoFault => k_is)
    (case bc_NoFault => k_is)
    (case tc_NoFault => k_is)
    (case ic_NoFault => k_is)
    (case ac_NoJoin => k_is)
    (case bc_NoJoin => k_is)
    (case tc_NoJoin => k_is)
    (case ic_NoJoin => k_is)
    (case ac_NoLines => k_is)
    (case bc_NoLines => k_is)
    (case tc_NoLines => k_is)
    (case ic_NoLines => k_is)
    (case ac_NoPaper => k_is)
    (case bc_NoPaper => k_is)
    (case tc_NoPaper => k_is)
    (case ic_NoPaper => k_is)
    (case ac_NoPot => k_is)
    (case bc_NoPot => k_is)
    (case tc_NoPot => k_is)
    (case ic_NoPot => k_is)
    (case ac_NoRow => k_is)
    (case bc_NoRow => k_is)
    (case tc_NoRow => k_is)
    (case ic_NoRow => k_is)
    (case ac_NoStep => k_is)
    (case bc_NoStep => k_is)
    (case tc_NoStep => k_is)
    (case ic_NoStep => k_is)
    (case dr => k_is)
    (case dg => k_is)
    (case dv => k_is)
    (case og => k_is)
    (case ot => k_is)
    (case xl_NoAsk => k_is)
    (case sa_NoAsk => k_is)
    (case ga_NoAsk => k_is)
    (case gg_NoAsk => k_is)
    (case kc_NoAsk => k_is)
    (case hd_NoAsk => k_is)
    (case cl_NoAsk => k_is)
    (case mo_NoAsk => k_is)
    (case sv_NoAsk => k_is)
    (case ss_NoAsk => k_is)
    (case ai_NoAsk => k_is)
    (case ti_NoAsk => k_is)
    (case li_NoAsk => k_is)
    (case ci_NoAsk => k_is)
    (case ki_NoAsk => k_is)
    (case n1_NoAsk => k_is)
    (case is_NoAsk_DropError => k_is)
    (case is_NoAsk_NoFault => k_is)
    (case is_NoAsk_NoJoin => k_is)
    (case is_NoAsk_NoLines => k_is)
    (case is_NoAsk_NoPaper => k_is)
    (case is_NoAsk_NoPot => k_is)
    (case is_NoAsk_NoRow => k_is)
    (case is_NoAsk_NoStep => k_is)
    (case xl_NoFault => k_is)
    (case sa_NoFault => k_is)
    (case ga_NoFault => k_is)
    (case gg_NoFault => k_is)
    (case kc_NoFault => k_is)
    (case hd_NoFault => k_is)
    (case cl_NoFault => k_is)
    (case mo_NoFault => k_is)
    (case sv_NoFault => k_is)
    (case ss_NoFault => k_is)
    (case ai_NoFault => k_is)
    (case ti_NoFault => k_is)
    (case li_NoFault => k_is)
    (case ci_NoFault => k_is)
    (case ki_NoFault => k_is)
    (case n1_NoFault => k_is)
    (case n2_NoFault => k_is)
    (case is_NoFault_DropError => k_is)
    (case is_NoFault_NoAsk => k_is)
    (case is_NoFault_NoJoin => k_is)
    (case is_NoFault_NoLines => k_is)
    (case is_NoFault_NoPaper => k_is)
    (case is_NoFault_NoPot => k_is)
    (case is_NoFault_NoRow => k_is)
    (case is_NoFault_NoStep => k_is)
    (case xl_NoJoin => k_is)
    (case sa_NoJoin => k_is)
    (case ga_NoJoin => k_is)
    (case gg_NoJoin => k_is)
    (case kc_NoJoin => k_is)
    (case hd_NoJoin => k_is)
    (case cl_NoJoin => k_is)
    (case mo_NoJoin => k_is)
    (case sv_NoJoin => k_is)
    (case ss_NoJoin => k_is)
    (case ai_NoJoin => k_is)
    (case ti_NoJoin => k_is)
    (case li_NoJoin => k_is)
    (case ci_NoJoin => k_is)
    (case ki_NoJoin => k_is)
    (case n1_NoJoin => k_is)
    (case n2_NoJoin => k_is)
    (case is_NoJoin_DropError => k_is)
    (case is_NoJoin_NoAsk => k_is)
    (case is_NoJoin_NoFault => k_is)
    (case is_NoJoin_NoLines => k_is)
    (case is_NoJoin_NoPaper => k_is)
    (case is_NoJoin_NoPot => k_is)
    (case is_NoJoin_NoRow => k_is)
    (case is_NoJoin_NoStep => k_is)
    (case xl_NoLines => k_is)
    (case sa_NoLines => k_is)
    (case ga_NoLines => k_is)
    (case gg_NoLines => k_is)
    (case kc_NoLines => k_is)
    (case hd_NoLines => k_is)
    (case cl_NoLines => k_is)
    (case mo_NoLines => k_is)
    (case sv_NoLines => k_is)
    (case ss_NoLines => k_is)
    (case ai_NoLines => k_is)
    (case ti_NoLines => k_is)
    (case li_NoLines => k_is)
    (case ci_NoLines => k_is)
    (case ki_NoLines => k_is)
    (case n1_NoLines => k_is)
    (case is_NoLines_DropError => k_is)
    (case is_NoLines_NoAsk => k_is)
    (case is_NoLines_NoFault => k_is)
    (case is_NoLines_NoJoin => k_is)
    (case is_NoLines_NoPaper => k_is)
    (case is_NoLines_NoPot => k_is)
    (case is_NoLines_NoRow => k_is)
    (case is_NoLines_NoStep => k_is)
    (case xl_NoPaper => k_is)
    (case sa_NoPaper => k_is)
    (case ga_NoPaper => k_is)
    (case gg_NoPaper => k_is)
    (case kc_NoPaper => k_is)
    (case hd_NoPaper => k_is)
    (case cl_NoPaper => k_is)
    (case mo_NoPaper => k_is)
    (case sv_NoPaper => k_is)
    (case ss_NoPaper => k_is)
    (case ai_NoPaper => k_is)
    (case ti_NoPaper => k_is)
    (case li_NoPaper => k_is)
    (case ci_NoPaper => k_is)
    (case ki_NoPaper => k_is)
    (case n1_NoPaper => k_is)
    (case n2_NoPaper => k_is)
    (case is_NoPaper_DropError => k_is)
    (case is_NoPaper_NoAsk => k_is)
    (case is_NoPaper_NoFault => k_is)
    (case is_NoPaper_NoJoin => k_is)
    (case is_NoPaper_NoLines => k_is)
    (case is_NoPaper_NoPot => k_is)
    (case is_NoPaper_NoRow => k_is)
    (case is_NoPaper_NoStep => k_is)
    (case xl_NoPot => k_is)
    (case sa_NoPot => k_is)
    (case ga_NoPot => k_is)
    (case gg_NoPot => k_is)
    (case kc_NoPot => k_is)
    (case hd_NoPot => k_is)
    (case cl_NoPot => k_is)
    (case mo_NoPot => k_is)
    (case sv_NoPot => k_is)
    (case ss_NoPot => k_is)
    (case ai_NoPot => k_is)
    (case ti_NoPot => k_is)
    (case li_NoPot => k_is)
    (case ci_NoPot => k_is)
    (case ki_NoPot => k_is)
    (case n1_NoPot => k_is)
    (case n2_NoPot => k_is)
    (case is_NoPot_DropError => k_is)
    (case is_NoPot_NoAsk => k_is)
    (case is_NoPot_NoFault => k_is)
    (case is_NoPot_NoJoin => k_is)
    (case is_NoPot_NoLines => k_is)
    (case is_NoPot_NoPaper => k_is)
    (case is_NoPot_NoRow => k_is)
    (case is_NoPot_NoStep => k_is)
    (case xl_NoRow => k_is)
    (case sa_NoRow => k_is)
    (case ga_NoRow => k_is)
    (case gg_NoRow => k_is)
    (case kc_NoRow => k_is)
    (case hd_NoRow => k_is)
    (case cl_NoRow => k_is)
    (case mo_NoRow => k_is)
    (case sv_NoRow => k_is)
    (case ss_NoRow => k_is)
    (case ai_NoRow => k_is)
    (case ti_NoRow => k_is)
    (case li_NoRow => k_is)
    (case ci_NoRow => k_is)
    (case ki_NoRow => k_is)
    (case n1_NoRow => k_is)
    (case is_NoRow_DropError => k_is)
    (case is_NoRow_NoAsk => k_is)
    (case is_NoRow_NoFault => k_is)
    (case is_NoRow_NoJoin => k_is)
    (case is_NoRow_NoLines => k_is)
    (case is_NoRow_NoPaper => k_is)
    (case is_NoRow_NoPot => k_is)
    (case is_NoRow_NoStep => k_is)
    (case xl_NoStep => k_is)
    (case sa_NoStep => k_is)
    (case ga_NoStep => k_is)
    (case gg_NoStep => k_is)
    (case kc_NoStep => k_is)
    (case hd_NoStep => k_is)
    (case cl_NoStep => k_is)
    (case mo_NoStep => k_is)
    (case sv_NoStep => k_is)
    (case ss_NoStep => k_is)
    (case ai_NoStep => k_is)
    (case ti_NoStep => k_is)
    (case li_NoStep => k_is)
    (case ci_NoStep => k_is)
    (case ki_NoStep => k_is)
    (case n1_NoStep => k_is)
    (case is_NoStep_DropError => k_is)
    (case is_NoStep_NoAsk => k_is)
    (case is_NoStep_NoFault => k_is)
    (case is_NoStep_NoJoin => k_is)
    (case is_NoStep_NoLines => k_is)
    (case is_NoStep_NoPaper => k_is)
    (case is_NoStep_NoPot => k_is)
    (case is_NoStep_NoRow => k_is)
    (case xl_DropError => k_is)
    (case ln_DropError => k_is)
    (case no_DropError => first | rfl | simp)
    (case ni_DropError => k_is)
    (case ga_DropError => k_is)
    (case gg_DropError => k_is)
    (case kc_DropError => k_is)
    (case hd_DropError => k_is)
    (case cl_DropError => k_is)
    (case mo_DropError => k_is)
    (case sv_DropError => k_is)
    (case ss_DropError => k_is)
    (case is_DropError_NoAsk => k_is)
    (case is_DropError_NoFault => k_is)
    (case is_DropError_NoJoin => k_is)
    (case is_DropError_NoLines => k_is)
    (case is_DropError_NoPaper => k_is)
    (case is_DropError_NoPot => k_is)
    (case is_DropError_NoRow => k_is)
    (case is_DropError_NoStep => k_is)

