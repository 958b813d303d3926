import PyProof.Rows.All
import Wide.All
import OpenK.AllK
import Wide.FinOn
import HandS.Base
import HandS.Call
import HandS.List
import HandS.Comp
import HandS.Ends
import HandS.Dict
import HandS.Iter
import HandS.Text
import HandS.Words
import HandS.WordsList
import HandS.Exc
import HandS.TryOnly
import HandS.ExcOwn
import HandS.WordsExc
import HandS.Lambda
import HandS.ExcInit
import HandS.TupAny
import HandS.TupMul
import HandS.Wide
import HandS.Deep
import HandS.IsInst
import HandS.More
import HandS.Style
import HandS.Conv
import HandS.WordsDict
import HandS.Defaults
import HandS.MakeKw
import HandS.MakeKwOnly
import KE.KStar
import HandS.SortInts
import HandS.SetFor
import KE.GoesEnum
import PyProof.CollectIter
import HandS.Zip
import KE.KUnpackStar
import HandS.HeadEnd
import HandS.HeadHook1
import HandS.HeadHook2
import HandS.Small
import OpenK.KMeth
import KE.KOpsOwn
import HandS.Property
import PyProof.FactsAll.object_1
import HandS.FStr
import HandS.RaiseMore
import KE.KExcInit
import HandS.ExcField
import HandS.ExcIs
import KE.KExcIs
import KE.KIsAll
import PyProof.ExcBaseAll.LookupError
import PyProof.ExcBaseAll.IndexError
import PyProof.ExcBaseAll.RuntimeError
import PyProof.ExcBaseAll.ValueError
import HandS.DictComp
import HandS.SetKeys
import HandS.Finally
import HandS.ListItems
import PyProof.AssignAttr
import HandS.ListEq
import HandS.DeepEq
import PyProof.Seq
import OpenK.KCls
import KE.DataCmp
import HandS.Flow
import KE.DataFind
import HandS.EndTab
import PyProof.ReprRoads
import KE.KDictSum
import HandS.ClsMeth
import PyProof.StrOps2
import HandS.SortKw
import HandS.HeadHook3
import KE.GoesEnumKw
import PyProof.RulesMatch
import HandS.Head0
import HandS.Head1
import HandS.Head2
import HandS.ExcValue
import Lean
import PySem.Challenge.RW_dequecounts_k01_errors_and_their_fields
set_option Elab.async false
set_option linter.all false
set_option maxRecDepth 100000
set_option maxHeartbeats 4000000
namespace Dn
open PySem PySem.Spec PyProof.Rows L2

/-- a plain value: a tuple is its items; rol: a list that nobody writes; ref: the n-th object of the plain heap; adr: a class or a def of the text -/
inductive AV where
  | non
  | bl (b : Bool)
  | int (i : Int)
  | str (x : Str)
  | tup (xs : List AV)
  | rol (xs : List AV)
  | ref (n : Nat)
  | adr (a : Addr)
  | ty (n : String)
  | cls (t : Nat)
  | exn (t : Nat) (fs : List (Nat × AV))
  | exi (t : Nat)

/-- a plain object -/
inductive AO where
  | lst (xs : List AV)
  | dK (kvs : List (Key × AV))
  | dT (kvs : List (List Key × AV))
  | ins (t : Nat) (fs : List (Nat × AV))
  | frz (o : AO)

abbrev Hep := List AO
abbrev Sl := List (Option AV)

/-- the classes of a text: which numbers are classes whose instances are made, which of them lie under which -/
structure CT where
  kit : Nat → Bool
  sub : Nat → Nat → Bool
abbrev tyNames : List String := ["NoneType", "bool", "int", "str", "list", "tuple", "dict"]
/-- what is asked of a class of the text: no own __ne__, __gt__, __ge__, no base but object among the built-in ones -/
def eqOO (a b : Option (Option Value)) : Bool := decide (a = b)
def clsB (K : PySem.W.Frag) (C : Addr) : Bool := PySem.W.noSeq K C && (PySem.W.selfFirst K C && ((tyNames.all fun n => decide (PySem.W.subIn K (.type n) (.ref C) = some false)) &&
  (eqOO (PySem.W.findIn K (.ref C) "__ne__") (some (some (.builtin "object.__ne__"))) && (eqOO (PySem.W.findIn K (.ref C) "__gt__") (some (some (.builtin "object.__gt__"))) &&
    eqOO (PySem.W.findIn K (.ref C) "__ge__") (some (some (.builtin "object.__ge__")))))))
/-- the written part, the classes by number, the attributes' names by number -/
structure Wd where
  K : PySem.W.Frag
  cl : Nat → Addr
  fn : List Str
  fnd : fn.Nodup
  ct : CT
  cg : ∀ t, ct.kit t = true → Cls K (cl t) ∧ PySem.W.findIn K (.ref (cl t)) "__class__" = some (some (.builtin "object.__class__")) ∧ PySem.W.mroIn K (cl t) (.type "object") = some true
  cd : PySem.W.specialIn K (.builtin "object.__class__") "__get__" = some (some (.builtin "getset_descriptor.__get__"))
  ck : PySem.W.takesIn K (.builtin "object.__class__") = some true
  ctf : ∀ n t, n ∈ tyNames → ct.kit t = true → PySem.W.kitOne K (.type n) (.ref (cl t)) = some false
  cty : ∀ n t, n ∈ tyNames → ct.kit t = true → PySem.W.kitOne K (.ref (cl t)) (.type n) = some false
  csf : ∀ s t, ct.kit s = true → ct.kit t = true → PySem.W.kitOne K (.ref (cl s)) (.ref (cl t)) = some (ct.sub s t)
  cks : ∀ t, ct.kit t = true → L2.Cls K (cl t)
  cb : ∀ t, ct.kit t = true → clsB K (cl t) = true
  css : ∀ s t, ct.kit s = true → ct.kit t = true → PySem.W.subIn K (.ref (cl s)) (.ref (cl t)) = some (ct.sub s t)
  noat : ∀ t s, ct.kit t = true → s ∈ fn → NoAttr K (cl t) s
  /-- the tables of code objects -/
  T : List (Addr × Str) := []

def RoL (K : PySem.W.Frag) (H : Hp) (a : Addr) (xs : List V) : Prop := (∃ o, H a = some (.frz o (.lst xs))) ∨ SqL K (fun _ => none) a xs

/-- an exception of the class C, kept: its object, and its dict if it has one -/
def XiO (C : Addr) (H : Hp) (a : Addr) : Prop := ∃ d, H a = some (exo a C d) ∧ ∀ dd, d = some dd → ∃ fs, H dd = some (exd dd fs)
theorem XiO.mono {C : Addr} {H H' : Hp} {a : Addr} (h : XiO C H a) (k : ∀ a u, H a = some (.ext u) → H' a = some (.ext u)) : XiO C H' a := by
  obtain ⟨d, h1, h2⟩ := h
  refine ⟨d, k _ _ h1, fun dd e => ?_⟩
  obtain ⟨fs, h3⟩ := h2 dd e
  exact ⟨fs, k _ _ h3⟩

mutual
inductive RV (W : Wd) (io : List Addr) (H : Hp) : AV → V → Prop
  | non : RV W io H .non .non
  | bl (b : Bool) : RV W io H (.bl b) (.bl b)
  | int (i : Int) : RV W io H (.int i) (.int i)
  | str (x : Str) : RV W io H (.str x) (.str x)
  | tup {a : Addr} {vs : List V} {xs : List AV} : SqT W.K H a vs → RVs W io H xs vs → RV W io H (.tup xs) (.ref a)
  | rol {a : Addr} {vs : List V} {xs : List AV} : RoL W.K H a vs → RVs W io H xs vs → RV W io H (.rol xs) (.ref a)
  | ref {n : Nat} {a : Addr} : io[n]? = some a → RV W io H (.ref n) (.ref a)
  | adr (a : Addr) : RV W io H (.adr a) (.ref a)
  | ty (n : String) : RV W io H (.ty n) (.ty n)
  | cls (t : Nat) : RV W io H (.cls t) (.ref (W.cl t))
  | exi {t : Nat} {a : Addr} : XiO (W.cl t) H a → RV W io H (.exi t) (.ref a)
inductive RVs (W : Wd) (io : List Addr) (H : Hp) : List AV → List V → Prop
  | nil : RVs W io H [] []
  | cons {x : AV} {v : V} {xs : List AV} {vs : List V} : RV W io H x v → RVs W io H xs vs → RVs W io H (x :: xs) (v :: vs)
end
/-- pairs with equal keys -/
inductive RKs {k : Type} (W : Wd) (io : List Addr) (H : Hp) : List (k × AV) → List (k × V) → Prop
  | nil : RKs W io H [] []
  | cons {q : k} {x : AV} {v : V} {xs : List (k × AV)} {vs : List (k × V)} : RV W io H x v → RKs W io H xs vs → RKs W io H ((q, x) :: xs) ((q, v) :: vs)
/-- attributes: by number, by name -/
inductive RFs (W : Wd) (io : List Addr) (H : Hp) : List (Nat × AV) → List (Str × V) → Prop
  | nil : RFs W io H [] []
  | cons {q : Nat} {s : Str} {x : AV} {v : V} {xs : List (Nat × AV)} {vs : List (Str × V)} : W.fn[q]? = some s → RV W io H x v → RFs W io H xs vs → RFs W io H ((q, x) :: xs) ((s, v) :: vs)

/-- what stands at a place: as HO -/
inductive RO (W : Wd) (io : List Addr) (H : Hp) : AO → HO → Prop
  | lst {xs : List AV} {vs : List V} : RVs W io H xs vs → RO W io H (.lst xs) (.lst vs)
  | dK {xs : List (Key × AV)} {vs : List (Key × V)} : RKs W io H xs vs → RO W io H (.dK xs) (.dK vs)
  | dT {xs : List (List Key × AV)} {vs : List (List Key × V)} : RKs W io H xs vs → RO W io H (.dT xs) (.dT vs)
  | ins {t : Nat} {dx : Addr} {fs : List (Nat × AV)} {vs : List (Str × V)} : W.ct.kit t = true → RFs W io H fs vs → RO W io H (.ins t fs) (.ins (W.cl t) dx vs)
  | frz {o : AO} {u : HO} {b : Obj} : RO W io H o u → RO W io H (.frz o) (.frz b u)

structure Rl (W : Wd) (io : List Addr) (hp : Hep) (H : Hp) : Prop where
  len : io.length = hp.length
  nd : io.Nodup
  ob : ∀ (i : Nat) (a : Addr) (o : AO), io[i]? = some a → hp[i]? = some o → ∃ u, H a = some u ∧ RO W io H o u
  tb : LamX.Tabs W.T H

/-- how the heap goes on -/
structure Ext (W : Wd) (io : List Addr) (H : Hp) (io' : List Addr) (H' : Hp) : Prop where
  pre : ∃ l, io' = io ++ l
  tup : ∀ a xs, SqT W.K H a xs → SqT W.K H' a xs
  rol : ∀ a xs, RoL W.K H a xs → RoL W.K H' a xs
  xd : ∀ a fs, H a = some (.xd fs) → H' a = some (.xd fs)
  frz : ∀ a o u, H a = some (.frz o u) → H' a = some (.frz o u)
  cod : ∀ a u, H a = some (.ext u) → H' a = some (.ext u)
  tab : LamX.Tabs W.T H → LamX.Tabs W.T H'

section
variable {W : Wd} {io io' io'' : List Addr} {H H' H'' : Hp}
theorem Ext.refl : Ext W io H io H := ⟨⟨[], by simp⟩, fun _ _ h => h, fun _ _ h => h, fun _ _ h => h, fun _ _ _ h => h, fun _ _ h => h, fun h => h⟩
theorem Ext.trans (e : Ext W io H io' H') (f : Ext W io' H' io'' H'') : Ext W io H io'' H'' := by
  obtain ⟨l, rfl⟩ := e.pre
  obtain ⟨m, rfl⟩ := f.pre
  exact ⟨⟨l ++ m, by simp⟩, fun a xs h => f.tup a xs (e.tup a xs h), fun a xs h => f.rol a xs (e.rol a xs h), fun a xs h => f.xd a xs (e.xd a xs h), fun a o u h => f.frz a o u (e.frz a o u h), fun a u h => f.cod a u (e.cod a u h), fun h => f.tab (e.tab h)⟩
theorem Ext.at (e : Ext W io H io' H') {n : Nat} {a : Addr} (h : io[n]? = some a) : io'[n]? = some a := by
  obtain ⟨l, rfl⟩ := e.pre
  obtain ⟨hl, _⟩ := List.getElem?_eq_some_iff.mp h
  rw [List.getElem?_append_left hl]
  exact h
mutual
theorem RV.mono (e : Ext W io H io' H') : ∀ {x : AV} {v : V}, RV W io H x v → RV W io' H' x v
  | _, _, .non => .non
  | _, _, .bl b => .bl b
  | _, _, .int i => .int i
  | _, _, .str x => .str x
  | _, _, .tup h r => .tup (e.tup _ _ h) (RVs.mono e r)
  | _, _, .rol h r => .rol (e.rol _ _ h) (RVs.mono e r)
  | _, _, .ref h => .ref (e.at h)
  | _, _, .adr a => .adr a
  | _, _, .ty n => .ty n
  | _, _, .cls t => .cls t
  | _, _, .exi h => .exi (h.mono fun a u => e.cod a u)
theorem RVs.mono (e : Ext W io H io' H') : ∀ {xs : List AV} {vs : List V}, RVs W io H xs vs → RVs W io' H' xs vs
  | _, _, .nil => .nil
  | _, _, .cons r q => .cons (RV.mono e r) (RVs.mono e q)
end
theorem RKs.mono {k : Type} (e : Ext W io H io' H') : ∀ {xs : List (k × AV)} {vs : List (k × V)}, RKs W io H xs vs → RKs W io' H' xs vs
  | _, _, .nil => .nil
  | _, _, .cons r q => .cons (RV.mono e r) (RKs.mono e q)
theorem RFs.mono (e : Ext W io H io' H') : ∀ {xs : List (Nat × AV)} {vs : List (Str × V)}, RFs W io H xs vs → RFs W io' H' xs vs
  | _, _, .nil => .nil
  | _, _, .cons f r q => .cons f (RV.mono e r) (RFs.mono e q)
theorem RO.mono (e : Ext W io H io' H') {o : AO} {u : HO} (h : RO W io H o u) : RO W io' H' o u := by
  induction h with
  | lst r => exact .lst (r.mono e)
  | dK r => exact .dK (r.mono e)
  | dT r => exact .dT (r.mono e)
  | ins k r => exact .ins k (r.mono e)
  | frz _ ih => exact .frz ih

theorem RVs.len : ∀ {xs : List AV} {vs : List V}, RVs W io H xs vs → xs.length = vs.length
  | _, _, .nil => rfl
  | _, _, .cons _ q => by simp [RVs.len q]
theorem RVs.get : ∀ {xs : List AV} {vs : List V} {i : Nat} {x : AV}, RVs W io H xs vs → xs[i]? = some x → ∃ v, vs[i]? = some v ∧ RV W io H x v
  | _, _, _, _, .nil, h => by simp at h
  | _, _, 0, _, .cons r _, h => by simp at h; subst h; exact ⟨_, rfl, r⟩
  | _, _, i + 1, x, .cons _ q, h => by
    obtain ⟨v, a, b⟩ := RVs.get (i := i) (x := x) q (by simpa using h)
    exact ⟨v, by simpa using a, b⟩
theorem RVs.set : ∀ {xs : List AV} {vs : List V} (n : Nat) {x : AV} {v : V}, RV W io H x v → RVs W io H xs vs → RVs W io H (xs.set n x) (vs.set n v)
  | _, _, _, _, _, _, .nil => .nil
  | _, _, 0, _, _, r, .cons _ t => .cons r t
  | _, _, n + 1, _, _, r, .cons q t => .cons q (RVs.set n r t)
theorem Rl.at (R : Rl W io hp H) {n : Nat} {a : Addr} {o : AO} (hi : io[n]? = some a) (ho : hp[n]? = some o) : ∃ u, H a = some u ∧ RO W io H o u := R.ob n a o hi ho
theorem Rl.lst (R : Rl W io hp H) {n : Nat} {a : Addr} {xs : List AV} (hi : io[n]? = some a) (ho : hp[n]? = some (.lst xs)) : ∃ vs, H a = some (.lst vs) ∧ RVs W io H xs vs := by
  obtain ⟨u, e, r⟩ := R.at hi ho
  cases r with
  | lst q => exact ⟨_, e, q⟩
theorem Rl.dK (R : Rl W io hp H) {n : Nat} {a : Addr} {xs : List (Key × AV)} (hi : io[n]? = some a) (ho : hp[n]? = some (.dK xs)) : ∃ vs, H a = some (.dK vs) ∧ RKs W io H xs vs := by
  obtain ⟨u, e, r⟩ := R.at hi ho
  cases r with
  | dK q => exact ⟨_, e, q⟩
theorem Rl.dT (R : Rl W io hp H) {n : Nat} {a : Addr} {xs : List (List Key × AV)} (hi : io[n]? = some a) (ho : hp[n]? = some (.dT xs)) : ∃ vs, H a = some (.dT vs) ∧ RKs W io H xs vs := by
  obtain ⟨u, e, r⟩ := R.at hi ho
  cases r with
  | dT q => exact ⟨_, e, q⟩
theorem Rl.ins (R : Rl W io hp H) {n t : Nat} {a : Addr} {xs : List (Nat × AV)} (hi : io[n]? = some a) (ho : hp[n]? = some (.ins t xs)) : ∃ dx vs, H a = some (.ins (W.cl t) dx vs) ∧ RFs W io H xs vs ∧ W.ct.kit t = true := by
  obtain ⟨u, e, r⟩ := R.at hi ho
  cases r with
  | ins k q => exact ⟨_, _, e, q, k⟩
theorem Rl.has (R : Rl W io hp H) {n : Nat} {a : Addr} (hi : io[n]? = some a) : ∃ o u, hp[n]? = some o ∧ H a = some u ∧ RO W io H o u := by
  obtain ⟨hl, _⟩ := List.getElem?_eq_some_iff.mp hi
  have h2 : hp[n]? = some (hp[n]'(by rw [← R.len]; exact hl)) := List.getElem?_eq_getElem _
  obtain ⟨u, e, r⟩ := R.at hi h2
  exact ⟨_, u, h2, e, r⟩
/-- the objects that may be written -/
def Wr : HO → Prop
  | .lst _ => True
  | .dK _ => True
  | .dT _ => True
  | .ins _ _ _ => True
  | _ => False
theorem sqT_set {K : PySem.W.Frag} {p : Addr} {u ho : HO} (hp : H p = some u) (w : Wr u) {a : Addr} {xs : List V} (h : SqT K H a xs) : SqT K (upd H p ho) a xs := by
  rcases h with (h | ⟨o, h⟩) | h
  · exact .inl (.inl (by rw [upd_ne (ne_of h hp (by rintro rfl; exact w))]; exact h))
  · exact .inl (.inr ⟨o, by rw [upd_ne (ne_of h hp (by rintro rfl; exact w))]; exact h⟩)
  · exact .inr h
theorem roL_set {K : PySem.W.Frag} {p : Addr} {u ho : HO} (hp : H p = some u) (w : Wr u) {a : Addr} {xs : List V} (h : RoL K H a xs) : RoL K (upd H p ho) a xs := by
  rcases h with ⟨o, h⟩ | h
  · exact .inl ⟨o, by rw [upd_ne (ne_of h hp (by rintro rfl; exact w))]; exact h⟩
  · exact .inr h
theorem tab_set {p : Addr} {u ho : HO} (hp : H p = some u) (w : Wr u) {P : Addr} {q : Str} (t : LamX.TabS H P q) : LamX.TabS (upd H p ho) P q := by
  obtain ⟨ps, h1, h2, h3⟩ := t
  refine ⟨ps, by rw [upd_ne (ne_of h1 hp (by rintro rfl; exact w))]; exact h1, h2, fun pos cv hc => ?_⟩
  obtain ⟨c, e1, e2⟩ := h3 pos cv hc
  exact ⟨c, e1, by rw [upd_ne (ne_of e2 hp (by rintro rfl; exact w))]; exact e2⟩
theorem Ext.set {p : Addr} {u : HO} (ho : HO) (hp : H p = some u) (w : Wr u) : Ext W io H io (upd H p ho) :=
  ⟨⟨[], by simp⟩, fun _ _ h => sqT_set hp w h, fun _ _ h => roL_set hp w h, fun a fs h => by rw [upd_ne (ne_of h hp (by rintro rfl; exact w))]; exact h, fun a o v h => by rw [upd_ne (ne_of h hp (by rintro rfl; exact w))]; exact h, fun a v h => by rw [upd_ne (ne_of h hp (by rintro rfl; exact w))]; exact h, fun h p' hp' => tab_set hp w (h p' hp')⟩
theorem Rl.set (R : Rl W io hp H) {n : Nat} {p : Addr} {u ho : HO} {o : AO} (hi : io[n]? = some p) (hu : H p = some u) (w : Wr u) (r : RO W io (upd H p ho) o ho) : Rl W io (hp.set n o) (upd H p ho) := by
  refine ⟨by simp [R.len], R.nd, fun i a q hi' h => ?_, (Ext.set (W := W) (io := io) ho hu w).tab R.tb⟩
  by_cases e : i = n
  · subst e
    rw [hi] at hi'
    cases hi'
    obtain ⟨hl, _⟩ := List.getElem?_eq_some_iff.mp h
    rw [List.length_set] at hl
    rw [List.getElem?_set_self hl] at h
    cases h
    exact ⟨ho, upd_same, r⟩
  · rw [List.getElem?_set_ne (Ne.symm e)] at h
    obtain ⟨v, ev, rv⟩ := R.at hi' h
    have ne : a ≠ p := fun z => by
      subst z
      obtain ⟨l1, e1⟩ := List.getElem?_eq_some_iff.mp hi
      obtain ⟨l2, e2⟩ := List.getElem?_eq_some_iff.mp hi'
      exact e ((List.getElem_inj R.nd).mp (e2.trans e1.symm))
    exact ⟨v, by rw [upd_ne ne]; exact ev, rv.mono (Ext.set ho hu w)⟩
end
end Dn
namespace Dn
open PySem PySem.Spec PyProof.Rows L2

/-- what an expression comes to -/
inductive R (T : Type) where
  | ok (a : T) (h : Hep)
  | exc (t : Nat) (fs : List (Nat × AV)) (h : Hep)
  | stuck
def R.bind {T U : Type} (r : R T) (k : T → Hep → R U) : R U := match r with
  | .ok a h => k a h
  | .exc t fs h => .exc t fs h
  | .stuck => .stuck
abbrev Op (T : Type) := Option (T × Hep)
def R.of {T : Type} : Op T → R T
  | some (a, h) => .ok a h
  | none => .stuck
abbrev DE := Sl → Hep → R AV
/-- what a statement comes to -/
inductive SR where
  | nx (s : Sl) (h : Hep)
  | rt (v : AV) (h : Hep)
  | bk (s : Sl) (h : Hep)
  | ct (s : Sl) (h : Hep)
  | exc (t : Nat) (fs : List (Nat × AV)) (s : Sl) (h : Hep)
  | stuck
abbrev DS := Sl → Hep → SR
def SR.then (r : SR) (k : Sl → Hep → SR) : SR := match r with
  | .nx s h => k s h
  | r => r

/-- an exception: its class, its fields -/
def RXf (W : Wd) (io : List Addr) (H : Hp) (fs : List (Nat × AV)) (d : Option Addr) : Prop := (fs = [] ∧ d = none) ∨ ∃ dd vs, d = some dd ∧ H dd = some (.xd vs) ∧ RFs W io H fs vs
theorem RXf.mono {W : Wd} {io io' : List Addr} {H H' : Hp} {fs : List (Nat × AV)} {d : Option Addr} (h : RXf W io H fs d) (e : Ext W io H io' H') : RXf W io' H' fs d := h.imp id fun ⟨dd, vs, e1, e2, e3⟩ => ⟨dd, vs, e1, e.xd _ _ e2, e3.mono e⟩
def RX (W : Wd) (io : List Addr) (H : Hp) (t : Nat) (fs : List (Nat × AV)) (cls : Value) (d : Option Addr) : Prop :=
  cls = .ref (W.cl t) ∧ RXf W io H fs d

/-- how the slots are held -/
structure Md (W : Wd) where
  rel : List Addr → Hp → Sl → L2.St → Prop
  mono : ∀ {io io' H H' as σ}, Ext W io H io' H' → rel io H as σ → rel io' H' as σ
  var : ∀ {io H as σ} {i : Nat} {v : AV}, rel io H as σ → as[i]? = some (some v) → (∀ t fs, v ≠ .exn t fs) → ∃ x, σ[i]? = some (some x) ∧ RV W io H v x
  ok : Nat → Prop
  set : ∀ {io H as σ} {i : Nat} {v : AV} {x : V}, rel io H as σ → RV W io H v x → ok i → rel io H (as.set i (some v)) (σ.set i (some x))
  wipe : ∀ {io H as σ} {i : Nat}, rel io H as σ → ok i → rel io H (as.set i none) (σ.set i none)

/-- the slots of a def -/
def std (W : Wd) : Md W where
  rel := fun io H as σ => as.length = σ.length ∧ ∀ (i : Nat) (v : AV), as[i]? = some (some v) → ∃ x, σ[i]? = some (some x) ∧ RV W io H v x
  mono := fun e h => ⟨h.1, fun i v a => by
    obtain ⟨x, b, r⟩ := h.2 i v a
    exact ⟨x, b, r.mono e⟩⟩
  var := fun h a _ => h.2 _ _ a
  ok := fun _ => True
  set := fun {io H as σ i v x} h r _ => ⟨by simp [h.1], fun j w a => by
    by_cases e : j = i
    · subst e
      obtain ⟨hl, _⟩ := List.getElem?_eq_some_iff.mp a
      rw [List.length_set] at hl
      rw [List.getElem?_set_self hl] at a
      cases a
      exact ⟨x, List.getElem?_set_self (by rw [← h.1]; exact hl), r⟩
    · rw [List.getElem?_set_ne (Ne.symm e)] at a ⊢
      exact h.2 j w a⟩
  wipe := fun {io H as σ i} h _ => ⟨by simp [h.1], fun j w a => by
    by_cases e : j = i
    · subst e
      obtain ⟨hl, _⟩ := List.getElem?_eq_some_iff.mp a
      rw [List.length_set] at hl
      rw [List.getElem?_set_self hl] at a
      cases a
    · rw [List.getElem?_set_ne (Ne.symm e)] at a ⊢
      exact h.2 j w a⟩

section
variable {W : Wd} {M : Md W} {T T' U U' : Type}
abbrev Rel (T U : Type) := List Addr → Hp → T → U → Prop
def Pop (W : Wd) (rh : Rel T U) (Q : U → Hp → Prop) (io : List Addr) (H : Hp) : Op T → Prop
  | some (v, hp) => ∀ io' H' x, Ext W io H io' H' → Rl W io' hp H' → rh io' H' v x → Q x H'
  | none => False
def Pst (W : Wd) (rh : Rel T U) (E : WX) (σ : L2.St) (Q : U → Hp → Prop) (io : List Addr) (H : Hp) : R T → Prop
  | .ok v hp => ∀ io' H' x, Ext W io H io' H' → Rl W io' hp H' → rh io' H' v x → Q x H'
  | .exc t fs hp => ∀ io' H' cls d, Ext W io H io' H' → Rl W io' hp H' → RX W io' H' t fs cls d → E cls d σ H'
  | .stuck => False
def Pss (W : Wd) (M : Md W) (E : WX) (D : Ends) (io : List Addr) (H : Hp) : SR → Prop
  | .nx s hp => ∀ io' H' σ', Ext W io H io' H' → Rl W io' hp H' → M.rel io' H' s σ' → D.nx σ' H'
  | .rt v hp => ∀ io' H' x, Ext W io H io' H' → Rl W io' hp H' → RV W io' H' v x → D.rt x H'
  | .bk s hp => ∀ io' H' σ', Ext W io H io' H' → Rl W io' hp H' → M.rel io' H' s σ' → D.bk σ' H'
  | .ct s hp => ∀ io' H' σ', Ext W io H io' H' → Rl W io' hp H' → M.rel io' H' s σ' → D.ct σ' H'
  | .exc t fs s hp => ∀ io' H' σ' cls d, Ext W io H io' H' → Rl W io' hp H' → M.rel io' H' s σ' → RX W io' H' t fs cls d → E cls d σ' H'
  | .stuck => False
def tG (W : Wd) (M : Md W) (rh : Rel T U) (E : WX) (f : Sl → Hep → R T) : L2.St → Hp → (U → Hp → Prop) → Prop :=
  fun σ H Q => ∃ io hp as, Rl W io hp H ∧ M.rel io H as σ ∧ Pst W rh E σ Q io H (f as hp)
def tS (W : Wd) (M : Md W) (E : WX) (f : DS) : TS :=
  fun D σ H => ∃ io hp as, Rl W io hp H ∧ M.rel io H as σ ∧ Pss W M E D io H (f as hp)
abbrev tD (W : Wd) (M : Md W) (E : WX) (f : DE) : TE := tG W M (RV W) E f
section
variable {rh : Rel T U} {rh' : Rel T' U'} {E : WX} {D : Ends} {σ : L2.St} {H H1 : Hp} {io io1 : List Addr} {hp : Hep} {as : Sl}
theorem Pop.later {Q : U → Hp → Prop} {r : Op T} (h : Pop W rh Q io H r) (e : Ext W io H io1 H1) : Pop W rh Q io1 H1 r := by
  match r, h with
  | some (v, hp), h => exact fun io' H' x e' => h io' H' x (e.trans e')
theorem Pst.later {Q : U → Hp → Prop} {r : R T} (h : Pst W rh E σ Q io H r) (e : Ext W io H io1 H1) : Pst W rh E σ Q io1 H1 r := by
  cases r with
  | ok v hp => exact fun io' H' x e' => h io' H' x (e.trans e')
  | exc t fs hp => exact fun io' H' c d e' => h io' H' c d (e.trans e')
  | stuck => exact h
theorem Pss.later {r : SR} (h : Pss W M E D io H r) (e : Ext W io H io1 H1) : Pss W M E D io1 H1 r := by
  cases r with
  | nx s hp => exact fun io' H' x e' => h io' H' x (e.trans e')
  | rt s hp => exact fun io' H' x e' => h io' H' x (e.trans e')
  | bk s hp => exact fun io' H' x e' => h io' H' x (e.trans e')
  | ct s hp => exact fun io' H' x e' => h io' H' x (e.trans e')
  | exc t fs s hp => exact fun io' H' x c d e' => h io' H' x c d (e.trans e')
  | stuck => exact h
theorem Pst.of {Q : U → Hp → Prop} {r : Op T} (h : Pst W rh E σ Q io H (R.of r)) : Pop W rh Q io H r := by
  match r, h with
  | some (v, hp), h => exact h
  | none, h => exact h
theorem tG.imp {f : Sl → Hep → R T} {Q Q' : U → Hp → Prop} (h : tG W M rh E f σ H Q) (k : ∀ x H1, Q x H1 → Q' x H1) : tG W M rh E f σ H Q' := by
  obtain ⟨io, hp, as, rl, S, P⟩ := h
  refine ⟨io, hp, as, rl, S, ?_⟩
  cases z : f as hp with
  | ok a hp1 =>
    rw [z] at P
    exact fun io' H' x e r q => k _ _ (P io' H' x e r q)
  | exc t fs hp1 =>
    rw [z] at P
    exact P
  | stuck =>
    rw [z] at P
    exact P
theorem Pst.ok {Q : U → Hp → Prop} {v : T} {x : U} (P : Pst W rh E σ Q io H (.ok v hp)) (rl : Rl W io hp H) (r : rh io H v x) : Q x H := P io H x Ext.refl rl r
end
end

section
variable {X : Cx}
end

section
variable {W : Wd} {M : Md W} {E : WX} {X : Cx}
end

abbrev D2 := AV → AV → Hep → Op AV
def t2 (W : Wd) (r : D2) : R2 := fun x y H Q => ∃ io hp a b, Rl W io hp H ∧ RV W io H a x ∧ RV W io H b y ∧ Pop W (RV W) Q io H (r a b hp)
section
variable {W : Wd} {M : Md W} {E : WX} {X : Cx} {a b c : Expr} {es : List Expr} {f g k : DE} {fa ga : DA} {r : D2} {pos : Pos}
end

section
variable {W : Wd} {M : Md W} {E : WX} {X : Cx} {a b c : Expr} {es : List Expr} {f g k : DE} {ft gt : DT} {r r' : D2} {pos : Pos}
theorem Pop.ok {T U : Type} {rh : Rel T U} {io : List Addr} {H : Hp} {hp : Hep} {Q : U → Hp → Prop} {v : T} {x : U} (P : Pop W rh Q io H (some (v, hp))) (rl : Rl W io hp H) (r : rh io H v x) : Q x H := P io H x Ext.refl rl r
end

section
variable {W : Wd} {M : Md W} {E : WX} {X : Cx} {a b c : Expr} {st : Stmt} {sts sts' : List Stmt} {f g k : DE} {ft gt : DT} {fs gs : DS} {pos : Pos}
end
end Dn
namespace L2
open PySem PySem.Spec PyProof.Rows
section
variable {X : Cx}
end
end L2
namespace Dn
open PySem PySem.Spec PyProof.Rows L2

section
variable {W : Wd} {io : List Addr} {H : Hp} {hp : Hep}
end

section
variable {W : Wd} {X : Cx}
end

/-- a value as data: lists read off the heap -/
def toD : Nat → Hep → AV → Option PyData
  | 0, _, _ => none
  | _ + 1, _, .non => some .none
  | _ + 1, _, .bl b => some (.bool b)
  | _ + 1, _, .int i => some (.int i)
  | _ + 1, _, .str x => some (.str x)
  | n + 1, h, .tup xs => (xs.mapM (toD n h)).map .tuple
  | n + 1, h, .rol xs => (xs.mapM (toD n h)).map .list
  | n + 1, h, .ref k => match h[k]? with
    | some (.lst xs) => (xs.mapM (toD n h)).map .list
    | _ => none
  | _ + 1, _, _ => none
section
variable {W : Wd} {io : List Addr} {H : Hp} {hp : Hep}
end
section
variable {W : Wd} {X : Cx}
end
end Dn
namespace Dn
open PySem PySem.Spec PyProof.Rows L2

section
variable {k : Type} [DecidableEq k]
def dget (kvs : List (k × AV)) (q : k) : Option AV := (kvs.find? fun kv => decide (kv.1 = q)).map (·.2)
variable {W : Wd} {io : List Addr} {H : Hp}
theorem RKs.len : ∀ {xs : List (k × AV)} {vs : List (k × V)}, RKs W io H xs vs → xs.length = vs.length
  | _, _, .nil => rfl
  | _, _, .cons _ q => by simp [RKs.len q]
theorem RKs.keys : ∀ {xs : List (k × AV)} {vs : List (k × V)}, RKs W io H xs vs → xs.map (·.1) = vs.map (·.1)
  | _, _, .nil => rfl
  | _, _, .cons _ q => by simp [RKs.keys q]
/-- both have it, or none has -/
def RVo (W : Wd) (io : List Addr) (H : Hp) : Option AV → Option V → Prop
  | some a, some v => RV W io H a v
  | none, none => True
  | _, _ => False
theorem RKs.get : ∀ {xs : List (k × AV)} {vs : List (k × V)} (q : k), RKs W io H xs vs → RVo W io H (dget xs q) (valV vs q)
  | _, _, _, .nil => trivial
  | (q', x) :: xs, (_, v) :: vs, q, .cons r t => by
    have ih := RKs.get q t
    unfold dget valV at ih ⊢
    by_cases e : q' = q
    · simp [List.find?_cons, e]
      exact r
    · simp only [List.find?_cons, e, decide_false]
      exact ih
theorem RKs.any : ∀ {xs : List (k × AV)} {vs : List (k × V)} (q : k), RKs W io H xs vs → (xs.any fun kv => decide (kv.1 = q)) = vs.any fun kv => decide (kv.1 = q)
  | _, _, _, .nil => rfl
  | _, _, q, .cons r t => by simp [List.any_cons, RKs.any q t]
end
section
variable {W : Wd} {io : List Addr} {H : Hp}
end

section
variable {W : Wd} {X : Cx}
end

section
variable {W : Wd} {X : Cx}
end

section
variable {W : Wd} {X : Cx}
section
variable {M : Md W} {E : WX} {e : Expr} {lo hi : Option Expr} {f : DE} {l u : DO} {pos p2 : Pos}
end
end

section
variable {W : Wd} {X : Cx} {M : Md W} {E : WX} {es : List Expr} {f : DA} {pos : Pos}
end
end Dn
namespace Dn
open PySem PySem.Spec PyProof.Rows L2

/-- fixed items, or the list at a place as it is at each turn -/
inductive Src where
  | fix (xs : List AV)
  | at (n : Nat)
  /-- places and items of a sequence -/
  | enF (xs : List AV)
  | enA (n : Nat)
  /-- two lists, side by side -/
  | zip (m n : Nat)
  /-- a locked dict: its keys, values, pairs, or keys with their places -/
  | dK (n w : Nat)
def Src.len (s : Src) (h : Hep) : Nat := match s with
  | .fix xs => xs.length
  | .enF xs => xs.length
  | .at n => (match h[n]? with
    | some (.lst xs) => xs.length
    | _ => 0)
  | .enA n => (match h[n]? with
    | some (.lst xs) => xs.length
    | _ => 0)
  | .zip m _ => (match h[m]? with
    | some (.lst xs) => xs.length
    | _ => 0)
  | .dK n _ => (match h[n]? with
    | some (.frz (.dK kvs)) => kvs.length
    | _ => 0)
section
variable {W : Wd} {M : Md W} {X : Cx} {pos : Pos} {C : CS}
end

section
variable {W : Wd} {M : Md W} {E : WX} {X : Cx} {tg iter : Expr} {body : List Stmt} {f : DI} {g : DG} {fb : DS} {pos : Pos}
end

section
variable {W : Wd} {M : Md W} {E : WX} {X : Cx} {c : Expr} {body : List Stmt} {ft : DT} {fb : DS} {pos : Pos}
end

abbrev E0x : WX := fun _ _ _ _ => False
section
variable {W : Wd} {M : Md W} {E : WX} {X : Cx} {pos : Pos}
end

section
variable {W : Wd} {M : Md W} {E : WX} {X : Cx} {tg : Expr}
end
end Dn
namespace Dn
open PySem PySem.Spec PyProof.Rows L2

abbrev DF := List AV → Hep → R AV
def Pfn (W : Wd) (E : XK) (Q : VK) (io : List Addr) (H : Hp) : R AV → Prop
  | .ok v hp => ∀ io' H' x, Ext W io H io' H' → Rl W io' hp H' → RV W io' H' v x → Q x H'
  | .exc t fs hp => ∀ io' H' cls d, Ext W io H io' H' → Rl W io' hp H' → RX W io' H' t fs cls d → E cls d H'
  | .stuck => False
def spD (W : Wd) (n : Nat) (f : DF) : Sp := fun vs H Q E => ∃ io hp as, as.length = n ∧ Rl W io hp H ∧ RVs W io H as vs ∧ Pfn W E Q io H (f as hp)
def SR.fin : SR → R AV
  | .nx _ h => .ok .non h
  | .rt v h => .ok v h
  | .exc t fs _ h => .exc t fs h
  | _ => .stuck
theorem Pfn.later {W : Wd} {E : XK} {Q : VK} {io io1 : List Addr} {H H1 : Hp} {r : R AV} (h : Pfn W E Q io H r) (e : Ext W io H io1 H1) : Pfn W E Q io1 H1 r := by
  cases r with
  | ok v hp => exact fun io' H' x e' => h io' H' x (e.trans e')
  | exc t fs hp => exact fun io' H' c d e' => h io' H' c d (e.trans e')
  | stuck => exact h
section
variable {P : Program} {w : World} {mg : Str → Option Value} {base : Heap} {W : Wd} {x qual : Str} {params : Arguments} {body : List Stmt} {scope : Scope} {dvs : List V} {kws : List (Str × V)} {f : Addr} {fd : FuncData}
end

def sel {α : Type} (ix : List Nat) (xs : List α) : List α := ix.filterMap (xs[·]?)
/-- n positional values, keywords ks: the bound ones are those at ix of: positional ++ dfl ++ keywords' -/
def BnD (W : Wd) (fd : FuncData) (ps : List Str) (n : Nat) (ks : List Str) (ix : List Nat) (dfl : List AV) : Prop :=
  ∃ (g : List Value → List Value → List Value) (gV : List V → List V → List V), KBn W.K fd ps n ks g gV ∧
    ∀ io H as bs vs zs, RVs W io H as vs → RVs W io H bs zs → RVs W io H (sel ix (as ++ dfl ++ bs)) (gV vs zs)
section
variable {W : Wd} {x qual : Str} {params : Arguments} {body : List Stmt} {scope : Scope} {dvs : List V} {kws : List (Str × V)} {f : Addr} {fd : FuncData} {ps : List Str}
end

section
variable {W : Wd} {M : Md W} {E : WX} {X : Cx} {k j n m : Nat} {f : Addr} {fd : FuncData} {ps ks : List Str} {F : DF} {x : Str} {p pos apos kpos : Pos} {e o : Expr} {es : List Expr} {kws : List Keyword} {fa fk : DA} {fe : DE} {ix : List Nat} {dfl : List AV}
theorem Pst.fn {σ : L2.St} {Q : VK} {io : List Addr} {H : Hp} {r : R AV} (h : Pst W (RV W) E σ Q io H r) : Pfn W (WE E σ) Q io H r := by
  cases r with
  | ok v hp => exact h
  | exc t fs hp => exact h
  | stuck => exact h
end
end Dn
namespace Dn
open PySem PySem.Spec PyProof.Rows L2

section
variable {W : Wd} {M : Md W} {E : WX} {X : Cx}
end

section
variable {W : Wd} {M : Md W} {E : WX} {X : Cx} {f : DE} {fa : DA} {e a b c tg : Expr} {es : List Expr} {g : DG} {pos : Pos}
end
end Dn
namespace Dn
open PySem PySem.Spec PyProof.Rows L2

section
variable {W : Wd} {M : Md W} {E : WX} {X : Cx}
inductive TW where
  | ty (n : String)
  | cls (t : Nat)
def TW.sub (ct : CT) : TW → TW → Bool
  | .ty a, .ty b => a == b || (a == "bool" && b == "int")
  | .cls s, .cls t => ct.sub s t
  | _, _ => false
def TW.val (W : Wd) : TW → Value
  | .ty n => .type n
  | .cls t => .ref (W.cl t)
variable {e o : Expr} {es : List Expr} {fa : DA} {f : DE} {x : Str} {p pos apos : Pos} {r : DL} {id T : String}
variable {name : Str} {r : DMt}
end
end Dn
namespace PySem
open Sem (wp)
section
variable {prog : Program} {w : World} {A : Around} {E : Value → Shared → Prop} {s : Shared}
end
end PySem
namespace Dn
open PySem PySem.Spec PyProof.Rows L2

section
variable {W : Wd} {M : Md W} {E : WX} {X : Cx} {e : Expr} {f : DE} {p pos tpos : Pos} {elts : List Expr} {kk : Nat}
end
end Dn
namespace Dn
open PySem PySem.Spec PyProof.Rows L2
section
variable {W : Wd} {M : Md W} {E : WX} {X : Cx} {e e2 : Expr} {fa : DA} {p pos tpos : Pos} {elts : List Expr} {kk : Nat}
end
end Dn
namespace Dn
open PySem PySem.Spec PyProof.Rows L2

section
variable {W : Wd} {M : Md W} {E : WX} {X : Cx} {f : DE} {e : Expr} {es : List Expr} {gs : DGs} {g : DG} {pos tpos p : Pos} {kk i : Nat} {C : CS}
end
end Dn
namespace Dn
open PySem PySem.Spec PyProof.Rows L2

section
variable {W : Wd} {M : Md W} {E : WX} {X : Cx} {k : Nat}
end
abbrev Bs := List (Nat × List Str × List Nat × List AV)
def Has (P : Program) (w : World) (mg : Str → Option Value) (base : Heap) (W : Wd) (k : Nat) (x : Str) (ps : List Str) (n : Nat) (F : DF) (bs : Bs) : Prop :=
  ∃ (a : Addr) (fd : FuncData), mg x = some (.ref a) ∧ PySem.W.keepIn W.K (.ref a) = true ∧ FnOk P w W.K mg base (L2.CX P w) k a fd ps (spD W n F) ∧ ∀ b ∈ bs, BnD W fd ps b.1 b.2.1 b.2.2.1 b.2.2.2
section
variable {W : Wd} {M : Md W} {E : WX} {X : Cx} {k j n m q : Nat} {ps ks : List Str} {F : DF} {x : Str} {p pos : Pos} {e : Expr} {es : List Expr} {kws : List Keyword} {fa fk : DA} {ix : List Nat} {dfl : List AV} {bs : Bs}
end

def obsE (fa : List He.Fa) (fn : List He.DefD) (xt : List (PySem.W.Frag → Bool)) (K : PySem.W.Frag) : He.AlD := ((He.obsD fa fn K).1 && xt.all fun f => f K, (He.obsD fa fn K).2)
def SaysE (fa : List He.Fa) (fn : List He.DefD) (xt : List (PySem.W.Frag → Bool)) (K : PySem.W.Frag) : Prop := obsE fa fn xt K = He.valD fn
theorem SaysE.says {fa : List He.Fa} {fn : List He.DefD} {xt : List (PySem.W.Frag → Bool)} {K : PySem.W.Frag} (c : SaysE fa fn xt K) : He.SaysD fa fn K ∧ ∀ (i : Nat) (f : PySem.W.Frag → Bool), xt[i]? = some f → f K = true := by
  have c0 : obsE fa fn xt K = He.valD fn := c
  have d1 : (obsE fa fn xt K).1 = true := by
    rw [c0]
    rfl
  have c1 : ((He.obsD fa fn K).1 && xt.all fun f => f K) = true := d1
  have d2 : (obsE fa fn xt K).2 = (He.valD fn).2 := by rw [c0]
  have c2 : (He.obsD fa fn K).2 = (He.valD fn).2 := d2
  obtain ⟨c3, c4⟩ := He.ba c1
  refine ⟨?_, fun i f h => List.all_eq_true.mp c4 f (List.mem_of_getElem? h)⟩
  show He.obsD fa fn K = He.valD fn
  exact Prod.ext c3 c2
end Dn
namespace Dn
open PySem PySem.Spec PyProof.Rows L2

section
variable {W : Wd} {M : Md W} {E : WX} {X : Cx} {k : Nat}
end
def cdB (K : PySem.W.Frag) : Bool := He.eqO (PySem.W.specialIn K (.builtin "object.__class__") "__get__") (some (some (.builtin "getset_descriptor.__get__")))
def ckB (K : PySem.W.Frag) : Bool := decide (PySem.W.takesIn K (.builtin "object.__class__") = some true)
end Dn
namespace Dn
open PySem

def Fr (ex : List Nat) (h h' : Hep) : Prop := h.length ≤ h'.length ∧ ∀ i, i < h.length → i ∉ ex → h'[i]? = h[i]?
theorem Fr.refl {ex : List Nat} {h : Hep} : Fr ex h h := ⟨Nat.le_refl _, fun _ _ _ => rfl⟩
theorem Fr.trans {ex : List Nat} {h h' h'' : Hep} (a : Fr ex h h') (b : Fr ex h' h'') : Fr ex h h'' := ⟨Nat.le_trans a.1 b.1, fun i hi he => (b.2 i (Nat.lt_of_lt_of_le hi a.1) he).trans (a.2 i hi he)⟩
theorem Fr.mono {ex ex' : List Nat} {h h' : Hep} (a : Fr ex h h') (k : ∀ i, i < h.length → i ∈ ex → i ∈ ex') : Fr ex' h h' := ⟨a.1, fun i hi he => a.2 i hi fun z => he (k i hi z)⟩
theorem Fr.at {ex : List Nat} {h h' : Hep} (a : Fr ex h h') {i : Nat} {o : AO} (e : h[i]? = some o) (he : i ∉ ex) : h'[i]? = some o := by
  obtain ⟨hl, _⟩ := List.getElem?_eq_some_iff.mp e
  rw [a.2 i hl he]
  exact e
theorem Fr.set {ex : List Nat} {h : Hep} {i : Nat} {o : AO} (he : i ∈ ex) : Fr ex h (h.set i o) := ⟨by simp, fun j hj hn => List.getElem?_set_ne (fun z => hn (by rw [← z]; exact he))⟩
section
variable {T U : Type} {a : T} {h h1 : Hep} {s s1 : Sl} {t : Nat} {fs : List (Nat × AV)} {v : AV}
variable {f g k : DE} {c d : DT} {x y : DS} {fa ga : DA} {r r' : D2} {u : D1} {l : DL} {i j m n q : Nat} {b : Bool} {gt : DG} {gs : DGs} {F : DF} {ix : List Nat} {dfl : List AV} {lo hi : DO} {ty : String} {dm : DMt}
def AV.nx : AV → Bool
  | .exn _ _ => false
  | _ => true
end

section
variable {h : Hep} {i j : Int}
end
theorem Fr.nil {ex : List Nat} {h h' : Hep} (f : Fr [] h h') : Fr ex h h' := f.mono fun _ _ z => by cases z
mutual
inductive Dr (h : Hep) : AV → PyData → Prop
  | non : Dr h .non .none
  | bl (b : Bool) : Dr h (.bl b) (.bool b)
  | int (i : Int) : Dr h (.int i) (.int i)
  | str (x : Str) : Dr h (.str x) (.str x)
  | tup {xs : List AV} {ds : List PyData} : DrA h xs ds → Dr h (.tup xs) (.tuple ds)
  | rol {xs : List AV} {ds : List PyData} : DrA h xs ds → Dr h (.rol xs) (.list ds)
  | ref {n : Nat} {xs : List AV} {ds : List PyData} : h[n]? = some (.lst xs) → DrA h xs ds → Dr h (.ref n) (.list ds)
inductive DrA (h : Hep) : List AV → List PyData → Prop
  | nil : DrA h [] []
  | cons {x : AV} {d : PyData} {xs : List AV} {ds : List PyData} : Dr h x d → DrA h xs ds → DrA h (x :: xs) (d :: ds)
end
theorem depth_tup {ds : List PyData} : (PyData.tuple ds).depth = PyData.depthAll ds + 1 := by rw [PyData.depth]
theorem depth_list {ds : List PyData} : (PyData.list ds).depth = PyData.depthAll ds + 1 := by rw [PyData.depth]
theorem depthAll_cons {d : PyData} {ds : List PyData} : PyData.depthAll (d :: ds) = max d.depth (PyData.depthAll ds) := by rw [PyData.depthAll]
mutual
theorem toD_dr {h : Hep} : ∀ {a : AV} {d : PyData}, Dr h a d → ∀ n, d.depth < n → toD n h a = some d
  | _, _, .non, n + 1, _ => rfl
  | _, _, .bl b, n + 1, _ => rfl
  | _, _, .int b, n + 1, _ => rfl
  | _, _, .str b, n + 1, _ => rfl
  | _, _, .tup (xs := xs) (ds := ds) r, n + 1, hn => by
    rw [depth_tup] at hn
    have := toD_drA r n (by omega)
    simp [toD, this]
  | _, _, .rol (xs := xs) (ds := ds) r, n + 1, hn => by
    rw [depth_list] at hn
    have := toD_drA r n (by omega)
    simp [toD, this]
  | _, _, .ref (xs := xs) (ds := ds) e r, n + 1, hn => by
    rw [depth_list] at hn
    have := toD_drA r n (by omega)
    simp [toD, this, e]
theorem toD_drA {h : Hep} : ∀ {xs : List AV} {ds : List PyData}, DrA h xs ds → ∀ n, PyData.depthAll ds < n → xs.mapM (toD n h) = some ds
  | _, _, .nil, n, _ => rfl
  | _, _, .cons r t, n, hn => by
    rw [depthAll_cons] at hn
    have h1 := toD_dr r n (by omega)
    have h2 := toD_drA t n (by omega)
    simp [h1, h2]
end
end Dn
namespace Dn
open PySem
end Dn
namespace Dn
open PySem PySem.Spec PyProof.Rows L2

def fget : List (Nat × AV) → Nat → Option AV
  | [], _ => none
  | (k, v) :: r, j => if k = j then some v else fget r j
section
variable {W : Wd} {io : List Addr} {hp : Hep} {H : Hp}
theorem fn_inj {i j : Nat} {s : Str} (h1 : W.fn[i]? = some s) (h2 : W.fn[j]? = some s) : i = j := by
  obtain ⟨l1, e1⟩ := List.getElem?_eq_some_iff.mp h1
  obtain ⟨l2, e2⟩ := List.getElem?_eq_some_iff.mp h2
  exact (List.getElem_inj W.fnd).mp (e1.trans e2.symm)
theorem RFs.get {j : Nat} {s : Str} (hj : W.fn[j]? = some s) {x : AV} : ∀ {fs : List (Nat × AV)} {vs : List (Str × V)}, RFs W io H fs vs → fget fs j = some x → ∃ v, vs.lookup s = some v ∧ RV W io H x v
  | _, _, .nil, h => by cases h
  | _, _, .cons (q := q) (s := s') (v := v) hq r t, h => by
    unfold fget at h
    by_cases e : q = j
    · rw [if_pos e] at h
      cases h
      subst e
      have es : s' = s := Option.some.inj (hq.symm.trans hj)
      subst es
      exact ⟨v, by simp [List.lookup], r⟩
    · rw [if_neg e] at h
      obtain ⟨v', e1, e2⟩ := RFs.get hj t h
      have ne : s ≠ s' := fun z => e (fn_inj (hq.trans (by rw [z])) hj)
      have nb : (s == s') = false := by simpa using ne
      exact ⟨v', by simp [List.lookup, nb, e1], e2⟩
theorem RFs.len : ∀ {fs : List (Nat × AV)} {vs : List (Str × V)}, RFs W io H fs vs → fs.length = vs.length
  | _, _, .nil => rfl
  | _, _, .cons _ _ t => by simp [RFs.len t]
theorem RFs.no {m : Str} (hm : m ∉ W.fn) : ∀ {fs : List (Nat × AV)} {vs : List (Str × V)}, RFs W io H fs vs → vs.lookup m = none
  | _, _, .nil => rfl
  | _, _, .cons (s := s') hq r t => by
    have ne : m ≠ s' := fun z => hm (z ▸ List.mem_of_getElem? hq)
    have nb : (m == s') = false := by simpa using ne
    simp [List.lookup, nb, RFs.no hm t]
end

section
variable {W : Wd} {M : Md W} {E : WX} {X : Cx} {e o value : Expr} {f fo fv : DE} {x : Str} {j : Nat} {pos pos' tpos : Pos}
end

section
variable {W : Wd} {M : Md W} {E : WX} {X : Cx} {k j n m q t : Nat} {f : Addr} {fd : FuncData} {ps ks : List Str} {F : DF} {x : Str} {p pos apos kpos : Pos} {e o : Expr} {es : List Expr} {kws : List Keyword} {fa fk : DA} {fe fo : DE} {ix : List Nat} {dfl : List AV} {bs : Bs}
end
end Dn
namespace Dn
open PySem PySem.Spec PyProof.Rows L2

section
variable {W : Wd} {M : Md W} {E : WX} {X : Cx} {e : Expr} {f g : DE}
end

theorem Pst.imp {W : Wd} {E : WX} {σ : L2.St} {T U T' U' : Type} {rh : Rel T U} {rh' : Rel T' U'} {Q : U → Hp → Prop} {Q' : U' → Hp → Prop} {io : List Addr} {H : Hp} {r : R T'} {k : T' → Hep → R T} (h : Pst W rh E σ Q io H (r.bind k))
    (i : ∀ io1 H1 a hp1 x, Ext W io H io1 H1 → Rl W io1 hp1 H1 → rh' io1 H1 a x → Pst W rh E σ Q io1 H1 (k a hp1) → Q' x H1) : Pst W rh' E σ Q' io H r := by
  cases r with
  | ok v hp => exact fun io' H' x e rl q => i io' H' v hp x e rl q (Pst.later h e)
  | exc t fs hp => exact h
  | stuck => exact h
def HasO (P : Program) (w : World) (mg : Str → Option Value) (base : Heap) (W : Wd) (k : Nat) (t : Nat) (x : Str) (ps : List Str) (n : Nat) (F : DF) : Prop :=
  ∃ (a : Addr) (fd : FuncData), Meth W.K (W.cl t) x a ∧ PySem.W.fnIn W.K a = true ∧ FnOk P w W.K mg base (L2.CX P w) k a fd ps (spD W n F) ∧ BnD W fd ps n [] (List.range n) []
section
variable {W : Wd} {M : Md W} {E : WX} {X : Cx} {k j n t : Nat} {ps : List Str} {F : DF} {x : Str} {p pos apos : Pos} {e e' o : Expr} {f g fo : DE}
abbrev DX := AV → AV → Hep → R AV
def OpX (X : Cx) (W : Wd) (E : WX) (G : Value → Value → Sem Value) (r : DX) : Prop :=
  ∀ (pins : List (Addr × Obj)) (s : Shared) (σ : L2.St) (H : Hp) (io : List Addr) (hp : Hep) (a b : AV) (xv yv : V) (v u : Value) (Q : VK), Inv X pins σ H s → RelV xv v → RelV yv u → Rl W io hp H → RV W io H a xv → RV W io H b yv → Pst W (RV W) E σ Q io H (r a b hp) →
    wpAny (model X.prog X.w) X.A (G v u) (EP X pins σ Q) X.xe s
def ofX (r : D2) : DX := fun a b h => R.of (r a b h)
variable {G : Value → Value → Sem Value} {r r' : DX}
theorem OpX.of {r : D2} (h : OpR X G (t2 W r)) : OpX X W E G (ofX r) := fun pins s σ H io hp a b xv yv v u Q I rx ry rl ra rb P => h pins s σ H xv yv v u Q I rx ry ⟨io, hp, a, b, rl, ra, rb, P.of⟩
def IxX (X : Cx) (W : Wd) (E : WX) (r : DX) : Prop :=
  ∀ (value slice : Expr) (pins : List (Addr × Obj)) (s : Shared) (σ : L2.St) (H : Hp) (io : List Addr) (hp : Hep) (a b : AV) (xv yv : V) (v u : Value) (Q : VK), Inv X pins σ H s → RelV xv v → RelV yv u → Rl W io hp H → RV W io H a xv → RV W io H b yv → Pst W (RV W) E σ Q io H (r a b hp) →
    subscripted slice false v u = operate [v, u] (getItem v u) → subscripted slice true v u = runValue (.builtin "lifetime.subscript" ⟨[v, u], []⟩) → wpAny (model X.prog X.w) X.A (subscriptTail value slice v u) (EP X pins σ Q) X.xe s
theorem IxX.of {r : D2} (h : IxR X (t2 W r)) : IxX X W E (ofX r) := fun value slice pins s σ H io hp a b xv yv v u Q I rx ry rl ra rb P h1 _ => h value slice pins s σ H xv yv v u Q I rx ry ⟨io, hp, a, b, rl, ra, rb, P.of⟩ h1
end
end Dn
namespace Dn
open PySem PySem.Spec PyProof.Rows L2

section
variable {M : Model} {prog : Program} {w : World} {A : Around} {E : Value → Shared → Prop} {s : Shared} {K : PySem.W.Frag} {x C f : Addr} {ox : Obj} {od : Option Obj} {b tb : Value}
end
end Dn
namespace Dn
open PySem PySem.Spec PyProof.Rows L2
section
variable {W : Wd} {M : Md W} {E : WX} {X : Cx} {k j n t : Nat} {ps : List Str} {F : DF} {x : Str} {p pos apos : Pos} {e e' o : Expr} {f g fo : DE}
variable {ct : CT}
end
end Dn
namespace Dn
open PySem PySem.Spec PyProof.Rows L2
section
variable {W : Wd} {M : Md W} {E : WX} {X : Cx} {k j n m q t : Nat} {ps ks : List Str} {F : DF} {x : Str} {p pos apos : Pos} {e o : Expr} {es : List Expr} {kws : List Keyword} {f fo : DE} {fa fk : DA} {ix : List Nat} {dfl : List AV} {bs : Bs}
def HasC (P : Program) (w : World) (mg : Str → Option Value) (base : Heap) (W : Wd) (k : Nat) (t : Nat) (x : Str) (ps : List Str) (n : Nat) (F : DF) (bs : Bs) : Prop :=
  ∃ (a : Addr) (fd : FuncData), Mk W.K (W.cl t) a ∧ mg x = some (.ref (W.cl t)) ∧ W.ct.kit t = true ∧ FnOk P w W.K mg base (L2.CX P w) k a fd ps (spD W n F) ∧ ∀ b ∈ bs, BnD W fd ps b.1 b.2.1 b.2.2.1 b.2.2.2
end
end Dn
namespace Dn
open PySem PySem.Spec PyProof.Rows L2

def clB (K : PySem.W.Frag) (C : Addr) : Bool := PySem.W.plainGet K C Str.empty && (PySem.W.hasDictIn K C && (PySem.W.plainOver K C && (He.eqO (PySem.W.findIn K (.ref C) "__setattr__") (some (some (.builtin "object.__setattr__"))) &&
  (He.eqO (PySem.W.findIn K (.ref C) "__class__") (some (some (.builtin "object.__class__"))) && decide (PySem.W.mroIn K C (.type "object") = some true)))))
def ctOf (n : Nat) (sub : Nat → Nat → Bool) : CT := ⟨fun t => decide (t < n), sub⟩
def clOf (K : PySem.W.Frag) (cs : List Str) (t : Nat) : Addr := He.ga K (cs.getD t Str.empty)
def allN (n : Nat) (p : Nat → Bool) : Bool := (List.range n).all p
abbrev Pth := PySem.W.Frag → Addr
structure DefF where
  ad : Pth
  nm : Str
  ql : Str
  pr : Arguments
  bd : List Stmt
  sp : Scope
  dl : List He.Dv
  kw : List (Str × He.Dv)
def DefF.look (d : DefF) (K : PySem.W.Frag) : He.FnW := match K.lookup (d.ad K) with
  | some ⟨_, _, .func g, _⟩ => some (g.name, g.qualname, g.params, g.body, g.scope, g.globals, g.closure, g.builtins)
  | _ => none
def DefF.want (d : DefF) : He.FnW := some (d.nm, d.ql, d.pr, .stmts d.bd, d.sp, mainGlobals, [], builtinsNs)
def DefF.good (d : DefF) (K : PySem.W.Frag) : Bool := PySem.W.keepIn K (.ref (d.ad K)) && match K.lookup (d.ad K) with
  | some ⟨_, _, .func g, _⟩ => PySem.W.codeIn K g.code d.ql && (He.dflB K g.defaults (d.dl.map (He.Dv.v K)) && He.kwdB K g.kwdefaults (d.kw.map fun q => (q.1, q.2.v K)))
  | _ => false
/-- paths: a def of the module, a method, a property's getter -/
def pDef (x : Str) : Pth := fun K => He.ga K x
def pMeth (C m : Str) : Pth := fun K => He.ma K (He.ga K C) m
def methB (C m : Str) (p : Pth) (K : PySem.W.Frag) : Bool := He.eqO (PySem.W.findIn K (.ref (He.ga K C)) m) (some (some (.ref (p K)))) && (PySem.W.isFn K (.ref (p K)) && PySem.W.keepIn K (.ref (p K)))
abbrev AlF : Type := Bool × List He.FnW
def obsF (fa : List He.Fa) (fn : List DefF) (xt : List (PySem.W.Frag → Bool)) (K : PySem.W.Frag) : AlF := ((fa.all fun f => f.ok K) && ((fn.all fun d => d.good K) && xt.all fun f => f K), fn.map fun d => d.look K)
def valF (fn : List DefF) : AlF := (true, fn.map DefF.want)
def SaysF (fa : List He.Fa) (fn : List DefF) (xt : List (PySem.W.Frag → Bool)) (K : PySem.W.Frag) : Prop := obsF fa fn xt K = valF fn
section
variable {fa : List He.Fa} {fn : List DefF} {xt : List (PySem.W.Frag → Bool)} {K : PySem.W.Frag}
theorem SaysF.one (c : SaysF fa fn xt K) : (fa.all fun f => f.ok K) = true ∧ (fn.all fun d => d.good K) = true ∧ (xt.all fun f => f K) = true := by
  have c1 : ((fa.all fun f => f.ok K) && ((fn.all fun d => d.good K) && xt.all fun f => f K)) = true := congrArg (fun z : AlF => z.1) c
  obtain ⟨a, b⟩ := He.ba c1
  exact ⟨a, He.ba b⟩
theorem SaysF.x (c : SaysF fa fn xt K) (i : Nat) {f : PySem.W.Frag → Bool} (h : xt[i]? = some f := by rfl) : f K = true := List.all_eq_true.mp c.one.2.2 f (List.mem_of_getElem? h)
end
/-- statements within a class -/
def clsStmt : Stmt → Nat → Stmt
  | .ClassDef _ _ _ body _ _ _ _ _ _ _, i => body.getD i (.Pass ⟨0, 0, 0, 0⟩)
  | s, _ => s
/-- a def that keeps its promise, with the ways it is called -/
def FnB (P : Program) (w : World) (mg : Str → Option Value) (base : Heap) (W : Wd) (k : Nat) (f : Addr) (fd : FuncData) (ps : List Str) (n : Nat) (F : DF) (bs : Bs) : Prop :=
  PySem.W.keepIn W.K (.ref f) = true ∧ FnOk P w W.K mg base (L2.CX P w) k f fd ps (spD W n F) ∧ ∀ b ∈ bs, BnD W fd ps b.1 b.2.1 b.2.2.1 b.2.2.2
section
variable {P : Program} {w : World} {mg : Str → Option Value} {base : Heap} {W : Wd} {k n t : Nat} {f : Addr} {fd : FuncData} {ps : List Str} {F : DF} {bs : Bs} {x : Str}
theorem FnB.has (B : FnB P w mg base W k f fd ps n F bs) (h : mg x = some (.ref f)) : Has P w mg base W k x ps n F bs := ⟨f, fd, h, B.1, B.2.1, B.2.2⟩
theorem FnB.own (B : FnB P w mg base W k f fd ps n F bs) (h : Meth W.K (W.cl t) x f) (hf : PySem.W.fnIn W.K f = true) (i : Nat) (hi : bs[i]? = some (n, [], List.range n, [])) : HasO P w mg base W k t x ps n F := ⟨f, fd, h, hf, B.2.1, B.2.2 _ (List.mem_of_getElem? hi)⟩
theorem FnB.cls (B : FnB P w mg base W k f fd ps n F bs) (h : Mk W.K (W.cl t) f) (hm : mg x = some (.ref (W.cl t))) (hk : W.ct.kit t = true) : HasC P w mg base W k t x ps n F bs := ⟨f, fd, h, hm, hk, B.2.1, B.2.2⟩
end
section
variable {W : Wd} {x qual : Str} {params : Arguments} {body : List Stmt} {scope : Scope} {dvs : List V} {kws : List (Str × V)} {f : Addr} {fd : FuncData} {ps : List Str}
end
end Dn
namespace Dn
open PySem
section
variable {T : Type} {a b v : AV} {h h1 : Hep} {s : Sl} {t i j n m q c : Nat} {f g k : DE} {fa fk : DA} {F : DF} {ix : List Nat} {dfl : List AV} {fs : List (Nat × AV)} {r r' : DX} {r2 : D2} {ct : CT}
end
end Dn
namespace Dn
open PySem PySem.Spec PyProof.Rows L2
section
variable {W : Wd} {X : Cx}
end
end Dn
namespace Dn
open PySem PySem.Spec PyProof.Rows L2
section
variable {W : Wd} {M : Md W} {E : WX} {X : Cx}
end
section
variable {W : Wd} {M : Md W} {E : WX} {X : Cx} {k j n t : Nat} {ps : List Str} {F : DF} {x : Str} {p pos apos : Pos} {e e' o : Expr} {f g fo : DE}
end
end Dn
namespace Dn
open PySem PySem.Spec PyProof.Rows L2
section
variable {prog : Program} {w : World} {A : Around} {E : Value → Shared → Prop} {s : Shared}
end
section
variable {X : Cx}
end
section
variable {W : Wd} {M : Md W} {E : WX} {X : Cx} {k : Nat}
end
end Dn
namespace PySem
namespace DX
open PySem.W PySem.Calls PyProof.Rows
structure NewF (O nid : String) (bm : List Value) : Prop where
  spl : splitId nid = some (O, "__new__")
  knd : builtinKind nid = some .builtinFn
  sig : Manifest.signature? nid = some ⟨.any, O, O, .cls, [⟨"args", .varPos, false⟩, ⟨"kwargs", .varKw, false⟩]⟩
  has : bm.contains (.type O) = true
  nat : bm.contains (.type "AttributeError") = false
  nnm : bm.contains (.type "NameError") = false
  can : Manifest.canonical nid = Manifest.canonical "BaseException.__new__"
  ent : entryFor table nid = some Builtin.«BaseException.__new__»
  fin : nid.endsWith ".__new__" = true
  own : nid.dropRight 8 = O
  qui : nid.startsWith "lifetime." = false
  sta : (O != "*") = true
theorem NewF.of {O nid iid : String} {bm : List Value} (F : ExcBaseFacts O nid iid bm) : NewF O nid bm :=
  ⟨F.newSplit, F.newKind, F.newRow, F.hasB, F.noAttr, F.noName, F.canon, F.entry, F.ends, F.owner, F.quiet, F.noStar⟩
abbrev bmKey : List Value := [.type "KeyError", .type "LookupError", .type "Exception", .type "BaseException", .type "object"]
section
variable {md : Model} {ar : Around} {ex : Value → Shared → Prop} {hp : Heap} {gs : Array GenState} {dr : Drawn} {tc : Nat} {ops : OsState}
variable {cn qn : Str} {C N : Addr} {bs bm bmB : List Value} {hd : Bool} {sl : List Str} {sb : List Value} {ab : Bool} {col : Option Bool} {dd : Option Addr} {k0 k1 k2 k3 k5 : Option Value} {O nid : String}
abbrev ClsAt (hp : Heap) (cn qn : Str) (C N : Addr) (bs bm : List Value) (hd : Bool) (sl : List Str) (sb : List Value) (ab : Bool) (col : Option Bool) (dd : Option Addr) (k0 k1 k2 k3 k5 : Option Value) (nid : String) : Prop := hp.get? C = some (excClassObj cn qn C N bs bm hd sl sb ab col dd k0 k1 k2 k3 k5 nid)
end
section
variable {prog : Program} {w : World} {ar : Around} {ex : Value → Shared → Prop} {R : Result → Shared → Prop} {hp : Heap} {gs : Array GenState} {dr : Drawn} {tc : Nat} {ops : OsState}
variable {cn qn : Str} {C N : Addr} {bs bm bmB : List Value} {hd : Bool} {sl : List Str} {sb : List Value} {ab : Bool} {col : Option Bool} {dd : Option Addr} {k0 k1 k2 k3 k5 : Option Value} {O nid : String}
end
section
variable {prog : Program} {w : World} {A : Around} {R : Result → Shared → Prop} {g : Array GenState} {d : Drawn} {tt : Nat} {os : OsState}
end
end DX
end PySem

namespace Dn
open PySem PySem.Spec PyProof.Rows L2

/-- a class of exceptions with an own __init__ at I, field nm -/
structure Xi (K : PySem.W.Frag) (C : Addr) (bmB : List Value) (newId : String) (nm : Str) : Prop where
  ini : PySem.W.excInitIn K C bmB newId = true
  ovr : PySem.W.excOver K C bmB = true
  tkr : PySem.W.takerIn K C nm = some none
  dct : PySem.W.hasDictIn K C = true
  sat : PySem.W.findIn K (.ref C) "__setattr__" = some (some (.builtin "object.__setattr__"))
  sub : PySem.W.subIn K (.ref C) (.type "BaseException") = some true
  typ : PySem.W.typeIn K (.ref C) = some (.type "type")
  kep : PySem.W.keepIn K (.ref C) = true
section
variable {X : Cx} {pins : List (Addr × Obj)} {σ : L2.St} {H : Hp} {s : Shared} {e C : Addr} {nm : Str} {y : V} {u : Value} {Q : Unit → Shared → Prop} {E : Value → Shared → Prop} {A : Around} {B newId initId : String} {bmB : List Value}
end
section
variable {X : Cx} {E : WX} {C : Addr} {nm : Str} {B newId initId : String} {bmB : List Value} {x : Str} {p pos : Pos} {e : Expr}
end
end Dn
namespace Dn
open PySem PySem.Spec PyProof.Rows L2

section
variable {X : Cx} {pins : List (Addr × Obj)} {σ : L2.St} {H : Hp} {a : Addr} {cls : Value} {d : Option Addr} {s : Shared} {D : Ends}
variable {hds : List ExceptHandler} {x n : Str} {np pos : Pos} {b₀ : Stmt} {suite : List Stmt} {c : Value} {i : Nat}
end
end Dn
namespace Dn
open PySem PySem.Spec PyProof.Rows L2

/-- the classes of exceptions: their numbers n .. m - 1, which lies under which, which under built-in ones -/
structure XT where
  n : Nat
  m : Nat
  sub : Nat → Nat → Bool
  ty : List (Nat × String × Bool)
abbrev Hds := List (Nat × Option Nat × DS)
structure XWd (W : Wd) (T : XT) : Prop where
  exm : ∀ s t, T.n ≤ s → s < T.m → T.n ≤ t → t < T.m → PySem.W.exmOne W.K (.ref (W.cl s)) (.ref (W.cl t)) = some (T.sub s t)
  xf : ∀ t, T.n ≤ t → t < T.m → XfC W.K (W.cl t)
  no : ∀ t s, T.n ≤ t → t < T.m → s ∈ W.fn → PySem.W.findIn W.K (.ref (W.cl t)) s = some none
  ec : ∀ t, T.n ≤ t → t < T.m → ExcC W.K (W.cl t)
  ty : ∀ q ∈ T.ty, PySem.W.kitOne W.K (.ref (W.cl q.1)) (.type q.2.1) = some q.2.2
section
variable {W : Wd} {M : Md W} {E : WX} {X : Cx} {t j k : Nat} {x : Str} {e : Expr} {f : DE} {p p2 pos : Pos}
end

def exM (W : Wd) (i t : Nat) (fs : List (Nat × AV)) (a : Addr) (d : Option Addr) : Md W where
  rel := fun io H as σ => (as.length = σ.length ∧ σ[i]? = some (some (.ref a)) ∧ as[i]? = some (some (.exn t fs))) ∧ (∀ (j : Nat) (v : AV), j ≠ i → as[j]? = some (some v) → ∃ x, σ[j]? = some (some x) ∧ RV W io H v x) ∧
    RXf W io H fs d
  mono := fun e h => ⟨h.1, fun j v n q => by
    obtain ⟨x, b, r⟩ := h.2.1 j v n q
    exact ⟨x, b, r.mono e⟩, h.2.2.mono e⟩
  var := fun {io H as σ j v} h q hn => by
    by_cases hj : j = i
    · subst hj
      rw [h.1.2.2] at q
      cases q
      exact absurd rfl (hn t fs)
    · exact h.2.1 j v hj q
  ok := fun j => j ≠ i
  set := fun {io H as σ j v x} h r hj => ⟨⟨by simp [h.1.1], by rw [List.getElem?_set_ne hj]; exact h.1.2.1, by rw [List.getElem?_set_ne hj]; exact h.1.2.2⟩, fun l w n q => by
    by_cases e : l = j
    · subst e
      obtain ⟨hl, _⟩ := List.getElem?_eq_some_iff.mp q
      rw [List.length_set] at hl
      rw [List.getElem?_set_self hl] at q
      cases q
      exact ⟨x, List.getElem?_set_self (by rw [← h.1.1]; exact hl), r⟩
    · rw [List.getElem?_set_ne (Ne.symm e)] at q ⊢
      exact h.2.1 l w n q, h.2.2⟩
  wipe := fun {io H as σ j} h hj => ⟨⟨by simp [h.1.1], by rw [List.getElem?_set_ne hj]; exact h.1.2.1, by rw [List.getElem?_set_ne hj]; exact h.1.2.2⟩, fun l w n q => by
    by_cases e : l = j
    · subst e
      obtain ⟨hl, _⟩ := List.getElem?_eq_some_iff.mp q
      rw [List.length_set] at hl
      rw [List.getElem?_set_self hl] at q
      cases q
    · rw [List.getElem?_set_ne (Ne.symm e)] at q ⊢
      exact h.2.1 l w n q, h.2.2⟩
section
variable {W : Wd} {X : Cx} {T : XT}
/-- the clauses, read -/
inductive HdD (W : Wd) (X : Cx) (T : XT) : List ExceptHandler → Hds → Prop
  | nil : HdD W X T [] []
  | only {x : Str} {c : Nat} {f : DS} {b₀ : Stmt} {suite : List Stmt} {np pos : Pos} {hds : List ExceptHandler} {hs : Hds} (hc : Names X x (.ref (W.cl c))) (h1 : T.n ≤ c) (h2 : c < T.m)
      (hsu : ∀ (a : Addr) (oe : Obj) (pn : List (Addr × Obj)), PSs (X.suite a ((a, oe) :: pn)) (b₀ :: suite) (tS W (std W) E0x f)) (r : HdD W X T hds hs) :
      HdD W X T (.ExceptHandler (some (.Name x np)) none (b₀ :: suite) pos :: hds) ((c, none, f) :: hs)
  | as {x n : Str} {i c : Nat} {f : DS} {b₀ : Stmt} {suite : List Stmt} {np pos : Pos} {hds : List ExceptHandler} {hs : Hds} (hc : Names X x (.ref (W.cl c))) (h1 : T.n ≤ c) (h2 : c < T.m) (hN : X.N.Nodup) (hi : X.N[i]? = some n) (hl : X.env.kindOf n = some .local)
      (hsu : ∀ (a : Addr) (oe : Obj) (pn : List (Addr × Obj)) (t : Nat) (fs : List (Nat × AV)) (d : Option Addr), T.n ≤ t → t < T.m → Zc (.ref (W.cl t)) d oe → (∃ vs, oe.data = .fields vs) → PSs (X.suite a ((a, oe) :: pn)) (b₀ :: suite) (tS W (exM W i t fs a d) E0x f)) (r : HdD W X T hds hs) :
      HdD W X T (.ExceptHandler (some (.Name x np)) (some n) (b₀ :: suite) pos :: hds) ((c, some i, f) :: hs)
end
section
variable {W : Wd} {X : Cx} {T : XT} {E : WX} {a : Addr} {oe : Obj} {pn : List (Addr × Obj)} {i j t : Nat} {fs : List (Nat × AV)} {d : Option Addr} {x nm : Str} {p pos : Pos}
end
end Dn
namespace Dn
open PySem PySem.Spec PyProof.Rows L2

section
variable {X : Cx}
end
/-- what the head must show of the classes cs; behind them stand the exceptions xs -/
def wdXB (cs xs fn : List Str) (sub : Nat → Nat → Bool) (K : PySem.W.Frag) : Bool :=
  allN cs.length fun t => clB K (clOf K (cs ++ xs) t) && (clsB K (clOf K (cs ++ xs) t) &&
    ((tyNames.all fun n => decide (PySem.W.kitOne K (.type n) (.ref (clOf K (cs ++ xs) t)) = some false) && decide (PySem.W.kitOne K (.ref (clOf K (cs ++ xs) t)) (.type n) = some false)) &&
    ((allN cs.length fun s => decide (PySem.W.kitOne K (.ref (clOf K (cs ++ xs) s)) (.ref (clOf K (cs ++ xs) t)) = some (sub s t)) && decide (PySem.W.subIn K (.ref (clOf K (cs ++ xs) s)) (.ref (clOf K (cs ++ xs) t)) = some (sub s t))) &&
      fn.all fun x => He.eqO (PySem.W.findIn K (.ref (clOf K (cs ++ xs) t)) x) (some none))))
def xcB (fn : List Str) (K : PySem.W.Frag) (C : Addr) : Bool := xfB K C && ((fn.all fun x => He.eqO (PySem.W.findIn K (.ref C) x) (some none)) && (He.eqO (PySem.W.findIn K (.ref C) "__class__") (some (some (.builtin "object.__class__"))) && decide (PySem.W.mroIn K C (.type "object") = some true)))
def xwB (cs fn : List Str) (T : XT) (K : PySem.W.Frag) : Bool :=
  allN (T.m - T.n) (fun i => xcB fn K (clOf K cs (T.n + i)) && allN (T.m - T.n) fun j => decide (PySem.W.exmOne K (.ref (clOf K cs (T.n + i))) (.ref (clOf K cs (T.n + j))) = some (T.sub (T.n + i) (T.n + j)))) &&
    T.ty.all fun q => decide (PySem.W.kitOne K (.ref (clOf K cs q.1)) (.type q.2.1) = some q.2.2)
def tyB (K : PySem.W.Frag) (C : Addr) : Bool := decide (PySem.W.subIn K (.ref C) (.type "BaseException") = some true) && (decide (PySem.W.typeIn K (.ref C) = some (.type "type")) && PySem.W.keepIn K (.ref C))
def x0B (x : Str) (bmB : List Value) (newId : String) (K : PySem.W.Frag) : Bool := PySem.W.excIn K (He.ga K x) bmB newId && tyB K (He.ga K x)
def xiB (x nm : Str) (p : Pth) (bmB : List Value) (newId : String) (K : PySem.W.Frag) : Bool := PySem.W.excInitIn K (He.ga K x) bmB newId && (PySem.W.excOver K (He.ga K x) bmB && (He.eqO (PySem.W.takerIn K (He.ga K x) nm) (some none) && (PySem.W.hasDictIn K (He.ga K x) &&
  (He.eqO (PySem.W.findIn K (.ref (He.ga K x)) "__setattr__") (some (some (.builtin "object.__setattr__"))) && (He.eqO (PySem.W.findIn K (.ref (He.ga K x)) "__init__") (some (some (.ref (p K)))) && (decide (PySem.W.typeIn K (.ref (p K)) = some (.type "function")) && tyB K (He.ga K x)))))))
end Dn
namespace Dn
open PySem
section
variable {h : Hep} {s : Sl} {t j i c : Nat} {fs : List (Nat × AV)} {v : AV} {f : DE} {fb : DS} {T : XT} {hs : Hds} {n : String}
end
end Dn
namespace Dn
open PySem PySem.Spec PyProof.Rows L2

section
variable {W : Wd} {M : Md W} {E : WX} {X : Cx} {o e f : Expr} {fo fk fx : DE} {pos apos cpos : Pos}
end
end Dn
namespace Dn
open PySem PySem.Spec PyProof.Rows L2

structure Ext0 (W : Wd) (H H' : Hp) : Prop where
  tup : ∀ a xs, SqT W.K H a xs → SqT W.K H' a xs
  rol : ∀ a xs, RoL W.K H a xs → RoL W.K H' a xs
  tab : LamX.Tabs W.T H → LamX.Tabs W.T H'
  cod : ∀ a u, H a = some (.ext u) → H' a = some (.ext u)
section
variable {W : Wd} {io : List Addr} {H H' : Hp}
mutual
theorem RV.mono0 (e : Ext0 W H H') : ∀ {x : AV} {v : V}, RV W io H x v → RV W io H' x v
  | _, _, .non => .non
  | _, _, .bl b => .bl b
  | _, _, .int i => .int i
  | _, _, .str x => .str x
  | _, _, .tup h r => .tup (e.tup _ _ h) (RVs.mono0 e r)
  | _, _, .rol h r => .rol (e.rol _ _ h) (RVs.mono0 e r)
  | _, _, .ref h => .ref h
  | _, _, .adr a => .adr a
  | _, _, .ty n => .ty n
  | _, _, .cls t => .cls t
  | _, _, .exi h => .exi (h.mono fun a u => e.cod a u)
theorem RVs.mono0 (e : Ext0 W H H') : ∀ {xs : List AV} {vs : List V}, RVs W io H xs vs → RVs W io H' xs vs
  | _, _, .nil => .nil
  | _, _, .cons r q => .cons (RV.mono0 e r) (RVs.mono0 e q)
end
theorem RKs.mono0 {k : Type} (e : Ext0 W H H') : ∀ {xs : List (k × AV)} {vs : List (k × V)}, RKs W io H xs vs → RKs W io H' xs vs
  | _, _, .nil => .nil
  | _, _, .cons r q => .cons (RV.mono0 e r) (RKs.mono0 e q)
theorem RFs.mono0 (e : Ext0 W H H') : ∀ {xs : List (Nat × AV)} {vs : List (Str × V)}, RFs W io H xs vs → RFs W io H' xs vs
  | _, _, .nil => .nil
  | _, _, .cons f r q => .cons f (RV.mono0 e r) (RFs.mono0 e q)
theorem RO.mono0 (e : Ext0 W H H') {o : AO} {u : HO} (h : RO W io H o u) : RO W io H' o u := by
  induction h with
  | lst r => exact .lst (r.mono0 e)
  | dK r => exact .dK (r.mono0 e)
  | dT r => exact .dT (r.mono0 e)
  | ins k r => exact .ins k (r.mono0 e)
  | frz _ ih => exact .frz ih
variable {p : Addr} {od : Obj} {vs : List (Key × V)} {o : HO}
end
section
variable {W : Wd} {M : Md W} {E : WX} {X : Cx} {e : Expr} {fd f : DE}
end

section
variable {W : Wd} {io : List Addr} {H : Hp} {n : Nat} {p : Addr} {od : Obj} {vs : List (Key × V)}
theorem RKs.at_ {k : Type} {io : List Addr} {H : Hp} : ∀ {xs : List (k × AV)} {vs : List (k × V)} {i : Nat} {q : k} {a : AV}, RKs W io H xs vs → xs[i]? = some (q, a) → ∃ v, vs[i]? = some (q, v) ∧ RV W io H a v
  | _, _, _, _, _, .nil, h => by cases h
  | _, _, 0, _, _, .cons r t, h => by
    cases h
    exact ⟨_, rfl, r⟩
  | _, _, i + 1, q, a, .cons r t, h => by
    obtain ⟨v, e1, e2⟩ := RKs.at_ (i := i) t h
    exact ⟨v, e1, e2⟩
end
section
variable {W : Wd} {M : Md W} {E : WX} {X : Cx} {tg e : Expr} {f : DE} {apos cpos : Pos}
end
end Dn
namespace Dn
open PySem PySem.Spec PyProof.Rows L2

section
variable {W : Wd} {M : Md W} {E : WX} {X : Cx} {pos : Pos}
end

section
variable {W : Wd} {M : Md W} {E : WX} {X : Cx}
end

section
variable {W : Wd} {X : Cx}
end

section
variable {W : Wd} {X : Cx}
end
end Dn
namespace Dn
open PySem PySem.Spec PyProof.Rows L2

abbrev DGH := AV → Sl → Hep → SR
def hN (i : Nat) : DGH := fun v s h => .nx (s.set i (some v)) h
def Pnx (W : Wd) (M : Md W) (Q : L2.St → Hp → Prop) (io : List Addr) (H : Hp) : SR → Prop
  | .nx s hp => ∀ io' H' σ', Ext W io H io' H' → Rl W io' hp H' → M.rel io' H' s σ' → Q σ' H'
  | _ => False
section
variable {W : Wd} {M : Md W} {E : WX} {X : Cx}
theorem Pnx.later {Q : L2.St → Hp → Prop} {io io1 : List Addr} {H H1 : Hp} {r : SR} (h : Pnx W M Q io H r) (e : Ext W io H io1 H1) : Pnx W M Q io1 H1 r := by
  cases r with
  | nx s hp => exact fun io' H' σ' e' => h io' H' σ' (e.trans e')
  | _ => exact h
end

section
variable {W : Wd} {M : Md W} {E : WX} {X : Cx}
end
end Dn
namespace PySem
open Sem (wp)
section
variable {prog : Program} {w : World} {A : Around} {E : Value → Shared → Prop} {s : Shared}
end
end PySem
namespace Dn
open PySem PySem.Spec PyProof.Rows L2

section
variable {W : Wd} {io : List Addr} {H : Hp} {n : Nat} {p : Addr} {od : Obj} {vs : List (Key × V)}
end
section
variable {W : Wd} {M : Md W} {E : WX} {X : Cx} {e : Expr} {f : DE} {p pos tpos : Pos} {elts : List Expr} {kk : Nat}
end
end Dn
namespace Dn
open PySem PySem.Spec PyProof.Rows L2

section
variable {W : Wd} {M : Md W} {E : WX} {X : Cx} {io : List Addr} {H H' : Hp} {hp : Hep}
end
end Dn
namespace Dn
open PySem L2
end Dn
namespace Dn
open PySem PySem.Spec PyProof.Rows L2

section
variable {W : Wd} {M : Md W} {E : WX} {X : Cx} {c a b : Expr} {ft fa fb : DT} {pos : Pos}
end
end Dn
namespace Dn
open PySem PySem.SeqAt
open AutoSeq1 (wpAny_loadPart')
open MeetsSeq MeetsSeq2 MeetsSeq3 SeqRoads2
section
variable {prog : Program} {w : World}
end
end Dn
namespace Dn
open PySem PySem.Spec PyProof.Rows L2
section
variable {W : Wd} {X : Cx}
end
end Dn
namespace Dn
open PySem PySem.Spec PyProof.Rows L2
section
variable {prog : Program} {w : World} {A : Around} {E : Value → Shared → Prop} {s : Shared}
end
section
variable {X : Cx} {pos : Pos}
end
section
variable {W : Wd} {M : Md W} {E : WX} {X : Cx}
end
section
variable {W : Wd} {M : Md W} {E : WX} {X : Cx} {tg iter : Expr} {body : List Stmt} {f : DI} {g : DGH} {fb : DS} {pos : Pos}
end
end Dn
namespace Dn
open PySem PySem.Spec PyProof.Rows L2
section
variable {P : Program} {w : World} {mg : Str → Option Value} {base : Heap} {W : Wd} {k n : Nat} {x : Str} {ps : List Str} {F : DF} {bs : Bs}
end
end Dn
namespace Dn
open PySem PySem.Spec PyProof.Rows L2
structure ClsAt (K : PySem.W.Frag) (C : Addr) (m : Str) (f : Addr) : Prop where
  rd : PySem.W.readsIn K C (.type "type") = true
  ga : PySem.W.specialIn K (.ref C) "__getattribute__" = some (some (.builtin "type.__getattribute__"))
  at_ : PySem.W.findCls K (.ref C) (.type "type") m = some (.val (.ref f))
  kp : PySem.W.keepIn K (.ref f) = true
section
variable {P : Program} {w : World} {mg : Str → Option Value} {base : Heap} {W : Wd} {k n t : Nat} {f : Addr} {fd : FuncData} {ps : List Str} {F : DF} {x : Str} {bs : Bs}
end
section
variable {W : Wd} {M : Md W} {E : WX} {X : Cx} {k j n m q t : Nat} {ps ks : List Str} {F : DF} {x c : Str} {p pos apos kpos : Pos} {e : Expr} {es : List Expr} {kws : List Keyword} {fa fk : DA} {ix : List Nat} {dfl : List AV} {bs : Bs}
end
end Dn
namespace Dn
open PySem PySem.Spec PyProof.Rows L2
def obsLG (as : List Addr) (fa : List He.Fa) (fn : List DefF) (xt : List (PySem.W.Frag → Bool)) (g : Addr → Option Obj) : AlF := obsF fa fn xt (He.frG g as)
def hookL (as : List Addr) (fa : List He.Fa) (fn : List DefF) (xt : List (PySem.W.Frag → Bool)) : PySem.W.Hook where
  α := AlF
  obs := fun s => obsLG as fa fn xt s.heap.get?
  val := fun _ => valF fn
  says := fun _ h => ∃ K : PySem.W.Frag, K.In h ∧ SaysF fa fn xt K
  of := fun _ _ e => ⟨_, He.frG_in, e⟩
  keeps := fun _ _ _ ⟨K, hK, c⟩ k => ⟨K, PySem.W.Frag.In.keeps hK k, c⟩
theorem obsLG_eq {as : List Addr} {fa : List He.Fa} {fn : List DefF} {xt : List (PySem.W.Frag → Bool)} {g : Addr → Option Obj} {s : Shared} (h : ∀ a, g a = s.heap.get? a) : obsLG as fa fn xt g = (hookL as fa fn xt).obs s := by
  have e : g = s.heap.get? := funext h
  rw [e] <;> rfl
end Dn
namespace Dn
open PySem PySem.Spec PyProof.Rows L2
section
variable {W : Wd} {X : Cx}
end
end Dn
namespace Dn
open PySem PySem.Spec PyProof.Rows L2
section
variable {prog : Program} {w : World} {A : Around} {E : Value → Shared → Prop} {s : Shared} {K : PySem.W.Frag} {x y C C2 : Addr} {ox oy : Obj} {od od2 : Option Obj}
end
section
variable {W : Wd} {M : Md W} {E : WX} {X : Cx} {k j n q t : Nat} {ps : List Str} {F : DF} {ct : CT}
end
section
variable {P : Program} {w : World} {mg : Str → Option Value} {base : Heap} {W : Wd} {x qual : Str} {params : Arguments} {body : List Stmt} {scope : Scope} {f : Addr} {fd : FuncData}
end
section
variable {W : Wd} {M : Md W} {E : WX} {X : Cx} {k j n m t : Nat} {ks : List Str} {F : DF} {x : Str} {p pos : Pos} {e : Expr} {es : List Expr} {fa : DA} {f : Addr}
end
end Dn
namespace Dn
open PySem PySem.Spec PyProof.Rows L2
section
variable {W : Wd} {M : Md W} {E : WX} {X : Cx} {o e f : Expr} {fo fk fx : DE} {pos apos cpos : Pos}
end
section
variable {W : Wd} {M : Md W} {E : WX} {X : Cx} {k j n m t : Nat} {F : DF} {x : Str} {p pos p2 : Pos} {e e2 : Expr} {es : List Expr} {fa : DA} {f : Addr}
end
section
variable {W : Wd} {X : Cx}
end
end Dn
namespace Dn
open PySem PySem.Spec PyProof.Rows L2
section
variable {W : Wd} {M : Md W} {E : WX} {X : Cx} {a b : Expr} {es : List Expr} {f g : DE} {pos : Pos}
end
end Dn
namespace Dn
open PySem PySem.Spec PyProof.Rows L2
section
variable {W : Wd} {M : Md W} {E : WX} {X : Cx} {k j n m t : Nat} {F : DF} {x : Str} {p pos p2 p3 : Pos} {e e2 : Expr} {es : List Expr} {fa : DA} {f : Addr} {fe : DE}
open PySem.Calls in
end
end Dn
namespace Dn
open PySem PySem.Spec PyProof.Rows L2

section
variable {W : Wd} {M : Md W} {E : WX} {X : Cx} {st : Stmt} {fd : DE} {f : DS}
end
end Dn
namespace Dn
open PySem PySem.Spec PyProof.Rows L2

section
variable {W : Wd} {X : Cx}
end

end Dn
namespace Dn
open PySem PySem.Spec PyProof.Rows L2

section
variable {M : Model} {A : Around} {E : Value → Shared → Prop} {s : Shared} {K : PySem.W.Frag} {x C L f : Addr} {h₀ : Heap} {m : Str → Option Value} {ox : Obj} {od : Option Obj} {Q : Value → Shared → Prop}
end
section
variable {W : Wd} {M : Md W} {E : WX} {X : Cx} {k j t : Nat} {ps : List Str} {F : DF} {pos : Pos} {o : Expr} {fo : DE}
end
end Dn
namespace Dn
open PySem PySem.Spec PyProof.Rows L2

section
variable {W : Wd} {M : Md W} {E : WX} {X : Cx} {pos : Pos}
inductive PDs (W : Wd) (M : Md W) (E : WX) (X : Cx) : List (Option Expr) → List Expr → List (DE × DE) → Prop
  | nil : PDs W M E X [] [] []
  | cons {k v : Expr} {ks : List (Option Expr)} {vs : List Expr} {fk fv : DE} {l : List (DE × DE)} : PE X k (tD W M E fk) → PE X v (tD W M E fv) → PDs W M E X ks vs l → PDs W M E X (some k :: ks) (v :: vs) ((fk, fv) :: l)
end
end Dn
namespace Dn
open PySem
end Dn
namespace Dn
open PySem PySem.Spec PyProof.Rows L2

section
variable {W : Wd} {M : Md W} {E : WX} {X : Cx} {k : Nat}
end
end Dn
namespace Dn
open PySem PySem.Spec PyProof.Rows L2
section
variable {W : Wd} {X : Cx}
end
end Dn
namespace Dn
open PySem PySem.Spec PyProof.Rows L2
section
variable {X : Cx} {W : Wd} {M : Md W} {E : WX} {j k t : Nat} {x : Str} {ps : List Str} {F : DF}
end
end Dn
namespace Dn
open PySem PySem.Spec PyProof.Rows L2
section
variable {W : Wd} {M : Md W} {E : WX} {X : Cx}
end
end Dn
namespace Dn
open PySem PySem.Spec PyProof.Rows L2
/-- a def's promise where nothing is being shown -/
def FnG (P : Program) (w : World) (K : PySem.W.Frag) (mg : Str → Option Value) (base : Heap) (CX : CXT) (k : Nat) (f : Addr) (fd : FuncData) (ps : List Str) (sp : Sp) : Prop :=
  (∀ vs H Q E, sp vs H Q E → vs.length = ps.length) ∧
    ∀ (A : Around) (outer : List Env) (s : Shared) (H : Hp) (args : Args) (us : List Value) (vs : List V) (Q : VK) (E : XK), A.guards = some [] → Room k A → Env0 P w K mg base A outer s H → BindsTo s fd args (ps.zip us) → Vals vs us →
      sp vs H Q E → codeAny (model P w) A (.call (.ref f) args) (CR CX outer P w H s Q E) s
theorem FnG.imp {P : Program} {w : World} {K : PySem.W.Frag} {mg : Str → Option Value} {base : Heap} {CX : CXT} {k : Nat} {f : Addr} {fd : FuncData} {ps : List Str} {sp sp' : Sp} (F : FnG P w K mg base CX k f fd ps sp)
    (h : ∀ vs H Q E, sp' vs H Q E → sp vs H Q E) : FnG P w K mg base CX k f fd ps sp' :=
  ⟨fun vs H Q E q => F.1 _ _ _ _ (h _ _ _ _ q), fun A outer s H args us vs Q E hg hr he hb hv hs => F.2 A outer s H args us vs Q E hg hr he hb hv (h _ _ _ _ hs)⟩
section
variable {P : Program} {w : World} {mg : Str → Option Value} {base : Heap} {W : Wd} {x qual : Str} {params : Arguments} {body : List Stmt} {scope : Scope} {dvs : List V} {kws : List (Str × V)} {f : Addr} {fd : FuncData}
end
section
variable {W : Wd} {M : Md W} {E : WX} {X : Cx} {k j n m q : Nat} {f : Addr} {fd : FuncData} {ps ks : List Str} {F : DF} {x : Str} {p pos : Pos} {e : Expr} {es : List Expr} {kws : List Keyword} {fa fk : DA} {ix : List Nat} {dfl : List AV} {bs : Bs}
def HasG (P : Program) (w : World) (mg : Str → Option Value) (base : Heap) (W : Wd) (k : Nat) (x : Str) (ps : List Str) (n : Nat) (F : DF) (bs : Bs) : Prop :=
  ∃ (a : Addr) (fd : FuncData), mg x = some (.ref a) ∧ PySem.W.keepIn W.K (.ref a) = true ∧ FnG P w W.K mg base (L2.CX P w) k a fd ps (spD W n F) ∧ ∀ b ∈ bs, BnD W fd ps b.1 b.2.1 b.2.2.1 b.2.2.2
end
/-- a def, with the ways it is called -/
def FnBG (P : Program) (w : World) (mg : Str → Option Value) (base : Heap) (W : Wd) (k : Nat) (f : Addr) (fd : FuncData) (ps : List Str) (n : Nat) (F : DF) (bs : Bs) : Prop :=
  PySem.W.keepIn W.K (.ref f) = true ∧ FnG P w W.K mg base (L2.CX P w) k f fd ps (spD W n F) ∧ ∀ b ∈ bs, BnD W fd ps b.1 b.2.1 b.2.2.1 b.2.2.2
theorem FnBG.has {P : Program} {w : World} {mg : Str → Option Value} {base : Heap} {W : Wd} {k : Nat} {f : Addr} {fd : FuncData} {ps : List Str} {n : Nat} {F : DF} {bs : Bs} {x : Str} (B : FnBG P w mg base W k f fd ps n F bs) (h : mg x = some (.ref f)) : HasG P w mg base W k x ps n F bs := ⟨f, fd, h, B.1, B.2.1, B.2.2⟩

end Dn
namespace Dn
open PySem PySem.Spec PyProof.Rows L2
section
variable {W : Wd} {M : Md W} {E : WX} {X : Cx} {e : Expr} {es : List Expr} {f : DE} {fa : DA}
end
end Dn
namespace Dn
open PySem PySem.Spec PyProof.Rows L2
theorem kv_vals {κ : Type} : ∀ {kvs : List (κ × V)} {vs : List (κ × Value)}, KV kvs vs → Vals (kvs.map (·.2)) (vs.map (·.2))
  | _, _, .nil => .nil
  | _, _, .cons r t => .cons r.2 (kv_vals t)
section
variable {X : Cx} {e o : Expr} {te td ty : TE} {p apos cpos pos : Pos}
end
section
variable {W : Wd} {M : Md W} {E : WX} {X : Cx} {o e : Expr} {fo fe : DE} {p apos cpos pos : Pos}
end
end Dn
namespace Dn
open PySem PySem.Spec PyProof.Rows L2
section
variable {W : Wd} {M : Md W} {E : WX} {X : Cx} {tg : Expr}
end
end Dn
namespace Dn
open PySem PySem.Spec PyProof.Rows L2

section
variable {X : Cx} {pins : List (Addr × Obj)} {σ : L2.St} {H HZ : Hp} {s s1 : Shared} {W : Wd}
open LamX
end
section
variable {X : Cx} {W : Wd} {M : Md W} {E : WX}
open LamX
end
end Dn
namespace Dn
open PySem PySem.Spec PyProof.Rows L2
/-- the slots of an except suite, over B -/
def exG {W : Wd} (B : Md W) (i t : Nat) (fs : List (Nat × AV)) (a : Addr) (d : Option Addr) : Md W where
  rel := fun io H as σ => (as.length = σ.length ∧ σ[i]? = some (some (.ref a)) ∧ as[i]? = some (some (.exn t fs))) ∧ B.rel io H (as.set i none) (σ.set i none) ∧ RXf W io H fs d
  mono := fun e h => ⟨h.1, B.mono e h.2.1, h.2.2.mono e⟩
  var := fun {io H as σ j v} h q hn => by
    by_cases hj : j = i
    · subst hj
      rw [h.1.2.2] at q
      cases q
      exact absurd rfl (hn t fs)
    · obtain ⟨x, e, r⟩ := B.var h.2.1 (by rw [List.getElem?_set_ne (Ne.symm hj)]; exact q) hn
      rw [List.getElem?_set_ne (Ne.symm hj)] at e
      exact ⟨x, e, r⟩
  ok := fun j => j ≠ i ∧ B.ok j
  set := fun {io H as σ j v x} h r hj => ⟨⟨by simp [h.1.1], by rw [List.getElem?_set_ne hj.1]; exact h.1.2.1, by rw [List.getElem?_set_ne hj.1]; exact h.1.2.2⟩, by
    rw [List.set_comm _ _ hj.1, List.set_comm _ _ hj.1]
    exact B.set h.2.1 r hj.2, h.2.2⟩
  wipe := fun {io H as σ j} h hj => ⟨⟨by simp [h.1.1], by rw [List.getElem?_set_ne hj.1]; exact h.1.2.1, by rw [List.getElem?_set_ne hj.1]; exact h.1.2.2⟩, by
    rw [List.set_comm _ _ hj.1, List.set_comm _ _ hj.1]
    exact B.wipe h.2.1 hj.2, h.2.2⟩
section
variable {W : Wd} {B : Md W} {X : Cx} {T : XT}
/-- the clauses, read -/
inductive HdG {W : Wd} (B : Md W) (X : Cx) (T : XT) : List ExceptHandler → Hds → Prop
  | nil : HdG B X T [] []
  | only {x : Str} {c : Nat} {f : DS} {b₀ : Stmt} {suite : List Stmt} {np pos : Pos} {hds : List ExceptHandler} {hs : Hds} (hc : Names X x (.ref (W.cl c))) (h1 : T.n ≤ c) (h2 : c < T.m)
      (hsu : ∀ (a : Addr) (oe : Obj) (pn : List (Addr × Obj)), PSs (X.suite a ((a, oe) :: pn)) (b₀ :: suite) (tS W B E0x f)) (r : HdG B X T hds hs) :
      HdG B X T (.ExceptHandler (some (.Name x np)) none (b₀ :: suite) pos :: hds) ((c, none, f) :: hs)
  | as {x n : Str} {i c : Nat} {f : DS} {b₀ : Stmt} {suite : List Stmt} {np pos : Pos} {hds : List ExceptHandler} {hs : Hds} (hc : Names X x (.ref (W.cl c))) (h1 : T.n ≤ c) (h2 : c < T.m) (hB : B.ok i) (hN : X.N.Nodup) (hi : X.N[i]? = some n) (hl : X.env.kindOf n = some .local)
      (hsu : ∀ (a : Addr) (oe : Obj) (pn : List (Addr × Obj)) (t : Nat) (fs : List (Nat × AV)) (d : Option Addr), T.n ≤ t → t < T.m → Zc (.ref (W.cl t)) d oe → (∃ vs, oe.data = .fields vs) → PSs (X.suite a ((a, oe) :: pn)) (b₀ :: suite) (tS W (exG B i t fs a d) E0x f)) (r : HdG B X T hds hs) :
      HdG B X T (.ExceptHandler (some (.Name x np)) (some n) (b₀ :: suite) pos :: hds) ((c, some i, f) :: hs)
end
section
variable {W : Wd} {B : Md W} {X : Cx} {T : XT} {E : WX} {a : Addr} {oe : Obj} {pn : List (Addr × Obj)} {i j t : Nat} {fs : List (Nat × AV)} {d : Option Addr} {x nm : Str} {p pos : Pos}
def xoB (cs : List Str) (T : XT) (c : Nat) (K : PySem.W.Frag) : Bool := allN (T.m - T.n) fun i => decide (PySem.W.kitOne K (.ref (clOf K cs (T.n + i))) (.ref (clOf K cs c)) = some (T.sub (T.n + i) c))
end
end Dn
namespace Dn
open PySem PySem.Spec PyProof.Rows L2
/-- the code object of a def -/
def codF (K : PySem.W.Frag) (f : Addr) : Addr := match K.lookup f with
  | some ⟨_, _, .func fd, _⟩ => (match fd.code with
    | .ref c => c
    | _ => 0)
  | _ => 0
/-- the table of a code object -/
def tabF (K : PySem.W.Frag) (c : Addr) : Addr := match K.lookup c with
  | some ⟨_, _, .fields vs, _⟩ => (match (vs[11]? : Option Value) with
    | some (.ref P) => P
    | _ => 0)
  | _ => 0
/-- a def that makes lambdas: its code object and its table, which is empty -/
structure LamAt (K : PySem.W.Frag) (h : Heap) (f : Addr) : Prop where
  fd : ∃ oc od fd osl, K.lookup f = some ⟨oc, od, .func fd, osl⟩ ∧ fd.code = .ref (codF K f)
  cd : PySem.W.CodeHd h (codF K f) (tabF K (codF K f))
  tb : h.get? (tabF K (codF K f)) = some { cls := .none, data := .fields #[] }
  nt : K.lookup (tabF K (codF K f)) = none
theorem LamAt.keeps {K : PySem.W.Frag} {h h' : Heap} {f : Addr} (l : LamAt K h f) (k : ∀ b o, h.get? b = some o → h'.get? b = some o) : LamAt K h' f := ⟨l.fd, l.cd.keeps k, k _ _ l.tb, l.nt⟩
end Dn
namespace Dn
open PySem PySem.Spec PyProof.Rows L2
section
variable {W : Wd} {E : WX} {X : Cx} {T : XT} {t i : Nat} {fs : List (Nat × AV)} {a : Addr} {oe : Obj} {d : Option Addr} {pn : List (Addr × Obj)} {x : Str} {p pos : Pos} {B : Md W}
end
end Dn
namespace Dn
open PySem PySem.Spec PyProof.Rows L2
structure ClsM (K : PySem.W.Frag) (C : Addr) (m : Str) (f : Addr) : Prop where
  rd : ClX.CRead K C (.type "type")
  ex : ∃ p, PySem.W.findCls K (.ref C) (.type "type") m = some (.get (.builtin "classmethod.__get__") (.ref p) .none (.ref C)) ∧ ∃ rest, PySem.W.recIn K p "classmethod" = some (.ref f :: rest)
section
variable {P : Program} {w : World} {mg : Str → Option Value} {base : Heap} {W : Wd} {k n t : Nat} {f : Addr} {fd : FuncData} {ps : List Str} {F : DF} {x : Str} {bs : Bs}
end
section
variable {W : Wd} {M : Md W} {E : WX} {X : Cx} {k j n m q t : Nat} {ps : List Str} {F : DF} {x c : Str} {p pos apos : Pos} {e : Expr} {es : List Expr} {fa : DA} {ix : List Nat} {dfl : List AV} {bs : Bs}
end
end Dn
namespace Dn
open PySem PySem.Spec PyProof.Rows L2
end Dn
namespace Dn
open PySem PySem.Spec PyProof.Rows L2
section
variable {W : Wd} {M : Md W} {E : WX} {X : Cx} {x : Str} {p pos : Pos} {e : Expr} {es : List Expr} {kws : List Keyword} {fa fk : DA}
end
end Dn
namespace Dn
open PySem PySem.Spec PyProof.Rows L2
section
variable {W : Wd} {M : Md W} {E : WX} {X : Cx} {k j n m q t i : Nat} {ps ks : List Str} {F : DF} {x y : Str} {p pos : Pos} {e : Expr} {es : List Expr} {kws : List Keyword} {fa fk : DA} {ix : List Nat} {dfl : List AV} {bs : Bs}
end
end Dn
namespace Dn
open PySem PySem.Spec PyProof.Rows L2
section
variable {W : Wd} {M : Md W} {E : WX} {X : Cx} {pos : Pos}
end
end Dn
namespace Dn
open PySem PySem.Spec PyProof.Rows L2
section
variable {h : Hep}
end
end Dn
namespace Dn
open PySem PySem.Spec PyProof.Rows L2
section
variable {W : Wd} {M : Md W} {E : WX} {X : Cx} {x : Str} {l : List (Str × Int)} {e f : Expr} {fk fx : DE} {p apos cpos : Pos}
end
end Dn
namespace Dn
open PySem PySem.Spec PyProof.Rows L2
end Dn
namespace Dn
open PySem PySem.Spec PyProof.Rows L2
end Dn
namespace Dn
open PySem PySem.Spec PyProof.Rows L2
def spW (W : Wd) (n m : Nat) (f : DF) : Sp := fun vs H Q E => ∃ io hp as rs, as.length = n ∧ rs.length ≤ m ∧ Rl W io hp H ∧ RVs W io H (as ++ rs) vs ∧ Pfn W E Q io H (f (as ++ [.tup rs]) hp)
section
variable {P : Program} {w : World} {mg : Str → Option Value} {base : Heap} {W : Wd} {x qual : Str} {params : Arguments} {body : List Stmt} {scope : Scope} {f : Addr} {fd : FuncData}
def FnW (P : Program) (w : World) (mg : Str → Option Value) (base : Heap) (W : Wd) (k : Nat) (f : Addr) (n : Nat) (F : DF) : Prop := FnR P w W.K mg base (L2.CX P w) k f (spW W n 4 F)
end
section
variable {W : Wd} {M : Md W} {E : WX} {X : Cx} {k j n i t : Nat} {F : DF} {x : Str} {p pos apos : Pos} {e o : Expr} {fo : DE} {g : Addr}
end
end Dn
namespace Dn
open PySem PySem.Spec PyProof.Rows L2
/-- what is looked at of a method that is taken as a value -/
def bmB (C m : Str) (p : Pth) (K : PySem.W.Frag) : Bool := methB C m p K && (He.eqO (PySem.W.specialIn K (.ref (p K)) "__get__") (some (some (.builtin "function.__get__"))) && (decide (PySem.W.takesIn K (.ref (p K)) = some false) && (!(PySem.W.copiedNames.contains m) && PySem.W.fnIn K (p K))))
end Dn
namespace Dn
open PySem PySem.Spec PyProof.Rows L2
end Dn
namespace Dn
open PySem PySem.Spec PyProof.Rows L2
section
variable {X : Cx} {d : Addr} {es : Array DictEntry} {n : Nat} {l : List (Str × List Str)}
end
section
variable {W : Wd} {M : Md W} {E : WX} {X : Cx} {x : Str} {l : List (Str × List Str)} {e : Expr} {fx : DE} {p pos : Pos}
end
end Dn
namespace ZS
open PySem PySem.Spec PyProof.Rows
open PySem.Sem (wp)
section
variable {prog : Program} {w : World} {A : Around} {E : Value → Shared → Prop} {s : Shared}
end
section
variable {prog : Program} {w : World} {A : Around} {E : Value → Shared → Prop} {s : Shared}
end
section
variable {M : Model} {A : Around} {E : Value → Shared → Prop} {s : Shared} {env : Env}
end
open L2
end ZS
namespace Dn
open PySem PySem.Spec PyProof.Rows L2
section
variable {W : Wd} {M : Md W} {E : WX} {X : Cx} {e e2 : Expr} {kws : List Keyword} {fa fk : DA} {p pos tpos : Pos} {elts : List Expr} {kk : Nat}
end
end Dn
namespace Dn
open PySem PySem.Spec PyProof.Rows L2
structure MCs (X : Cx) (cs : List MatchCase) (t : Str → TS) : Prop where
  run : ∀ (first : Bool) (pins : List (Addr × Obj)) (s : Shared) (σ : L2.St) (H : Hp) (D : Ends) (z : Str) (tk : Tok), Inv X pins σ H s → t z D σ H → wpAny (model X.prog X.w) X.A (matchCases cs X.env (.str z tk) first) (SP X pins D) X.xe s
section
variable {X : Cx} {body : List Stmt} {rest : List MatchCase} {p p1 p2 pos : Pos} {x : Str} {j : Nat} {t : TS} {u : Str → TS} {e : Expr}
end
section
variable {W : Wd} {M : Md W} {E : WX} {X : Cx} {body : List Stmt} {rest : List MatchCase} {p p1 p2 pos : Pos} {x : Str} {j : Nat} {fb d : DS} {cs : List (Str × DS)} {e : Expr} {f : DE}
end
end Dn
namespace Dn
open PySem PySem.Spec PyProof.Rows L2
section
variable {W : Wd} {M : Md W} {E : WX} {X : Cx} {a b : Expr} {es : List Expr} {f g : DE} {pos : Pos}
end
section
variable {W : Wd} {M : Md W} {E : WX} {X : Cx} {k j n q : Nat} {ps ks : List Str} {F : DF} {x : Str} {p pos : Pos} {kws : List Keyword} {fk : DA} {ix : List Nat} {dfl : List AV} {bs : Bs}
end
end Dn
namespace Dn
open PySem PySem.Spec PyProof.Rows L2
section
variable {W : Wd} {M : Md W} {E : WX} {X : Cx} {o e f : Expr} {fo fk fx : DE} {apos cpos : Pos}
end
section
variable {W : Wd} {M : Md W} {E : WX} {X : Cx} {k j n i i1 i2 t : Nat} {F : DF} {x : Str} {p pos apos : Pos} {e ea eb o : Expr} {fo : DE}
end
section
variable {W : Wd} {M : Md W} {E : WX} {X : Cx} {x : Str} {l : List (Str × List Str)} {e : Expr} {fx : DE} {p pos : Pos}
end
end Dn
namespace Dn
open PySem PySem.Spec PyProof.Rows L2
end Dn
namespace Dn
open PySem PySem.Spec PyProof.Rows L2
def kPd : Key → PyData
  | .inl i => .int i
  | .inr x => .str x
mutual
inductive Dq (K : PySem.W.Frag) (H : Hp) : V → PyData → Prop
  | non : Dq K H .non .none
  | bl (b : Bool) : Dq K H (.bl b) (.bool b)
  | int (i : Int) : Dq K H (.int i) (.int i)
  | str (x : Str) : Dq K H (.str x) (.str x)
  | lst {a : Addr} {xs : List V} {ds : List PyData} : H a = some (.lst xs) → DqAll K H xs ds → Dq K H (.ref a) (.list ds)
  | tup {a : Addr} {xs : List V} {ds : List PyData} : SqT K H a xs → DqAll K H xs ds → Dq K H (.ref a) (.tuple ds)
  | dic {a : Addr} {kvs : List (Key × V)} {ds : List PyData} : H a = some (.dK kvs) → DqAll K H (kvs.map (·.2)) ds → Dq K H (.ref a) (.dict ((kvs.map fun kv => kPd kv.1).zip ds))
inductive DqAll (K : PySem.W.Frag) (H : Hp) : List V → List PyData → Prop
  | nil : DqAll K H [] []
  | cons {v : V} {vs : List V} {d : PyData} {ds : List PyData} : Dq K H v d → DqAll K H vs ds → DqAll K H (v :: vs) (d :: ds)
end
theorem readsAll_len {h : Heap} : ∀ {vs : List Value} {ds : List PyData} {as : List Addr}, ReadsAll h vs ds as → vs.length = ds.length
  | _, _, _, .nil => rfl
  | _, _, _, .cons _ r => congrArg (· + 1) (readsAll_len r)
section
variable {X : Cx} {pins : List (Addr × Obj)} {σ : L2.St} {H : Hp} {s : Shared}
theorem keys_read {h : Heap} {P : Program} {w : World} : ∀ {es : List DictEntry} {vs : List (Key × Value)}, Pairs (mixKind P w) es vs → ReadsAll h (es.map (·.key)) (vs.map fun kv => kPd kv.1) []
  | _, _, .nil => .nil
  | _, _, .cons (e := e) (kv := kv) h1 _ q => by
    have r := keys_read (h := h) q
    have one : Reads h e.key (kPd kv.1) [] := by
      rcases keyIs_shape h1 with ⟨i, t, e1, e2⟩ | ⟨x, t, e1, e2⟩
      · rw [e1, e2]
        exact .int i t
      · rw [e1, e2]
        exact .str x t
    exact ReadsAll.cons (as := []) (bs := []) one r
theorem pairs_vals {P : Program} {w : World} : ∀ {es : List DictEntry} {vs : List (Key × Value)}, Pairs (mixKind P w) es vs → es.map (·.val) = vs.map (·.2)
  | _, _, .nil => rfl
  | _, _, .cons _ h2 q => by
    rw [List.map_cons, List.map_cons, h2, pairs_vals q]
theorem kv_keys {κ : Type} : ∀ {kvs : List (κ × V)} {vs : List (κ × Value)}, KV kvs vs → kvs.map (·.1) = vs.map (·.1)
  | _, _, .nil => rfl
  | _, _, .cons r t => by
    rw [List.map_cons, List.map_cons, kv_keys t]
    exact congrArg (· :: _) r.1
mutual
theorem Dq.reads (I : Inv X pins σ H s) : ∀ {v : V} {d : PyData}, Dq X.K H v d → ∀ u, RelV v u → ∃ as, Reads s.heap u d as ∧ ∀ b ∈ as, H b ≠ none
  | _, _, .non, u, r => by
    cases r
    exact ⟨_, Reads.none, by simp⟩
  | _, _, .bl b, u, r => by
    cases r
    exact ⟨_, Reads.bool b, by simp⟩
  | _, _, .int i, u, r => by
    obtain ⟨t, rfl⟩ := r
    exact ⟨_, Reads.int i t, by simp⟩
  | _, _, .str x, u, r => by
    obtain ⟨t, rfl⟩ := r
    exact ⟨_, Reads.str x t, by simp⟩
  | _, _, .lst e q, u, r => by
    cases r
    obtain ⟨its, rv, ⟨o, n, ho, hc, _, hd⟩, _⟩ := I.list (SqL.of e)
    obtain ⟨as, hr, ha⟩ := DqAll.reads I q its rv
    refine ⟨_, Reads.list ho hc hd hr, fun b hb => ?_⟩
    rcases List.mem_cons.mp hb with rfl | w
    · rw [e]
      nofun
    · exact ha b w
  | _, _, .tup hs q, u, r => by
    cases r
    obtain ⟨its, rv, ⟨o, ho, hc, n, hd⟩, _⟩ := I.tuple hs
    obtain ⟨as, hr, ha⟩ := DqAll.reads I q its rv
    exact ⟨_, Reads.tuple ho hc hd hr, ha⟩
  | _, _, .dic (kvs := kvs) (ds := ds) e q, u, r => by
    cases r
    obtain ⟨_, _, vs, kv, o, es, ep, ho, hx, hd, _, hp, _⟩ := dk_of I.hok e
    have rv := kv_vals kv
    obtain ⟨as, hr, ha⟩ := DqAll.reads I q _ rv
    have kr := keys_read (h := s.heap) hp
    have l1 : (kvs.map (·.2)).length = ds.length := by
      have := readsAll_len hr
      have l2 : (kvs.map (·.1)).length = (vs.map (·.1)).length := congrArg List.length (kv_keys kv)
      simp at this l2 ⊢
      omega
    have ke : (kvs.map fun kv => kPd kv.1) = vs.map fun kv => kPd kv.1 := by
      have := congrArg (List.map kPd) (kv_keys kv)
      simpa [List.map_map, Function.comp_def] using this
    refine ⟨_, Reads.dict (as := []) (bs := as) ho hx.1 hd ?_ ?_, fun b hb => ?_⟩
    · rw [List.map_fst_zip (by simp at l1 ⊢; omega), ke]
      exact kr
    · rw [List.map_snd_zip (by simp at l1 ⊢; omega), pairs_vals hp]
      exact hr
    · rcases List.mem_cons.mp hb with rfl | w
      · rw [e]
        nofun
      · exact ha b w
theorem DqAll.reads (I : Inv X pins σ H s) : ∀ {vs : List V} {ds : List PyData}, DqAll X.K H vs ds → ∀ us, Vals vs us → ∃ as, ReadsAll s.heap us ds as ∧ ∀ b ∈ as, H b ≠ none
  | _, _, .nil, _, r => by
    cases r
    exact ⟨_, ReadsAll.nil, by simp⟩
  | _, _, .cons h1 h2, _, r => by
    cases r with
    | cons r1 r2 =>
      obtain ⟨as, q1, a1⟩ := Dq.reads I h1 _ r1
      obtain ⟨bs, q2, a2⟩ := DqAll.reads I h2 _ r2
      refine ⟨_, ReadsAll.cons q1 q2, fun b hb => ?_⟩
      rcases List.mem_append.mp hb with w | w
      · exact a1 b w
      · exact a2 b w
end
end
section
variable {W : Wd} {io : List Addr} {H : Hp} {hp : Hep}
end
section
variable {W : Wd} {M : Md W} {E : WX} {X : Cx}
end
end Dn
namespace Dn
open PySem PySem.Spec PyProof.Rows L2
end Dn
namespace Dn
open PySem PySem.Spec PyProof.Rows L2
section
variable {W : Wd} {X : Cx}
end
end Dn
namespace Dn
open PySem PySem.Spec PyProof.Rows L2
section
variable {W : Wd} {M : Md W} {E : WX} {X : Cx} {f : DE} {e : Expr} {es : List Expr} {gs : DGs} {pos tpos p : Pos} {kk i n : Nat}
end
end Dn
namespace Dn
open PySem PySem.Spec PyProof.Rows L2
end Dn
namespace Dn
open PySem PySem.Spec PyProof.Rows L2
end Dn
namespace Dn
open PySem PySem.Spec PyProof.Rows L2
end Dn
namespace PySem
namespace DX
open PySem.W PySem.Calls PyProof.Rows
section
variable {md : Model} {ar : Around} {ex : Value → Shared → Prop} {hp : Heap} {gs : Array GenState} {dr : Drawn} {tc : Nat} {ops : OsState}
variable {cn qn : Str} {C N : Addr} {bs bm bmB : List Value} {hd : Bool} {sl : List Str} {sb : List Value} {ab : Bool} {col : Option Bool} {dd : Option Addr} {k0 k1 k2 k3 k5 : Option Value} {O nid : String} {kw : List (Str × Value)}
end
section
variable {prog : Program} {w : World} {ar : Around} {ex : Value → Shared → Prop} {R : Result → Shared → Prop} {hp : Heap} {gs : Array GenState} {dr : Drawn} {tc : Nat} {ops : OsState}
variable {cn qn : Str} {C N : Addr} {bs bm bmB : List Value} {hd : Bool} {sl : List Str} {sb : List Value} {ab : Bool} {col : Option Bool} {dd : Option Addr} {k0 k1 k2 k3 k5 : Option Value} {O nid : String} {kw : List (Str × Value)}
end
end DX
end PySem

namespace Dn
open PySem PySem.Spec PyProof.Rows L2

section
variable {X : Cx} {E : WX} {C : Addr} {nm : Str} {B newId initId : String} {bmB : List Value} {x : Str} {p pos kpos : Pos} {e : Expr}
end

section
variable {W : Wd} {M : Md W} {E : WX} {X : Cx} {t j k : Nat} {x : Str} {e : Expr} {f : DE} {p p2 pos : Pos}
section
variable {C fI : Addr} {nm : Str} {B newId : String} {bmB : List Value} {fd : FuncData} {ps ks : List Str} {kws : List Keyword} {ta : TA} {fk : DA}
end
end

section
variable {W : Wd} {M : Md W} {E : WX} {X : Cx} {T : XT} {e : Expr} {f : DE} {pos p2 p3 : Pos} {xc : Str}
end
end Dn
namespace Q
open PySem Dn
def subs0 (s t : Nat) : Bool := false
def cs0 : List Str := []
def fn0 : List Str := ["given"]
abbrev ct0 : CT := ctOf cs0.length subs0
def xs0 : List Str := ["CountError", "BadItem", "BadBound", "BadPairs", "BadRow", "BadExpression", "BadDeed", "Unlike", "Empty", "Full", "BadIndex", "NoKey", "NoName", "NotFound", "NoLayer", "Done", "NothingDone", "Changed"]
def xt0 : XT := ⟨0, 18, fun s t => (s == 0 && t == 0) || (s == 1 && t == 1) || (s == 1 && t == 0) || (s == 2 && t == 2) || (s == 2 && t == 0) || (s == 3 && t == 3) || (s == 3 && t == 0) || (s == 4 && t == 4) || (s == 4 && t == 0) || (s == 5 && t == 5) || (s == 5 && t == 0) || (s == 6 && t == 6) || (s == 6 && t == 0) || (s == 7 && t == 7) || (s == 7 && t == 0) || (s == 8 && t == 8) || (s == 9 && t == 9) || (s == 10 && t == 10) || (s == 11 && t == 11) || (s == 12 && t == 12) || (s == 13 && t == 13) || (s == 14 && t == 14) || (s == 15 && t == 15) || (s == 16 && t == 16) || (s == 17 && t == 17), [(0, "LookupError", false), (0, "ValueError", true), (0, "IndexError", false), (0, "KeyError", false), (0, "RuntimeError", false), (1, "LookupError", false), (1, "ValueError", true), (1, "IndexError", false), (1, "KeyError", false), (1, "RuntimeError", false), (2, "LookupError", false), (2, "ValueError", true), (2, "IndexError", false), (2, "KeyError", false), (2, "RuntimeError", false), (3, "LookupError", false), (3, "ValueError", true), (3, "IndexError", false), (3, "KeyError", false), (3, "RuntimeError", false), (4, "LookupError", false), (4, "ValueError", true), (4, "IndexError", false), (4, "KeyError", false), (4, "RuntimeError", false), (5, "LookupError", false), (5, "ValueError", true), (5, "IndexError", false), (5, "KeyError", false), (5, "RuntimeError", false), (6, "LookupError", false), (6, "ValueError", true), (6, "IndexError", false), (6, "KeyError", false), (6, "RuntimeError", false), (7, "LookupError", false), (7, "ValueError", true), (7, "IndexError", false), (7, "KeyError", false), (7, "RuntimeError", false), (8, "LookupError", true), (8, "ValueError", false), (8, "IndexError", true), (8, "KeyError", false), (8, "RuntimeError", false), (9, "LookupError", true), (9, "ValueError", false), (9, "IndexError", true), (9, "KeyError", false), (9, "RuntimeError", false), (10, "LookupError", true), (10, "ValueError", false), (10, "IndexError", true), (10, "KeyError", false), (10, "RuntimeError", false), (11, "LookupError", true), (11, "ValueError", false), (11, "IndexError", false), (11, "KeyError", true), (11, "RuntimeError", false), (12, "LookupError", true), (12, "ValueError", false), (12, "IndexError", false), (12, "KeyError", true), (12, "RuntimeError", false), (13, "LookupError", true), (13, "ValueError", false), (13, "IndexError", false), (13, "KeyError", false), (13, "RuntimeError", false), (14, "LookupError", true), (14, "ValueError", false), (14, "IndexError", false), (14, "KeyError", false), (14, "RuntimeError", false), (15, "LookupError", true), (15, "ValueError", false), (15, "IndexError", false), (15, "KeyError", false), (15, "RuntimeError", false), (16, "LookupError", true), (16, "ValueError", false), (16, "IndexError", false), (16, "KeyError", false), (16, "RuntimeError", false), (17, "LookupError", false), (17, "ValueError", false), (17, "IndexError", false), (17, "KeyError", false), (17, "RuntimeError", true)]⟩
end Q
namespace Q
open PySem PySem.Spec PyProof.Rows L2 Dn
set_option maxHeartbeats 0
def top (i : Nat) : Stmt := PySem.Challenge.pw_dequecounts_k01_errors_and_their_fields.main.body.getD i (.Pass ⟨0, 0, 0, 0⟩)
def d__law_source : DefF := ⟨(pDef "_law_source"), "_law_source", "_law_source", defArgs (top 20), defBody (top 20), defScope (top 20), [], []⟩
def d__law_fields_right : DefF := ⟨(pDef "_law_fields_right"), "_law_fields_right", "_law_fields_right", defArgs (top 25), defBody (top 25), defScope (top 25), [], []⟩
def d__law_draw : DefF := ⟨(pDef "_law_draw"), "_law_draw", "_law_draw", defArgs (top 21), defBody (top 21), defScope (top 21), [], []⟩
def d__law_odd : DefF := ⟨(pDef "_law_odd"), "_law_odd", "_law_odd", defArgs (top 22), defBody (top 22), defScope (top 22), [], []⟩
def d__law_bases : DefF := ⟨(pDef "_law_bases"), "_law_bases", "_law_bases", defArgs (top 23), defBody (top 23), defScope (top 23), [], []⟩
def d__law_classes : DefF := ⟨(pDef "_law_classes"), "_law_classes", "_law_classes", defArgs (top 24), defBody (top 24), defScope (top 24), [], []⟩
def d__law_bases_right : DefF := ⟨(pDef "_law_bases_right"), "_law_bases_right", "_law_bases_right", defArgs (top 26), defBody (top 26), defScope (top 26), [], []⟩
def d_law : DefF := ⟨(pDef "law"), "law", "law", defArgs (top 27), defBody (top 27), defScope (top 27), [], []⟩
theorem sc_I_NoKey : FnScope ["self", "given"] ["self", "given"] (defScope (clsStmt (top 12) 0)) := ⟨rfl, rfl, rfl, by decide +kernel, rfl, by decide +kernel, by decide +kernel⟩
def d_I_NoKey : DefF := ⟨(pMeth "NoKey" "__init__"), "__init__", "NoKey.__init__", defArgs (clsStmt (top 12) 0), defBody (clsStmt (top 12) 0), defScope (clsStmt (top 12) 0), [], []⟩
theorem sc_I_BadIndex : FnScope ["self", "given"] ["self", "given"] (defScope (clsStmt (top 11) 0)) := ⟨rfl, rfl, rfl, by decide +kernel, rfl, by decide +kernel, by decide +kernel⟩
def d_I_BadIndex : DefF := ⟨(pMeth "BadIndex" "__init__"), "__init__", "BadIndex.__init__", defArgs (clsStmt (top 11) 0), defBody (clsStmt (top 11) 0), defScope (clsStmt (top 11) 0), [], []⟩
theorem sc_I_BadDeed : FnScope ["self", "given"] ["self", "given"] (defScope (clsStmt (top 7) 0)) := ⟨rfl, rfl, rfl, by decide +kernel, rfl, by decide +kernel, by decide +kernel⟩
def d_I_BadDeed : DefF := ⟨(pMeth "BadDeed" "__init__"), "__init__", "BadDeed.__init__", defArgs (clsStmt (top 7) 0), defBody (clsStmt (top 7) 0), defScope (clsStmt (top 7) 0), [], []⟩
theorem sc_I_BadBound : FnScope ["self", "given"] ["self", "given"] (defScope (clsStmt (top 3) 0)) := ⟨rfl, rfl, rfl, by decide +kernel, rfl, by decide +kernel, by decide +kernel⟩
def d_I_BadBound : DefF := ⟨(pMeth "BadBound" "__init__"), "__init__", "BadBound.__init__", defArgs (clsStmt (top 3) 0), defBody (clsStmt (top 3) 0), defScope (clsStmt (top 3) 0), [], []⟩
theorem sc_I_BadItem : FnScope ["self", "given"] ["self", "given"] (defScope (clsStmt (top 2) 0)) := ⟨rfl, rfl, rfl, by decide +kernel, rfl, by decide +kernel, by decide +kernel⟩
def d_I_BadItem : DefF := ⟨(pMeth "BadItem" "__init__"), "__init__", "BadItem.__init__", defArgs (clsStmt (top 2) 0), defBody (clsStmt (top 2) 0), defScope (clsStmt (top 2) 0), [], []⟩
theorem sc_I_NotFound : FnScope ["self", "given"] ["self", "given"] (defScope (clsStmt (top 14) 0)) := ⟨rfl, rfl, rfl, by decide +kernel, rfl, by decide +kernel, by decide +kernel⟩
def d_I_NotFound : DefF := ⟨(pMeth "NotFound" "__init__"), "__init__", "NotFound.__init__", defArgs (clsStmt (top 14) 0), defBody (clsStmt (top 14) 0), defScope (clsStmt (top 14) 0), [], []⟩
theorem sc_I_NoName : FnScope ["self", "given"] ["self", "given"] (defScope (clsStmt (top 13) 0)) := ⟨rfl, rfl, rfl, by decide +kernel, rfl, by decide +kernel, by decide +kernel⟩
def d_I_NoName : DefF := ⟨(pMeth "NoName" "__init__"), "__init__", "NoName.__init__", defArgs (clsStmt (top 13) 0), defBody (clsStmt (top 13) 0), defScope (clsStmt (top 13) 0), [], []⟩
def fn : List DefF := [d__law_source, d__law_fields_right, d__law_draw, d__law_odd, d__law_bases, d__law_classes, d__law_bases_right, d_law, d_I_NoKey, d_I_BadIndex, d_I_BadDeed, d_I_BadBound, d_I_BadItem, d_I_NotFound, d_I_NoName]
def fa : List He.Fa := [.glo "law", .glo "Full", .glo "Empty", .glo "Unlike", .glo "BadExpression", .glo "BadRow", .glo "BadPairs", .glo "Changed", .glo "NothingDone", .glo "Done", .glo "NoLayer", .glo "NoKey", .glo "BadIndex", .glo "BadDeed", .glo "BadBound", .glo "BadItem", .glo "NotFound", .glo "NoName", .free "len", .free "abs", .free "int", .free "repr", .glo "_law_draw", .free "isinstance", .free "LookupError", .free "ValueError", .glo "CountError", .free "IndexError", .free "KeyError", .free "RuntimeError", .free "enumerate", .free "range", .glo "_law_bases", .glo "_law_classes", .free "max", .free "min", .glo "_law_source", .glo "_law_fields_right", .glo "_law_odd", .glo "_law_bases_right"]
def xt : List (PySem.W.Frag → Bool) := [cdB, ckB, wdXB cs0 xs0 fn0 subs0, xwB (cs0 ++ xs0) fn0 xt0, x0B "Full" [.type "IndexError", .type "LookupError", .type "Exception", .type "BaseException", .type "object"] "IndexError.__new__", x0B "Empty" [.type "IndexError", .type "LookupError", .type "Exception", .type "BaseException", .type "object"] "IndexError.__new__", x0B "Unlike" [.type "ValueError", .type "Exception", .type "BaseException", .type "object"] "ValueError.__new__", x0B "BadExpression" [.type "ValueError", .type "Exception", .type "BaseException", .type "object"] "ValueError.__new__", x0B "BadRow" [.type "ValueError", .type "Exception", .type "BaseException", .type "object"] "ValueError.__new__", x0B "BadPairs" [.type "ValueError", .type "Exception", .type "BaseException", .type "object"] "ValueError.__new__", x0B "Changed" [.type "RuntimeError", .type "Exception", .type "BaseException", .type "object"] "RuntimeError.__new__", x0B "NothingDone" [.type "LookupError", .type "Exception", .type "BaseException", .type "object"] "LookupError.__new__", x0B "Done" [.type "LookupError", .type "Exception", .type "BaseException", .type "object"] "LookupError.__new__", x0B "NoLayer" [.type "LookupError", .type "Exception", .type "BaseException", .type "object"] "LookupError.__new__", xiB "NoKey" "given" (pMeth "NoKey" "__init__") PySem.DX.bmKey "LookupError.__new__", xiB "BadIndex" "given" (pMeth "BadIndex" "__init__") [.type "IndexError", .type "LookupError", .type "Exception", .type "BaseException", .type "object"] "IndexError.__new__", xiB "BadDeed" "given" (pMeth "BadDeed" "__init__") [.type "ValueError", .type "Exception", .type "BaseException", .type "object"] "ValueError.__new__", xiB "BadBound" "given" (pMeth "BadBound" "__init__") [.type "ValueError", .type "Exception", .type "BaseException", .type "object"] "ValueError.__new__", xiB "BadItem" "given" (pMeth "BadItem" "__init__") [.type "ValueError", .type "Exception", .type "BaseException", .type "object"] "ValueError.__new__", xiB "NotFound" "given" (pMeth "NotFound" "__init__") [.type "LookupError", .type "Exception", .type "BaseException", .type "object"] "LookupError.__new__", xiB "NoName" "given" (pMeth "NoName" "__init__") PySem.DX.bmKey "LookupError.__new__", xoB (cs0 ++ xs0) xt0 0, xoB (cs0 ++ xs0) xt0 3, xoB (cs0 ++ xs0) xt0 2, xoB (cs0 ++ xs0) xt0 1, xoB (cs0 ++ xs0) xt0 5, xoB (cs0 ++ xs0) xt0 4, xoB (cs0 ++ xs0) xt0 8, xoB (cs0 ++ xs0) xt0 7, xoB (cs0 ++ xs0) xt0 6, xoB (cs0 ++ xs0) xt0 11, xoB (cs0 ++ xs0) xt0 10, xoB (cs0 ++ xs0) xt0 9, xoB (cs0 ++ xs0) xt0 14, xoB (cs0 ++ xs0) xt0 13, xoB (cs0 ++ xs0) xt0 12, xoB (cs0 ++ xs0) xt0 17, xoB (cs0 ++ xs0) xt0 16, xoB (cs0 ++ xs0) xt0 15]
abbrev RR : PySem.W.OpenRow := PySem.W.OpenLaw.row PySem.Challenge.rw_dequecounts_k01_errors_and_their_fields
def as : List Addr := [3, 24, 44, 63, 75, 87, 99, 118, 130, 142, 155, 175, 195, 215, 235, 248, 261, 274, 287, 297, 304, 311, 318, 325, 332, 337, 344, 23, 43, 62, 74, 86, 98, 117, 129, 141, 154, 174, 194, 214, 234, 247, 260, 273, 286, 296, 303, 310, 317, 324, 331, 336, 343, 41, 60, 115, 172, 192, 212, 232, 40, 59, 114, 171, 191, 211, 231]
abbrev hk : PySem.W.Hook := hookL as fa fn xt
def ob (s : PySem.W.SharedT) : AlF := obsLG as fa fn xt (HandSHeadRun.getT s)
theorem ob_eq (s : PySem.W.SharedT) : ob s = hk.obs s.abs := obsLG_eq (HandSHeadRun.getT_eq s)
def nms : List PySem.Str := (["CountError", "BadItem", "BadBound", "BadPairs", "BadRow", "BadExpression", "BadDeed", "Unlike", "Empty", "Full", "BadIndex", "NoKey", "NoName", "NotFound", "NoLayer", "Done", "NothingDone", "Changed", "_law_source", "_law_draw", "_law_odd", "_law_bases", "_law_classes", "_law_fields_right", "_law_bases_right"] : List PySem.Str)
theorem run (w : World) : HandSHeadRun.RunEq RR (PySem.W.view RR.prog [27]) hk ob 80000 nms w := by
  intro os
  kernel_rfl
end Q
namespace Dn
open PySem PySem.Spec PyProof.Rows L2

section
variable {W : Wd} {io io' io'' : List Addr} {H H' H'' : Hp}
theorem RVs.app : ∀ {xs ys : List AV} {vs ws : List V}, RVs W io H xs vs → RVs W io H ys ws → RVs W io H (xs ++ ys) (vs ++ ws)
  | _, _, _, _, .nil, q => q
  | _, _, _, _, .cons r t, q => .cons r (RVs.app t q)
theorem RVs.drop : ∀ {xs : List AV} {vs : List V} (n : Nat), RVs W io H xs vs → RVs W io H (xs.drop n) (vs.drop n)
  | _, _, 0, q => q
  | _, _, n + 1, .nil => .nil
  | _, _, n + 1, .cons r t => RVs.drop n t
theorem RVs.rep {xs : List AV} {vs : List V} (h : RVs W io H xs vs) : ∀ n : Nat, RVs W io H (List.replicate n xs).flatten (List.replicate n vs).flatten
  | 0 => .nil
  | n + 1 => by
    rw [List.replicate_succ, List.replicate_succ, List.flatten_cons, List.flatten_cons]
    exact h.app (RVs.rep h n)
/-- values that are the same in every heap -/
theorem RVs.ints : ∀ ns : List Int, RVs W io H (ns.map .int) (ns.map .int)
  | [] => .nil
  | n :: r => .cons (.int n) (RVs.ints r)
/-- an address of ours is tracked -/
theorem Rl.mem (R : Rl W io hp H) {a : Addr} (h : a ∈ io) : ∃ u, H a = some u := by
  obtain ⟨n, hn⟩ := List.mem_iff_getElem?.mp h
  obtain ⟨_, u, _, e, _⟩ := R.has hn
  exact ⟨u, e⟩
theorem sqT_new {K : PySem.W.Frag} {p : Addr} {ho : HO} (hp : H p = none) {a : Addr} {xs : List V} (h : SqT K H a xs) : SqT K (upd H p ho) a xs := by
  rcases h with (h | ⟨o, h⟩) | h
  · exact .inl (.inl (by rw [upd_ne (ne_of_none h hp)]; exact h))
  · exact .inl (.inr ⟨o, by rw [upd_ne (ne_of_none h hp)]; exact h⟩)
  · exact .inr h
theorem roL_new {K : PySem.W.Frag} {p : Addr} {ho : HO} (hp : H p = none) {a : Addr} {xs : List V} (h : RoL K H a xs) : RoL K (upd H p ho) a xs := by
  rcases h with ⟨o, h⟩ | h
  · exact .inl ⟨o, by rw [upd_ne (ne_of_none h hp)]; exact h⟩
  · exact .inr h
theorem tab_new {p : Addr} {ho : HO} (hp : H p = none) {P : Addr} {q : Str} (t : LamX.TabS H P q) : LamX.TabS (upd H p ho) P q := by
  obtain ⟨ps, h1, h2, h3⟩ := t
  refine ⟨ps, by rw [upd_ne (ne_of_none h1 hp)]; exact h1, h2, fun pos cv hc => ?_⟩
  obtain ⟨c, e1, e2⟩ := h3 pos cv hc
  exact ⟨c, e1, by rw [upd_ne (ne_of_none e2 hp)]; exact e2⟩
theorem Ext.new (io : List Addr) {p : Addr} (ho : HO) (hp : H p = none) (l : List Addr) : Ext W io H (io ++ l) (upd H p ho) :=
  ⟨⟨l, rfl⟩, fun _ _ h => sqT_new hp h, fun _ _ h => roL_new hp h, fun a fs h => by rw [upd_ne (ne_of_none h hp)]; exact h, fun a o u h => by rw [upd_ne (ne_of_none h hp)]; exact h, fun a u h => by rw [upd_ne (ne_of_none h hp)]; exact h, fun h p' hp' => tab_new hp (h p' hp')⟩
theorem Ext.new0 {p : Addr} {ho : HO} (hp : H p = none) : Ext W io H io (upd H p ho) := by
  have e := Ext.new (W := W) io ho hp []
  rwa [List.append_nil] at e
/-- a new thing that is none of ours (a tuple, an exception's dict) -/
theorem Rl.other (R : Rl W io hp H) {p : Addr} {ho : HO} (hn : H p = none) : Rl W io hp (upd H p ho) := by
  refine ⟨R.len, R.nd, fun i a o hi h => ?_, (Ext.new0 (W := W) (io := io) hn).tab R.tb⟩
  obtain ⟨u, e, r⟩ := R.at hi h
  exact ⟨u, by rw [upd_ne (ne_of_none e hn)]; exact e, r.mono (Ext.new0 hn)⟩
/-- a new object -/
theorem Rl.new (R : Rl W io hp H) {p : Addr} {ho : HO} {o : AO} (hn : H p = none) (r : RO W (io ++ [p]) (upd H p ho) o ho) : Rl W (io ++ [p]) (hp ++ [o]) (upd H p ho) := by
  have hp' : p ∉ io := fun h => by
    obtain ⟨u, e⟩ := R.mem h
    rw [hn] at e
    cases e
  refine ⟨by simp [R.len], ?_, fun i a q hi h => ?_, (Ext.new0 (W := W) (io := io) hn).tab R.tb⟩
  · refine List.nodup_append.mpr ⟨R.nd, by simp, fun a ha b hb => ?_⟩
    rw [List.mem_singleton] at hb
    subst hb
    rintro rfl
    exact hp' ha
  · by_cases hl : i < io.length
    · rw [List.getElem?_append_left hl] at hi
      rw [List.getElem?_append_left (by rw [← R.len]; exact hl)] at h
      obtain ⟨u, e, r'⟩ := R.at hi h
      exact ⟨u, by rw [upd_ne (ne_of_none e hn)]; exact e, r'.mono (Ext.new io ho hn [p])⟩
    · rw [List.getElem?_append_right (by omega)] at hi
      rw [List.getElem?_append_right (by rw [← R.len]; omega)] at h
      rw [R.len] at hi
      have z : i - hp.length = 0 := by
        obtain ⟨hh, _⟩ := List.getElem?_eq_some_iff.mp hi
        simp at hh
        omega
      rw [z] at hi h
      simp at hi h
      subst hi
      subst h
      exact ⟨ho, upd_same, r⟩
end
end Dn
namespace Dn
open PySem PySem.Spec PyProof.Rows L2

abbrev DT := Sl → Hep → R Bool
abbrev DA := Sl → Hep → R (List AV)
def R.st {T : Type} (r : R T) (s : Sl) (k : T → Hep → SR) : SR := match r with
  | .ok a h => k a h
  | .exc t fs h => .exc t fs s h
  | .stuck => .stuck
section
variable {W : Wd} {M : Md W} {T T' U U' : Type}
abbrev tDA (W : Wd) (M : Md W) (E : WX) (f : DA) : TA := tG W M (RVs W) E f
abbrev tDT (W : Wd) (M : Md W) (E : WX) (f : DT) : TT := tG W M (fun _ _ b c => b = c) E f

section
variable {rh : Rel T U} {rh' : Rel T' U'} {E : WX} {D : Ends} {σ : L2.St} {H H1 : Hp} {io io1 : List Addr} {hp : Hep} {as : Sl}
/-- a part of an expression, then the rest -/
theorem step {f : Sl → Hep → R T} {k : T → Hep → R T'} {Q : U' → Hp → Prop} (rl : Rl W io hp H) (S : M.rel io H as σ) (P : Pst W rh' E σ Q io H ((f as hp).bind k)) :
    tG W M rh E f σ H (fun x H1 => ∃ io1 hp1 a, Ext W io H io1 H1 ∧ Rl W io1 hp1 H1 ∧ rh io1 H1 a x ∧ Pst W rh' E σ Q io1 H1 (k a hp1)) := by
  refine ⟨io, hp, as, rl, S, ?_⟩
  cases e : f as hp with
  | ok a hp1 =>
    rw [e] at P
    exact fun io' H' x e' r' q => ⟨io', hp1, a, e', r', q, Pst.later P e'⟩
  | exc t fs hp1 =>
    rw [e] at P
    exact P
  | stuck =>
    rw [e] at P
    exact P
/-- a part of a statement, then the rest -/
theorem stepS {f : Sl → Hep → R T} {k : T → Hep → SR} (rl : Rl W io hp H) (S : M.rel io H as σ) (P : Pss W M E D io H ((f as hp).st as k)) :
    tG W M rh E f σ H (fun x H1 => ∃ io1 hp1 a, Ext W io H io1 H1 ∧ Rl W io1 hp1 H1 ∧ rh io1 H1 a x ∧ Pss W M E D io1 H1 (k a hp1)) := by
  refine ⟨io, hp, as, rl, S, ?_⟩
  cases e : f as hp with
  | ok a hp1 =>
    rw [e] at P
    exact fun io' H' x e' r' q => ⟨io', hp1, a, e', r', q, Pss.later P e'⟩
  | exc t fs hp1 =>
    rw [e] at P
    exact fun io' H' c d e' r' q => P io' H' σ c d e' r' (M.mono e' S) q
  | stuck =>
    rw [e] at P
    exact P
end
end

section
variable {X : Cx}
theorem peI {e : Expr} {t t' : TE} (h : PE X e t) (i : ∀ σ H Q, t' σ H Q → t σ H Q) : PE X e t' := ⟨fun pins s σ H Q I q => h.run pins s σ H Q I (i σ H Q q)⟩
theorem ptI {e : Expr} {t t' : TT} (h : PT X e t) (i : ∀ σ H Q, t' σ H Q → t σ H Q) : PT X e t' := ⟨fun pins s σ H Q I q => h.run pins s σ H Q I (i σ H Q q)⟩
theorem paI {e : List Expr} {t t' : TA} (h : PA X e t) (i : ∀ σ H Q, t' σ H Q → t σ H Q) : PA X e t' := ⟨fun pos pins s σ H Q I q => h.run pos pins s σ H Q I (i σ H Q q)⟩
theorem psI {e : Stmt} {t t' : TS} (h : PS X e t) (i : ∀ D σ H, t' D σ H → t D σ H) : PS X e t' := ⟨fun pins s σ H D I q => h.run pins s σ H D I (i D σ H q)⟩
theorem pssI {e : List Stmt} {t t' : TS} (h : PSs X e t) (i : ∀ D σ H, t' D σ H → t D σ H) : PSs X e t' := ⟨fun pins s σ H D I q => h.run pins s σ H D I (i D σ H q)⟩
end

def dVar (i : Nat) : DE := fun s h => match s[i]? with
  | some (some (.exn _ _)) => .stuck
  | some (some v) => .ok v h
  | _ => .stuck
def dC (v : AV) : DE := fun _ h => .ok v h
/-- values that lie in the written part, or nowhere -/
def RW0 (W : Wd) (v : AV) (x : V) : Prop := ∀ io H, RV W io H v x

section
variable {W : Wd} {M : Md W} {E : WX} {X : Cx}
theorem vD {i : Nat} {e : Expr} (h : PE X e (tVar i)) : PE X e (tD W M E (dVar i)) := peI h fun σ H Q ⟨io, hp, as, rl, S, P⟩ => by
  unfold dVar at P
  cases z : as[i]? with
  | none =>
    rw [z] at P
    exact P.elim
  | some o =>
    rw [z] at P
    cases o with
    | none => exact P.elim
    | some v =>
      have hn : ∀ t fs, v ≠ .exn t fs := fun t fs q => by
        subst q
        exact P.elim
      obtain ⟨x, e, r⟩ := M.var S z hn
      refine ⟨x, e, ?_⟩
      cases v with
      | exn t fs => exact absurd rfl (hn t fs)
      | _ => exact P.ok rl r
theorem cD {v : AV} {x : V} {e : Expr} (h : PE X e (tC x)) (r : RW0 W v x) : PE X e (tD W M E (dC v)) := peI h fun σ H Q ⟨io, hp, as, rl, S, P⟩ => P.ok rl (r io H)
end

abbrev D1 := AV → Hep → Op AV
abbrev DL := List AV → Hep → Op AV
def t1 (W : Wd) (r : D1) : V → Hp → VK → Prop := fun x H Q => ∃ io hp a, Rl W io hp H ∧ RV W io H a x ∧ Pop W (RV W) Q io H (r a hp)
def tl (W : Wd) (r : DL) : List V → Hp → VK → Prop := fun xs H Q => ∃ io hp as, Rl W io hp H ∧ RVs W io H as xs ∧ Pop W (RV W) Q io H (r as hp)
def dOp (r : D2) (f g : DE) : DE := fun s h => (f s h).bind fun a h1 => (g s h1).bind fun b h2 => R.of (r a b h2)
def dUn (r : D1) (f : DE) : DE := fun s h => (f s h).bind fun a h1 => R.of (r a h1)
def dCB (r : DL) (f : DA) : DE := fun s h => (f s h).bind fun a h1 => R.of (r a h1)
def dNil : DA := fun _ h => .ok [] h
def dCons (f : DE) (g : DA) : DA := fun s h => (f s h).bind fun a h1 => (g s h1).bind fun b h2 => .ok (a :: b) h2

section
variable {W : Wd} {M : Md W} {E : WX} {X : Cx} {a b c : Expr} {es : List Expr} {f g k : DE} {fa ga : DA} {r : D2} {pos : Pos}
theorem op_imp {F : Value → Value → Sem Value} {r r' : R2} (h : OpR X F r) (i : ∀ x y H Q, r' x y H Q → r x y H Q) : OpR X F r' := fun pins s σ H x y v u Q I r1 r2 q => h pins s σ H x y v u Q I r1 r2 (i x y H Q q)
theorem call_imp {F : Value} {r r' : List V → Hp → VK → Prop} (h : CallR X F r) (i : ∀ x H Q, r' x H Q → r x H Q) : CallR X F r' := fun pins s σ H xs us Q I rr q => h pins s σ H xs us Q I rr (i xs H Q q)
/-- two parts -/
theorem op_in {σ : L2.St} {H : Hp} {Q : VK} (h : tD W M E (dOp r f g) σ H Q) : tOp (t2 W r) (tD W M E f) (tD W M E g) σ H Q := by
  obtain ⟨io, hp, as, rl, S, P⟩ := h
  refine (step (rh := RV W) (f := f) rl S P).imp fun x H1 ⟨io2, hp2, a, e2, rl2, ra, P2⟩ => ?_
  refine (step (rh := RV W) (f := g) rl2 (M.mono e2 S) P2).imp fun y H4 ⟨io5, hp5, b, e5, rl5, rb, P5⟩ => ?_
  exact ⟨io5, hp5, a, b, rl5, ra.mono e5, rb, P5.of⟩
theorem un_in {r : D1} {σ : L2.St} {H : Hp} {Q : VK} (h : tD W M E (dUn r f) σ H Q) : tUn (t1 W r) (tD W M E f) σ H Q := by
  obtain ⟨io, hp, as, rl, S, P⟩ := h
  exact (step (rh := RV W) (f := f) rl S P).imp fun x H1 ⟨io2, hp2, a, e2, rl2, ra, P2⟩ => ⟨io2, hp2, a, rl2, ra, P2.of⟩
theorem cb_in {r : DL} {σ : L2.St} {H : Hp} {Q : VK} (h : tD W M E (dCB r fa) σ H Q) : tCB (tl W r) (tDA W M E fa) σ H Q := by
  obtain ⟨io, hp, as, rl, S, P⟩ := h
  exact (step (rh := RVs W) (f := fa) rl S P).imp fun x H1 ⟨io2, hp2, a, e2, rl2, ra, P2⟩ => ⟨io2, hp2, a, rl2, ra, P2.of⟩
theorem nil_in {σ : L2.St} {H : Hp} {Q : List V → Hp → Prop} (h : tDA W M E dNil σ H Q) : tNil σ H Q := by
  obtain ⟨io, hp, as, rl, S, P⟩ := h
  exact P.ok rl .nil
theorem cons_in {σ : L2.St} {H : Hp} {Q : List V → Hp → Prop} (h : tDA W M E (dCons f fa) σ H Q) : tCons (tD W M E f) (tDA W M E fa) σ H Q := by
  obtain ⟨io, hp, as, rl, S, P⟩ := h
  refine (step (rh := RV W) (f := f) rl S P).imp fun x H1 ⟨io2, hp2, a, e2, rl2, ra, P2⟩ => ?_
  refine (step (rh := RVs W) (f := fa) rl2 (M.mono e2 S) P2).imp fun y H4 ⟨io5, hp5, b, e5, rl5, rb, P5⟩ => ?_
  exact P5.ok rl5 (.cons (ra.mono e5) rb)
theorem nD : PA X [] (tDA W M E dNil) := paI pa_nil fun _ _ _ h => nil_in h
theorem aD (ha : PE X a (tD W M E f)) (hr : PA X es (tDA W M E fa)) (hs : starEach (a :: es) X.env = (false, eval a X.env) :: starEach es X.env := by rfl) : PA X (a :: es) (tDA W M E (dCons f fa)) :=
  paI (pa_cons ha hr hs) fun _ _ _ h => cons_in h
theorem opD {op : Operator} (ho : OpR X (binaryOp op) (t2 W r)) (ha : PE X a (tD W M E f)) (hb : PE X b (tD W M E g)) : PE X (.BinOp a op b pos) (tD W M E (dOp r f g)) := peI (pe_op ho ha hb) fun _ _ _ h => op_in h
theorem unD {r : D1} {op : UnaryOp} (ho : UnR X (unaryOp op) (t1 W r)) (ha : PE X a (tD W M E f)) : PE X (.UnaryOp op a pos) (tD W M E (dUn r f)) := peI (pe_un ho ha) fun _ _ _ h => un_in h
theorem cmD {op : CmpOp} (ho : OpR X (compareOp op) (t2 W r)) (ha : PE X a (tD W M E f)) (hb : PE X b (tD W M E g)) (hm : behindInMarks op b = false) : PE X (.Compare a [op] [b] pos) (tD W M E (dOp r f g)) := peI (pe_cmpR ho ha hb hm) fun _ _ _ h => op_in h
end

def dTst (f : DE) : DT := fun s h => (f s h).bind fun a h1 => match a with
  | .bl b => .ok b h1
  | _ => .stuck
def dOr (f g : DT) : DT := fun s h => (f s h).bind fun b h1 => match b with
  | true => .ok true h1
  | false => g s h1
def dNot (f : DT) : DT := fun s h => (f s h).bind fun b h1 => .ok (!b) h1
section
variable {W : Wd} {M : Md W} {E : WX} {X : Cx} {a b c : Expr} {es : List Expr} {f g k : DE} {ft gt : DT} {r r' : D2} {pos : Pos}
theorem RV.bl_inv {io : List Addr} {H : Hp} {b : Bool} {x : V} (h : RV W io H (.bl b) x) : x = .bl b := by
  cases h
  rfl
theorem RV.int_inv {io : List Addr} {H : Hp} {b : Int} {x : V} (h : RV W io H (.int b) x) : x = .int b := by
  cases h
  rfl
theorem RV.str_inv {io : List Addr} {H : Hp} {b : Str} {x : V} (h : RV W io H (.str b) x) : x = .str b := by
  cases h
  rfl
theorem tst_in {σ : L2.St} {H : Hp} {Q : Bool → Hp → Prop} (h : tDT W M E (dTst f) σ H Q) : tB (tD W M E f) σ H Q := by
  obtain ⟨io, hp, as, rl, S, P⟩ := h
  refine (step (rh := RV W) (f := f) rl S P).imp fun x H1 ⟨io2, hp2, a, e2, rl2, ra, P2⟩ => ?_
  cases a with
  | bl b =>
    obtain rfl := ra.bl_inv
    exact ⟨b, rfl, P2.ok rl2 rfl⟩
  | _ => exact P2.elim
theorem tstD (h : PE X a (tD W M E f)) (he : ∀ whole, isTrue a X.env whole = (do let v ← whole; standAt a.pos; holding [v] (truthy v)) := by intro _; rfl) : PT X a (tDT W M E (dTst f)) := ptI (pt_val h he) fun _ _ _ q => tst_in q
theorem or_in {σ : L2.St} {H : Hp} {Q : Bool → Hp → Prop} (h : tDT W M E (dOr ft gt) σ H Q) : tOr (tDT W M E ft) (tDT W M E gt) σ H Q := by
  obtain ⟨io, hp, as, rl, S, P⟩ := h
  refine (step (rh := fun _ _ b c => b = c) (f := ft) rl S P).imp fun x H1 ⟨io2, hp2, a, e2, rl2, ra, P2⟩ => ?_
  subst ra
  cases a with
  | true => exact iteT (P2.ok rl2 rfl)
  | false => exact iteF ⟨io2, hp2, as, rl2, M.mono e2 S, P2⟩
theorem not_in {σ : L2.St} {H : Hp} {Q : Bool → Hp → Prop} (h : tDT W M E (dNot ft) σ H Q) : tNot (tDT W M E ft) σ H Q := by
  obtain ⟨io, hp, as, rl, S, P⟩ := h
  refine (step (rh := fun _ _ b c => b = c) (f := ft) rl S P).imp fun x H1 ⟨io2, hp2, a, e2, rl2, ra, P2⟩ => ?_
  subst ra
  exact P2.ok rl2 rfl
theorem or1D (ha : PT X a (tDT W M E ft)) : PW X (.BoolOp .Or [a] pos) (tDT W M E ft) := pw_or1 ha
theorem pwI {e : Expr} {t t' : TT} (h : PW X e t) (i : ∀ σ H Q, t' σ H Q → t σ H Q) : PW X e t' := ⟨fun wh pins s σ H Q I q => h.run wh pins s σ H Q I (i σ H Q q)⟩
theorem orD (ha : PT X a (tDT W M E ft)) (hb : PW X (.BoolOp .Or (b :: es) pos) (tDT W M E gt)) : PW X (.BoolOp .Or (a :: b :: es) pos) (tDT W M E (dOr ft gt)) := pwI (pw_or ha hb) fun _ _ _ h => or_in h
theorem notD (ha : PT X a (tDT W M E ft)) : PT X (.UnaryOp .Not a pos) (tDT W M E (dNot ft)) := ptI (pt_not ha) fun _ _ _ h => not_in h
theorem cmT {op : CmpOp} (ho : OpR X (compareOp op) (t2 W r)) (ha : PE X a (tD W M E f)) (hb : PE X b (tD W M E g)) (hm : behindInMarks op b = false) : PT X (.Compare a [op] [b] pos) (tDT W M E (dTst (dOp r f g))) :=
  ptI (pt_cmpR ho ha hb hm) fun σ H Q h => by
    obtain ⟨io, hp, as, rl, S, P⟩ := h
    refine op_in (M := M) (E := E) ?_
    exact (tst_in (f := dOp r f g) ⟨io, hp, as, rl, S, P⟩ : tB (tD W M E (dOp r f g)) σ H Q)
end

def dSkip : DS := fun s h => .nx s h
def dSeq (f g : DS) : DS := fun s h => (f s h).then g
def dDrop (f : DE) : DS := fun s h => (f s h).st s fun _ h1 => .nx s h1
def dRet (f : DE) : DS := fun s h => (f s h).st s fun v h1 => .rt v h1
def dSet (i : Nat) (f : DE) : DS := fun s h => (f s h).st s fun v h1 => .nx (s.set i (some v)) h1
def dIfS (c : DT) (f g : DS) : DS := fun s h => (c s h).st s fun b h1 => match b with
  | true => f s h1
  | false => g s h1
section
variable {W : Wd} {M : Md W} {E : WX} {X : Cx} {a b c : Expr} {st : Stmt} {sts sts' : List Stmt} {f g k : DE} {ft gt : DT} {fs gs : DS} {pos : Pos}
theorem skip_in {D : Ends} {σ : L2.St} {H : Hp} (h : tS W M E dSkip D σ H) : tNext D σ H := by
  obtain ⟨io, hp, as, rl, S, P⟩ := h
  exact P io H σ Ext.refl rl S
theorem seq_in {D : Ends} {σ : L2.St} {H : Hp} (h : tS W M E (dSeq fs gs) D σ H) : tSeq (tS W M E fs) (tS W M E gs) D σ H := by
  obtain ⟨io, hp, as, rl, S, P⟩ := h
  refine ⟨io, hp, as, rl, S, ?_⟩
  have P' : Pss W M E D io H ((fs as hp).then gs) := P
  cases z : fs as hp with
  | nx s h =>
    rw [z] at P'
    exact fun io' H' σ' e rl' S' => ⟨io', h, s, rl', S', Pss.later P' e⟩
  | rt s h =>
    rw [z] at P'
    exact P'
  | bk s h =>
    rw [z] at P'
    exact P'
  | ct s h =>
    rw [z] at P'
    exact P'
  | exc t fs s h =>
    rw [z] at P'
    exact P'
  | stuck =>
    rw [z] at P'
    exact P'
theorem ss0 : PSs X [] (tS W M E dSkip) := pssI pss_nil fun _ _ _ h => skip_in h
theorem ssC (h1 : PS X st (tS W M E fs)) (h2 : PSs X sts (tS W M E gs)) : PSs X (st :: sts) (tS W M E (dSeq fs gs)) := pssI (pss_cons h1 h2) fun _ _ _ h => seq_in h
theorem ss1 (h1 : PS X st (tS W M E fs)) : PSs X [st] (tS W M E fs) := pss_one h1
theorem sExpr (he : PE X a (tD W M E f)) (hs : swapsWith a none pos.line X.env = pure false := by rfl) : PS X (.Expr a pos) (tS W M E (dDrop f)) := psI (ps_expr he hs) fun D σ H h => by
  obtain ⟨io, hp, as, rl, S, P⟩ := h
  exact (stepS (rh := RV W) (f := f) rl S P).imp fun x H1 ⟨io2, hp2, a, e2, rl2, ra, P2⟩ => P2 io2 H1 σ Ext.refl rl2 (M.mono e2 S)
theorem sRet (he : PE X a (tD W M E f)) : PS X (.Return (some a) pos) (tS W M E (dRet f)) := psI (ps_ret he) fun D σ H h => by
  obtain ⟨io, hp, as, rl, S, P⟩ := h
  exact (stepS (rh := RV W) (f := f) rl S P).imp fun x H1 ⟨io2, hp2, a, e2, rl2, ra, P2⟩ => P2 io2 H1 x Ext.refl rl2 ra
theorem sSet {i : Nat} {x : Str} {pos' : Pos} (hN : X.N.Nodup) (hi : X.N[i]? = some x) (hx : Loc X.env.scope x) (he : PE X a (tD W M E f)) (ho : M.ok i) (hs : swapsWith a (some (.Name x pos')) pos.line X.env = pure false := by rfl)
    (hf : X.fn x = true ∨ X.env.scope.names.lookup x = some .local := by first | exact .inl rfl | exact .inr rfl | assumption) : PS X (.Assign [.Name x pos'] a pos) (tS W M E (dSet i f)) := psI (ps_set hN hi hx he hs hf) fun D σ H h => by
  obtain ⟨io, hp, as, rl, S, P⟩ := h
  exact (stepS (rh := RV W) (f := f) rl S P).imp fun x H1 ⟨io2, hp2, a, e2, rl2, ra, P2⟩ => P2 io2 H1 _ Ext.refl rl2 (M.set (M.mono e2 S) ra ho)
theorem sIf (hc : PT X c (tDT W M E ft)) (ha : PSs X sts (tS W M E fs)) (hb : PSs X sts' (tS W M E gs)) : PS X (.If c sts sts' pos) (tS W M E (dIfS ft fs gs)) := psI (ps_if hc ha hb) fun D σ H h => by
  obtain ⟨io, hp, as, rl, S, P⟩ := h
  refine (stepS (rh := fun _ _ b c => b = c) (f := ft) rl S P).imp fun x H1 ⟨io2, hp2, a, e2, rl2, ra, P2⟩ => ?_
  subst ra
  cases a with
  | true => exact iteT ⟨io2, hp2, as, rl2, M.mono e2 S, P2⟩
  | false => exact iteF ⟨io2, hp2, as, rl2, M.mono e2 S, P2⟩
end
end Dn
namespace L2
open PySem PySem.Spec PyProof.Rows
theorem tuple_mul1 (l : Addr) (items : Array Value) (n : Nat) (dd : Option Addr) (sl : Array (Option Value)) (u : Tok) :
    Meets (Builtin.«tuple.__mul__» ⟨[.ref l, .int 1 u], []⟩) (fun _ R s => s.heap.get? l = some { cls := .type "tuple", dict := dd, data := .seq items n, slots := sl } ∧ R (.ok (.ret (Value.ref l))) s) :=
  .of_wp fun prog w A R s h => by
    obtain ⟨hp, g, d, tk, os⟩ := s
    obtain ⟨hl, h⟩ := h
    have f1 := AutoSeq1.idx_int
    wp_walk using wpAny_loadPart' hl
    exact ⟨_, rfl, h⟩
theorem tuple_mul0 (l : Addr) (items : Array Value) (n : Nat) (dd : Option Addr) (sl : Array (Option Value)) (u : Tok) (c1 : items.isEmpty = false) :
    Meets (Builtin.«tuple.__mul__» ⟨[.ref l, .int 0 u], []⟩) (fun _ R s => s.heap.get? l = some { cls := .type "tuple", dict := dd, data := .seq items n, slots := sl } ∧
      R (.ok (.ret (Value.ref s.heap.objs.size))) { s with heap := s.heap.push { cls := Value.type "tuple", data := Data.seq #[] }, toks := s.toks }) :=
  .of_wp fun prog w A R s h => by
    obtain ⟨hp, g, d, tk, os⟩ := s
    obtain ⟨hl, h⟩ := h
    have f1 := AutoSeq1.idx_int
    wp_walk using wpAny_loadPart' hl
    exact ⟨_, rfl, h⟩
def rRepT1 (K : PySem.W.Frag) : R2 := fun x y H Q => ∃ l xs, x = .ref l ∧ y = .int 1 ∧ SqT K H l xs ∧ Q (.ref l) H
def rRepT0 (K : PySem.W.Frag) : R2 := fun x y H Q => ∃ l xs, x = .ref l ∧ y = .int 0 ∧ SqT K H l xs ∧ xs ≠ [] ∧ ∀ p, H p = none → Q (.ref p) (upd H p (.tup []))
section
variable {X : Cx}
theorem op_repT1 : OpR X (binaryOp .Mult) (rRepT1 X.K) := by
  intro pins s σ H x y v u Q I rx ry h
  obtain ⟨l, xs, rfl, rfl, hT, q⟩ := h
  cases rx
  obtain ⟨t, rfl⟩ := ry
  obtain ⟨its, r, ⟨⟨cls, dd, data, sl⟩, ho, hc, n, hd⟩, hs⟩ := I.tuple hT
  simp only at hc hd
  subst hc hd
  refine wpAny_binaryOp_repeat_ref (T := "tuple") (U := "int") (by decide) ⟨_, ho, rfl⟩ (fun s' => typeIs_int s' 1 t) noFill_tuple_mul F.fills_int_mul F.slot_int_rmul repeat_tuple F.slot_int_index.lookup
    (call_meets F.slot_int_rmul (typeIs_int s 1 t) F.entry_int_rmul (F.args_int_rmul_2 _ _) (int_rmul_tuple 1 t l its.toArray n dd sl)
      ⟨ho, rfl, ⟨_, ho, rfl⟩, call_meets F.slot_tuple_mul ⟨_, ho, rfl⟩ F.entry_tuple_mul (F.args_tuple_mul_2 _ _) (tuple_mul1 l its.toArray n dd sl t) ⟨ho, ?_⟩⟩)
  exact ⟨.ref l, H, I, rfl, q⟩
theorem op_repT0 : OpR X (binaryOp .Mult) (rRepT0 X.K) := by
  intro pins s σ H x y v u Q I rx ry h
  obtain ⟨l, xs, rfl, rfl, hT, hne, q⟩ := h
  cases rx
  obtain ⟨t, rfl⟩ := ry
  obtain ⟨its, r, ⟨⟨cls, dd, data, sl⟩, ho, hc, n, hd⟩, hs⟩ := I.tuple hT
  simp only at hc hd
  subst hc hd
  have hle : its.length = xs.length := r.length.symm
  have hi : its.toArray.isEmpty = false := by
    cases its with
    | nil => exact absurd (List.eq_nil_of_length_eq_zero hle.symm) hne
    | cons a b => rfl
  refine wpAny_binaryOp_repeat_ref (T := "tuple") (U := "int") (by decide) ⟨_, ho, rfl⟩ (fun s' => typeIs_int s' 0 t) noFill_tuple_mul F.fills_int_mul F.slot_int_rmul repeat_tuple F.slot_int_index.lookup
    (call_meets F.slot_int_rmul (typeIs_int s 0 t) F.entry_int_rmul (F.args_int_rmul_2 _ _) (int_rmul_tuple 0 t l its.toArray n dd sl)
      ⟨ho, rfl, ⟨_, ho, rfl⟩, call_meets F.slot_tuple_mul ⟨_, ho, rfl⟩ F.entry_tuple_mul (F.args_tuple_mul_2 _ _) (tuple_mul0 l its.toArray n dd sl t hi) ⟨ho, ?_⟩⟩)
  refine ⟨.ref s.heap.objs.size, _, I.laid (t' := s.toks) (o := .tup []) (fun b ob q => Heap.get?_push_of_some _ q) (Nat.le_refl _) ?_, rfl, q _ (I.hok.fresh (Nat.le_refl _))⟩
  exact ⟨by decide, [], .nil, IsTup.new _ _⟩
end
end L2
namespace Dn
open PySem PySem.Spec PyProof.Rows L2

/-- the longest list, the longest text -/
abbrev SZ : Nat := 1000000
theorem szL {n : Nat} (h : n ≤ SZ) : n ≤ sizeLine := by
  rw [sizeLine_eq]
  exact Nat.le_trans h (by decide)
theorem szT {n : Nat} (h : n < SZ) : n < sizeLine := by
  rw [sizeLine_eq]
  exact Nat.lt_of_lt_of_le h (by decide)

def mkL (xs : List AV) (h : Hep) : Op AV := if xs.length ≤ SZ then some (.ref h.length, h ++ [AO.lst xs]) else none
def mkT (xs : List AV) (h : Hep) : Op AV := if xs.length ≤ SZ then some (.tup xs, h) else none
/-- a list that may be read -/
def lstOf (h : Hep) : AV → Option (List AV)
  | .ref n => match h[n]? with
    | some (.lst xs) => some xs
    | _ => none
  | .rol xs => some xs
  | _ => none
def tupOf : AV → Option (List AV)
  | .tup xs => some xs
  | _ => none
def seqOf (h : Hep) (a : AV) : Option (List AV) := match tupOf a with
  | some xs => some xs
  | none => lstOf h a

section
variable {W : Wd} {io : List Addr} {H : Hp} {hp : Hep}
theorem Rl.atLen (R : Rl W io hp H) (p : Addr) : (io ++ [p])[hp.length]? = some p := by
  rw [List.getElem?_append_right (by rw [R.len]; exact Nat.le_refl _), R.len]
  simp
theorem mkL_in {Q : VK} {xs : List AV} {vs : List V} (P : Pop W (RV W) Q io H (mkL xs hp)) (R : Rl W io hp H) (r : RVs W io H xs vs) : vs.length ≤ sizeLine ∧ ∀ p, H p = none → Q (.ref p) (upd H p (.lst vs)) := by
  unfold mkL at P
  by_cases h : xs.length ≤ SZ
  · rw [if_pos h] at P
    refine ⟨by rw [← r.len]; exact szL h, fun p hn => ?_⟩
    have e := Ext.new (W := W) io (.lst vs) hn [p]
    exact P _ _ _ e (R.new hn (.lst (r.mono e))) (.ref (R.atLen p))
  · rw [if_neg h] at P
    exact P.elim
theorem mkT_in {Q : VK} {xs : List AV} {vs : List V} (P : Pop W (RV W) Q io H (mkT xs hp)) (R : Rl W io hp H) (r : RVs W io H xs vs) :
    vs.length ≤ sizeLine ∧ (∀ p, H p = none → Q (.ref p) (upd H p (.tup vs))) ∧ ∀ a, SqT W.K H a vs → Q (.ref a) H := by
  unfold mkT at P
  by_cases h : xs.length ≤ SZ
  · rw [if_pos h] at P
    refine ⟨by rw [← r.len]; exact szL h, fun p hn => ?_, fun a ha => ?_⟩
    · have e : Ext W io H io (upd H p (.tup vs)) := Ext.new0 hn
      exact P _ _ _ e (R.other hn) (.tup (SqT.of upd_same) (r.mono e))
    · exact P _ _ _ Ext.refl R (.tup ha r)
  · rw [if_neg h] at P
    exact P.elim
theorem roL_sq {K : PySem.W.Frag} {a : Addr} {vs : List V} (h : RoL K H a vs) : SqL K H a vs := by
  rcases h with ⟨o, h⟩ | (h | h)
  · exact .inl (.inr ⟨o, h⟩)
  · rcases h with h | ⟨o, h⟩
    · cases h
    · cases h
  · exact .inr h
theorem lstOf_in {a : AV} {v : V} {xs : List AV} (e : lstOf hp a = some xs) (R : Rl W io hp H) (r : RV W io H a v) : ∃ p vs, v = .ref p ∧ SqL W.K H p vs ∧ RVs W io H xs vs := by
  cases r with
  | ref h =>
    rename_i n p
    unfold lstOf at e
    cases z : hp[n]? with
    | none =>
      simp only [z] at e
      cases e
    | some o =>
      simp only [z] at e
      cases o with
      | lst ys =>
        cases e
        obtain ⟨vs, e1, r1⟩ := R.lst h z
        exact ⟨p, vs, rfl, SqL.of e1, r1⟩
      | _ => cases e
  | rol h q =>
    cases e
    exact ⟨_, _, rfl, roL_sq h, q⟩
  | _ => cases e
theorem tupOf_in {a : AV} {v : V} {xs : List AV} (e : tupOf a = some xs) (r : RV W io H a v) : ∃ p vs, v = .ref p ∧ SqT W.K H p vs ∧ RVs W io H xs vs := by
  cases r with
  | tup h q =>
    cases e
    exact ⟨_, _, rfl, h, q⟩
  | _ => cases e
theorem seqOf_in {a : AV} {v : V} {xs : List AV} (e : seqOf hp a = some xs) (R : Rl W io hp H) (r : RV W io H a v) : ∃ p vs, v = .ref p ∧ (SqL W.K H p vs ∨ SqT W.K H p vs) ∧ RVs W io H xs vs := by
  unfold seqOf at e
  cases z : tupOf a with
  | some ys =>
    rw [z] at e
    cases e
    obtain ⟨p, vs, a1, a2, a3⟩ := tupOf_in z r
    exact ⟨p, vs, a1, .inr a2, a3⟩
  | none =>
    rw [z] at e
    obtain ⟨p, vs, a1, a2, a3⟩ := lstOf_in e R r
    exact ⟨p, vs, a1, .inl a2, a3⟩
end

def mulOk (i j : Int) : Bool := decide (-(2 ^ 64) < i ∧ i < 2 ^ 64) || (decide (-(2 ^ 64) < j ∧ j < 2 ^ 64) || decide (i.natAbs < 2 ^ 1000 ∧ j.natAbs < 2 ^ 1000))
def addAV : D2 := fun a b h => match a, b with
  | .int i, .int j => some (.int (i + j), h)
  | .str x, .str y => if x.length + y.length ≤ SZ then some (.str (x ++ y), h) else none
  | .tup xs, .tup ys => mkT (xs ++ ys) h
  | .ref m, .ref n => (match h[m]?, h[n]? with
    | some (.lst xs), some (.lst ys) => mkL (xs ++ ys) h
    | _, _ => none)
  | _, _ => none
def mulAV : D2 := fun a b h => match a, b with
  | .int i, .int j => if mulOk i j = true then some (.int (i * j), h) else none
  | .ref m, .int k => (match h[m]? with
    | some (.lst xs) => if -(2 ^ 63) ≤ k ∧ k < 2 ^ 63 then mkL (List.replicate k.toNat xs).flatten h else none
    | _ => none)
  | .tup xs, .int k => if xs ≠ [] ∧ xs.length ≤ 1000 ∧ 0 ≤ k ∧ k ≤ 1000 then mkT (List.replicate k.toNat xs).flatten h else none
  | _, _ => none
def fdivAV : D2 := fun a b h => match a, b with
  | .int i, .int j => if 0 < j ∧ j < 1073741824 then some (.int (i / j), h) else none
  | _, _ => none
def modAV : D2 := fun a b h => match a, b with
  | .int i, .int j => if 0 < j then some (.int (i % j), h) else none
  | _, _ => none
def powAV : D2 := fun a b h => match a, b with
  | .int i, .int j => if 0 ≤ j ∧ j ≤ 100 ∧ i.natAbs < 2 ^ 1000 then some (.int (i ^ j.toNat), h) else none
  | _, _ => none
def negAV : D1 := fun a h => match a with
  | .int i => some (.int (-i), h)
  | _ => none

section
variable {W : Wd} {X : Cx}
theorem oAdd (hK : X.K = W.K) : OpR X (binaryOp .Add) (t2 W addAV) := op_imp (((op_add.or op_add_str).or op_cat).or op_catA) fun x y H Q ⟨io, hp, a, b, rl, ra, rb, P⟩ => by
  rw [hK]
  cases a with
  | int i =>
    cases b with
    | int j =>
      obtain rfl := ra.int_inv
      obtain rfl := rb.int_inv
      exact .inl (.inl (.inl ⟨i, j, rfl, rfl, P.ok rl (.int _)⟩))
    | _ => exact P.elim
  | str i =>
    cases b with
    | str j =>
      obtain rfl := ra.str_inv
      obtain rfl := rb.str_inv
      have P' : Pop W (RV W) Q io H (if i.length + j.length ≤ SZ then some (.str (i ++ j), hp) else none) := P
      by_cases h : i.length + j.length ≤ SZ
      · rw [if_pos h] at P'
        exact .inl (.inl (.inr ⟨i, j, rfl, rfl, szL h, P'.ok rl (.str _)⟩))
      · rw [if_neg h] at P'
        exact P'.elim
    | _ => exact P.elim
  | tup xs =>
    cases b with
    | tup ys =>
      obtain ⟨p, vs, rfl, h1, r1⟩ := tupOf_in (xs := xs) rfl ra
      obtain ⟨q, ws, rfl, h2, r2⟩ := tupOf_in (xs := ys) rfl rb
      obtain ⟨z, k1, k2⟩ := mkT_in P rl (r1.app r2)
      refine .inr ⟨p, q, vs, ws, rfl, rfl, h1, h2, by simpa using z, fun e => ?_, fun _ e => ?_, fun _ _ => k1⟩
      · subst e
        exact k2 q (by simpa using h2)
      · subst e
        exact k2 p (by simpa using h1)
    | _ => exact P.elim
  | ref m =>
    cases b with
    | ref n =>
      have P' : Pop W (RV W) Q io H (match hp[m]?, hp[n]? with
        | some (.lst xs), some (.lst ys) => mkL (xs ++ ys) hp
        | _, _ => none) := P
      cases z1 : hp[m]? with
      | none =>
        rw [z1] at P'
        exact P'.elim
      | some o1 =>
        cases o1 with
        | lst xs =>
          cases z2 : hp[n]? with
          | none =>
            rw [z1, z2] at P'
            exact P'.elim
          | some o2 =>
            cases o2 with
            | lst ys =>
              rw [z1, z2] at P'
              cases ra with
              | ref e1 =>
                cases rb with
                | ref e2 =>
                  obtain ⟨vs, a1, r1⟩ := rl.lst e1 z1
                  obtain ⟨ws, a2, r2⟩ := rl.lst e2 z2
                  obtain ⟨z, k1⟩ := mkL_in P' rl (r1.app r2)
                  exact .inl (.inr ⟨_, _, vs, ws, rfl, rfl, a1, a2, by simpa using z, k1⟩)
            | _ =>
              rw [z1, z2] at P'
              exact P'.elim
        | _ =>
          rw [z1] at P'
          exact P'.elim
    | _ => exact P.elim
  | _ => exact P.elim
theorem mulOk_ok {i j : Int} (h : mulOk i j = true) : IntMulOk i j := by
  unfold mulOk at h
  simp only [Bool.or_eq_true, decide_eq_true_eq] at h
  rcases h with h | h | h
  · exact CMul.ok (.inl h)
  · exact CMul.ok (.inr h)
  · exact CMulW.ok (wide_mul h.1 h.2 (by decide) (by decide) (by decide))
theorem op_mulA : OpR X (binaryOp .Mult) (rI (fun i j => mulOk i j = true) fun i j => .int (i * j)) := opI fun _ _ _ _ _ _ _ hc q => mul_int q (mulOk_ok hc)
theorem oMul (hK : X.K = W.K) : OpR X (binaryOp .Mult) (t2 W mulAV) := op_imp ((op_mulA.or op_rep).or ((op_repT.or op_repT1).or op_repT0)) fun x y H Q ⟨io, hp, a, b, rl, ra, rb, P⟩ => by
  rw [hK]
  cases a with
  | int i =>
    cases b with
    | int j =>
      obtain rfl := ra.int_inv
      obtain rfl := rb.int_inv
      have P' : Pop W (RV W) Q io H (if mulOk i j = true then some (.int (i * j), hp) else none) := P
      by_cases h : mulOk i j = true
      · rw [if_pos h] at P'
        exact .inl (.inl ⟨i, j, rfl, rfl, h, P'.ok rl (.int _)⟩)
      · rw [if_neg h] at P'
        exact P'.elim
    | _ => exact P.elim
  | ref m =>
    cases b with
    | int k =>
      obtain rfl := rb.int_inv
      have P' : Pop W (RV W) Q io H (match hp[m]? with
        | some (.lst xs) => if -(2 ^ 63) ≤ k ∧ k < 2 ^ 63 then mkL (List.replicate k.toNat xs).flatten hp else none
        | _ => none) := P
      cases z1 : hp[m]? with
      | none =>
        rw [z1] at P'
        exact P'.elim
      | some o1 =>
        rw [z1] at P'
        cases o1 with
        | lst xs =>
          have P2 : Pop W (RV W) Q io H (if -(2 ^ 63) ≤ k ∧ k < 2 ^ 63 then mkL (List.replicate k.toNat xs).flatten hp else none) := P'
          by_cases h : -(2 ^ 63) ≤ k ∧ k < 2 ^ 63
          · rw [if_pos h] at P2
            cases ra with
            | ref e1 =>
              obtain ⟨vs, a1, r1⟩ := rl.lst e1 z1
              obtain ⟨z, k1⟩ := mkL_in P2 rl (r1.rep k.toNat)
              refine .inl (.inr ⟨_, k, vs, rfl, rfl, a1, h.1, h.2, ?_, k1⟩)
              simpa [Nat.mul_comm] using z
          · rw [if_neg h] at P2
            exact P2.elim
        | _ => exact P'.elim
    | _ => exact P.elim
  | tup xs =>
    cases b with
    | int k =>
      obtain rfl := rb.int_inv
      have P' : Pop W (RV W) Q io H (if xs ≠ [] ∧ xs.length ≤ 1000 ∧ 0 ≤ k ∧ k ≤ 1000 then mkT (List.replicate k.toNat xs).flatten hp else none) := P
      by_cases h : xs ≠ [] ∧ xs.length ≤ 1000 ∧ 0 ≤ k ∧ k ≤ 1000
      · rw [if_pos h] at P'
        obtain ⟨p, vs, rfl, h1, r1⟩ := tupOf_in (xs := xs) rfl ra
        obtain ⟨z, k1, k2⟩ := mkT_in P' rl (r1.rep k.toNat)
        have hl : vs.length = xs.length := r1.len.symm
        have hne : vs ≠ [] := fun e => h.1 (List.eq_nil_of_length_eq_zero (by rw [← hl, e]; rfl))
        by_cases h2 : 2 ≤ k
        · exact .inr (.inl (.inl ⟨p, k, vs, rfl, rfl, h1, hne, h2, h.2.2.2, by rw [hl]; exact h.2.1, k1⟩))
        · by_cases h3 : k = 1
          · subst h3
            exact .inr (.inl (.inr ⟨p, vs, rfl, rfl, h1, k2 p (by simpa using h1)⟩))
          · have h4 : k = 0 := by omega
            subst h4
            exact .inr (.inr ⟨p, vs, rfl, rfl, h1, hne, k1⟩)
      · rw [if_neg h] at P'
        exact P'.elim
    | _ => exact P.elim
  | _ => exact P.elim
theorem oFdiv : OpR X (binaryOp .FloorDiv) (t2 W fdivAV) := op_imp op_fdiv fun x y H Q ⟨io, hp, a, b, rl, ra, rb, P⟩ => by
  cases a with
  | int i =>
    cases b with
    | int j =>
      obtain rfl := ra.int_inv
      obtain rfl := rb.int_inv
      have P' : Pop W (RV W) Q io H (if 0 < j ∧ j < 1073741824 then some (.int (i / j), hp) else none) := P
      by_cases h : 0 < j ∧ j < 1073741824
      · rw [if_pos h] at P'
        exact ⟨i, j, rfl, rfl, h, P'.ok rl (.int _)⟩
      · rw [if_neg h] at P'
        exact P'.elim
    | _ => exact P.elim
  | _ => exact P.elim
theorem oMod : OpR X (binaryOp .Mod) (t2 W modAV) := op_imp op_mod fun x y H Q ⟨io, hp, a, b, rl, ra, rb, P⟩ => by
  cases a with
  | int i =>
    cases b with
    | int j =>
      obtain rfl := ra.int_inv
      obtain rfl := rb.int_inv
      have P' : Pop W (RV W) Q io H (if 0 < j then some (.int (i % j), hp) else none) := P
      by_cases h : 0 < j
      · rw [if_pos h] at P'
        exact ⟨i, j, rfl, rfl, h, P'.ok rl (.int _)⟩
      · rw [if_neg h] at P'
        exact P'.elim
    | _ => exact P.elim
  | _ => exact P.elim
theorem op_powA : OpR X (binaryOp .Pow) (rI (fun i j => 0 ≤ j ∧ j ≤ 100 ∧ i.natAbs < 2 ^ 1000) fun i j => .int (i ^ j.toNat)) := opI fun i j _ _ _ _ _ hc q => pow_int hc.1 (by
  have hb : Builtin.Int.intBits i ≤ 1000 := by
    unfold Builtin.Int.intBits
    split
    · omega
    · have := PySem.Flt.log2_lt_of (k := 1000) (by decide) hc.2.2
      omega
  have h2 := hc.2.1
  have h0 := hc.1
  have : (Builtin.Int.intBits i : Int) * j ≤ 1000 * 100 := Int.mul_le_mul (by omega) h2 h0 (by decide)
  exact Int.le_trans this (by decide)) q
theorem oPow : OpR X (binaryOp .Pow) (t2 W powAV) := op_imp op_powA fun x y H Q ⟨io, hp, a, b, rl, ra, rb, P⟩ => by
  cases a with
  | int i =>
    cases b with
    | int j =>
      obtain rfl := ra.int_inv
      obtain rfl := rb.int_inv
      have P' : Pop W (RV W) Q io H (if 0 ≤ j ∧ j ≤ 100 ∧ i.natAbs < 2 ^ 1000 then some (.int (i ^ j.toNat), hp) else none) := P
      by_cases h : 0 ≤ j ∧ j ≤ 100 ∧ i.natAbs < 2 ^ 1000
      · rw [if_pos h] at P'
        exact ⟨i, j, rfl, rfl, h, P'.ok rl (.int _)⟩
      · rw [if_neg h] at P'
        exact P'.elim
    | _ => exact P.elim
  | _ => exact P.elim
theorem uNeg : UnR X (unaryOp .USub) (t1 W negAV) := fun pins s σ H x v Q I rx ⟨io, hp, a, rl, ra, P⟩ => by
  cases a with
  | int i =>
    obtain rfl := ra.int_inv
    exact un_neg pins s σ H _ v Q I rx ⟨i, rfl, P.ok rl (.int _)⟩
  | _ => exact P.elim
end

section
variable {W : Wd} {io : List Addr} {H : Hp} {hp : Hep}
theorem mapM_cons_some {A B : Type} {f : A → Option B} {x : A} {xs : List A} {ds : List B} (h : (x :: xs).mapM f = some ds) : ∃ d r, f x = some d ∧ xs.mapM f = some r ∧ ds = d :: r := by
  rw [List.mapM_cons] at h
  cases e : f x with
  | none =>
    rw [e] at h
    cases h
  | some d =>
    rw [e] at h
    cases e2 : xs.mapM f with
    | none =>
      rw [e2] at h
      cases h
    | some r =>
      rw [e2] at h
      cases h
      exact ⟨d, r, rfl, rfl, rfl⟩
theorem toD_list (n : Nat) (ih : ∀ (a : AV) (v : V) (d : PyData), toD n hp a = some d → RV W io H a v → Dp W.K H v d) : ∀ (xs : List AV) (vs : List V) (ds : List PyData), xs.mapM (toD n hp) = some ds → RVs W io H xs vs → DpAll W.K H vs ds
  | [], _, ds, h, .nil => by
    cases h
    exact .nil
  | x :: xs, _, ds, h, .cons r q => by
    obtain ⟨d, rr, h1, h2, rfl⟩ := mapM_cons_some h
    exact .cons (ih x _ d h1 r) (toD_list n ih xs _ rr h2 q)
theorem toD_in (R : Rl W io hp H) : ∀ (n : Nat) (a : AV) (v : V) (d : PyData), toD n hp a = some d → RV W io H a v → Dp W.K H v d
  | 0, _, _, _, h, _ => by cases h
  | n + 1, a, v, d, h, r => by
    have ih := toD_in R n
    cases r with
    | non =>
      cases h
      exact .non
    | bl b =>
      cases h
      exact .bl b
    | int i =>
      cases h
      exact .int i
    | str x =>
      cases h
      exact .str x
    | tup s q =>
      rename_i xs
      have h' : (xs.mapM (toD n hp)).map .tuple = some d := h
      obtain ⟨ds, h1, rfl⟩ := Option.map_eq_some_iff.mp h'
      exact .tup s (toD_list n ih _ _ ds h1 q)
    | rol s q =>
      rename_i xs
      have h' : (xs.mapM (toD n hp)).map .list = some d := h
      obtain ⟨ds, h1, rfl⟩ := Option.map_eq_some_iff.mp h'
      exact .lst (roL_sq s) (toD_list n ih _ _ ds h1 q)
    | ref e =>
      rename_i k p
      have h' : (match hp[k]? with
        | some (.lst xs) => (xs.mapM (toD n hp)).map .list
        | _ => none) = some d := h
      cases z : hp[k]? with
      | none =>
        rw [z] at h'
        cases h'
      | some o =>
        rw [z] at h'
        cases o with
        | lst xs =>
          have h2 : (xs.mapM (toD n hp)).map .list = some d := h'
          obtain ⟨ds, h1, rfl⟩ := Option.map_eq_some_iff.mp h2
          obtain ⟨vs, e1, r1⟩ := R.lst e z
          exact .lst (SqL.of e1) (toD_list n ih _ _ ds h1 r1)
        | _ => cases h'
    | adr a => cases h
    | exi _ => cases h
    | ty a => cases h
    | cls a => cases h
end
/-- the depth of data -/
abbrev DD : Nat := 50
def eqD (a b : AV) (h : Hep) : Option Bool := match toD DD h a, toD DD h b with
  | some d, some e => if SeqAt.shaped d = true ∧ SeqAt.shaped e = true then some (PyData.eqv d e) else none
  | _, _ => none
def eqAV : D2 := fun a b h => (eqD a b h).map fun c => (.bl c, h)
def neAV : D2 := fun a b h => (eqD a b h).map fun c => (.bl (!c), h)
section
variable {W : Wd} {X : Cx}
theorem eqD_in {io : List Addr} {H : Hp} {hp : Hep} {a b : AV} {x y : V} {c : Bool} (e : eqD a b hp = some c) (R : Rl W io hp H) (ra : RV W io H a x) (rb : RV W io H b y) :
    ∃ d f, Dp W.K H x d ∧ Dp W.K H y f ∧ SeqAt.shaped d = true ∧ SeqAt.shaped f = true ∧ c = PyData.eqv d f := by
  unfold eqD at e
  cases z1 : toD DD hp a with
  | none =>
    rw [z1] at e
    cases e
  | some d =>
    cases z2 : toD DD hp b with
    | none =>
      rw [z1, z2] at e
      cases e
    | some f =>
      rw [z1, z2] at e
      have e' : (if SeqAt.shaped d = true ∧ SeqAt.shaped f = true then some (PyData.eqv d f) else none) = some c := e
      by_cases h : SeqAt.shaped d = true ∧ SeqAt.shaped f = true
      · rw [if_pos h] at e'
        cases e'
        exact ⟨d, f, toD_in R DD a x d z1 ra, toD_in R DD b y f z2 rb, h.1, h.2, rfl⟩
      · rw [if_neg h] at e'
        cases e'
theorem oEq (hK : X.K = W.K) (hu : X.A.units + 64 < cLine) : OpR X (compareOp .Eq) (t2 W eqAV) := op_imp (op_eqD hu) fun x y H Q ⟨io, hp, a, b, rl, ra, rb, P⟩ => by
  rw [hK]
  unfold eqAV at P
  cases z : eqD a b hp with
  | none =>
    rw [z] at P
    exact P.elim
  | some c =>
    rw [z] at P
    obtain ⟨d, f, h1, h2, h3, h4, rfl⟩ := eqD_in z rl ra rb
    exact ⟨d, f, h1, h2, h3, h4, Pop.ok P rl (.bl _)⟩
theorem oNe (hK : X.K = W.K) (hu : X.A.units + 64 < cLine) : OpR X (compareOp .NotEq) (t2 W neAV) := op_imp (op_neD hu) fun x y H Q ⟨io, hp, a, b, rl, ra, rb, P⟩ => by
  rw [hK]
  unfold neAV at P
  cases z : eqD a b hp with
  | none =>
    rw [z] at P
    exact P.elim
  | some c =>
    rw [z] at P
    obtain ⟨d, f, h1, h2, h3, h4, rfl⟩ := eqD_in z rl ra rb
    exact ⟨d, f, h1, h2, h3, h4, Pop.ok P rl (.bl _)⟩
end
end Dn
namespace Dn
open PySem PySem.Spec PyProof.Rows L2

section
variable {k : Type} [DecidableEq k]
def dput (kvs : List (k × AV)) (q : k) (v : AV) : List (k × AV) :=
  if (kvs.any fun kv => decide (kv.1 = q)) = true then kvs.map (fun kv => if kv.1 = q then (kv.1, v) else kv) else kvs ++ [(q, v)]
def ddrop (kvs : List (k × AV)) (q : k) : List (k × AV) := kvs.filter fun kv => decide (kv.1 ≠ q)
variable {W : Wd} {io : List Addr} {H : Hp}
theorem RKs.repl : ∀ {xs : List (k × AV)} {vs : List (k × V)} (q : k) {a : AV} {v : V}, RV W io H a v → RKs W io H xs vs →
    RKs W io H (xs.map fun kv => if kv.1 = q then (kv.1, a) else kv) (vs.map fun kv => if kv.1 = q then (kv.1, v) else kv)
  | _, _, _, _, _, _, .nil => .nil
  | (q', x) :: xs, (_, w) :: vs, q, a, v, ra, .cons r t => by
    rw [List.map_cons, List.map_cons]
    by_cases e : q' = q
    · simp only [e, if_true]
      exact .cons ra (RKs.repl q ra t)
    · simp only [e, if_false]
      exact .cons r (RKs.repl q ra t)
theorem RKs.app : ∀ {xs ys : List (k × AV)} {vs ws : List (k × V)}, RKs W io H xs vs → RKs W io H ys ws → RKs W io H (xs ++ ys) (vs ++ ws)
  | _, _, _, _, .nil, q => q
  | _, _, _, _, .cons r t, q => .cons r (RKs.app t q)
theorem RKs.put {xs : List (k × AV)} {vs : List (k × V)} (q : k) {a : AV} {v : V} (ra : RV W io H a v) (r : RKs W io H xs vs) : RKs W io H (dput xs q a) (putK vs q v) := by
  unfold dput putK
  rw [r.any q]
  by_cases e : (vs.any fun kv => decide (kv.1 = q)) = true
  · rw [if_pos e, if_pos e]
    exact r.repl q ra
  · rw [if_neg e, if_neg e]
    exact r.app (.cons ra .nil)
theorem RKs.drop : ∀ {xs : List (k × AV)} {vs : List (k × V)} (q : k), RKs W io H xs vs → RKs W io H (ddrop xs q) (dropK vs q)
  | _, _, _, .nil => .nil
  | (q', x) :: xs, (_, w) :: vs, q, .cons r t => by
    have ih := RKs.drop q t
    unfold ddrop dropK at ih ⊢
    by_cases e : q' = q
    · simp only [List.filter_cons, e, ne_eq, not_true_eq_false, decide_false]
      exact ih
    · simp only [List.filter_cons, ne_eq, e, not_false_eq_true, decide_true, if_true]
      exact .cons r ih
end
def keyOf : AV → Option Key
  | .int i => some (.inl i)
  | .str x => some (.inr x)
  | _ => none
def ofKey : Key → AV
  | .inl i => .int i
  | .inr x => .str x
section
variable {W : Wd} {io : List Addr} {H : Hp}
theorem keyOf_in {a : AV} {v : V} {q : Key} (e : keyOf a = some q) (r : RV W io H a v) : v = kV q := by
  cases r with
  | int i =>
    cases e
    rfl
  | str x =>
    cases e
    rfl
  | _ => cases e
end

def cmpAV (fi : Int → Int → Bool) (fs : List Nat → List Nat → Bool) : D2 := fun a b h => match a, b with
  | .int i, .int j => some (.bl (fi i j), h)
  | .str x, .str y => some (.bl (fs x.cps.toList y.cps.toList), h)
  | _, _ => none
abbrev ltAV : D2 := cmpAV (fun i j => decide (i < j)) (fun x y => decide (x < y))
abbrev gtAV : D2 := cmpAV (fun i j => decide (j < i)) (fun x y => decide (y < x))
abbrev geAV : D2 := cmpAV (fun i j => decide (j ≤ i)) (fun x y => !decide (x < y))
section
variable {W : Wd} {X : Cx}
theorem cmp_in {op : CmpOp} {fi : Int → Int → Bool} {fs : List Nat → List Nat → Bool} (h1 : OpR X (compareOp op) (rI0 fun i j => .bl (fi i j))) (h2 : OpR X (compareOp op) (fun x y H Q => ∃ i j, x = .str i ∧ y = .str j ∧ Q (.bl (fs i.cps.toList j.cps.toList)) H)) :
    OpR X (compareOp op) (t2 W (cmpAV fi fs)) := op_imp (h1.or h2) fun x y H Q ⟨io, hp, a, b, rl, ra, rb, P⟩ => by
  cases a with
  | int i =>
    cases b with
    | int j =>
      obtain rfl := ra.int_inv
      obtain rfl := rb.int_inv
      exact .inl ⟨i, j, rfl, rfl, P.ok rl (.bl _)⟩
    | _ => exact P.elim
  | str i =>
    cases b with
    | str j =>
      obtain rfl := ra.str_inv
      obtain rfl := rb.str_inv
      exact .inr ⟨i, j, rfl, rfl, P.ok rl (.bl _)⟩
    | _ => exact P.elim
  | _ => exact P.elim
theorem oLt : OpR X (compareOp .Lt) (t2 W ltAV) := cmp_in op_lt op_lt_str
theorem oGt : OpR X (compareOp .Gt) (t2 W gtAV) := cmp_in op_gt op_gt_str
theorem oGe : OpR X (compareOp .GtE) (t2 W geAV) := cmp_in op_ge op_ge_str
end

section
variable {W : Wd} {X : Cx}
theorem dget_in {io : List Addr} {H : Hp} {p : Addr} {kvs : List (Key × AV)} {vs : List (Key × V)} {a : AV} {x : V} {q : Key} (hr : Rd H p (.dK vs)) (r : RKs W io H kvs vs) (e : keyOf a = some q) (ra : RV W io H a x) :
    ∃ o, DGet H p x o ∧ RVo W io H (dget kvs q) o := ⟨_, .inl ⟨vs, q, hr, keyOf_in e ra, rfl⟩, r.get q⟩
end

def idxAV : D2 := fun a b h => match seqOf h a with
  | some xs => (match b with
    | .int i => (atI xs i).map fun v => (v, h)
    | _ => none)
  | none => (match a with
    | .str z => (match b with
      | .int i => if z.length ≤ SZ then (atI z.cps.toList i).map fun c => (.str ⟨#[c]⟩, h) else none
      | _ => none)
    | .ref n => (match h[n]? with
      | some (.dK kvs) => (keyOf b).bind fun q => (dget kvs q).map fun v => (v, h)
      | some (.frz (.dK kvs)) => (keyOf b).bind fun q => (dget kvs q).map fun v => (v, h)
      | _ => none)
    | _ => none)
section
variable {W : Wd} {X : Cx}
theorem ix_imp {r r' : R2} (h : IxR X r) (i : ∀ x y H Q, r' x y H Q → r x y H Q) : IxR X r' := fun value slice pins s σ H x y v u Q I r1 r2 q => h value slice pins s σ H x y v u Q I r1 r2 (i x y H Q q)
def rIxDk : R2 := fun x y H Q => ∃ a v, x = .ref a ∧ DGet H a y (some v) ∧ Q v H
theorem ix_dict (hu : X.A.units + 1 < cLine) : IxR X rIxDk := by
  intro value slice pins s σ H x y v u Q I rx ry h hs
  obtain ⟨a, w, rfl, g, q⟩ := h
  obtain rfl : v = Value.ref a := rx
  exact tail_any (dict_typeIs I g) PySem.F.slot_dict_getitem.lookup (d_getItem hu I g ry fun w' s3 I3 rw' => ⟨w, H, I3, rw', q⟩) hs
theorem RVs.atI {io : List Addr} {H : Hp} {xs : List AV} {vs : List V} {i : Int} {x : AV} (r : RVs W io H xs vs) (e : L2.atI xs i = some x) : ∃ v, L2.atI vs i = some v ∧ RV W io H x v := by
  unfold L2.atI at e ⊢
  rw [← r.len]
  cases z : ixN xs.length i with
  | none =>
    rw [z] at e
    cases e
  | some j =>
    rw [z] at e
    exact r.get e
theorem xIdx (hK : X.K = W.K) (hu : X.A.units + 1 < cLine) : IxR X (t2 W idxAV) := ix_imp (IxR.or ix_seq (ix_dict hu)) fun x y H Q ⟨io, hp, a, b, rl, ra, rb, P⟩ => by
  rw [hK]
  unfold idxAV at P
  cases z : seqOf hp a with
  | some xs =>
    rw [z] at P
    obtain ⟨p, vs, rfl, h1, r1⟩ := seqOf_in z rl ra
    cases b with
    | int i =>
      obtain rfl := rb.int_inv
      have P' : Pop W (RV W) Q io H ((L2.atI xs i).map fun v => (v, hp)) := P
      cases z2 : L2.atI xs i with
      | none =>
        rw [z2] at P'
        exact P'.elim
      | some v =>
        rw [z2] at P'
        obtain ⟨w, e2, r2⟩ := r1.atI z2
        have q : Q w H := Pop.ok P' rl r2
        rcases h1 with h1 | h1
        · exact .inl (.inl ⟨p, vs, i, w, rfl, rfl, h1, e2, q⟩)
        · exact .inl (.inr (.inl ⟨p, vs, i, w, rfl, rfl, h1, e2, q⟩))
    | _ => exact P.elim
  | none =>
    rw [z] at P
    cases a with
    | str t =>
      obtain rfl := ra.str_inv
      cases b with
      | int i =>
        obtain rfl := rb.int_inv
        have P' : Pop W (RV W) Q io H (if t.length ≤ SZ then (L2.atI t.cps.toList i).map (fun c => (AV.str ⟨#[c]⟩, hp)) else none) := P
        by_cases h : t.length ≤ SZ
        · rw [if_pos h] at P'
          cases z2 : L2.atI t.cps.toList i with
          | none =>
            rw [z2] at P'
            exact P'.elim
          | some c =>
            rw [z2] at P'
            exact .inl (.inr (.inr ⟨t, i, c, rfl, rfl, szL h, z2, Pop.ok P' rl (.str _)⟩))
        · rw [if_neg h] at P'
          exact P'.elim
      | _ => exact P.elim
    | ref n =>
      cases ra with
      | @ref _ p hi =>
        have P0 : Pop W (RV W) Q io H (match hp[n]? with
          | some (.dK kvs) => (keyOf b).bind fun q => (dget kvs q).map fun v => (v, hp)
          | some (.frz (.dK kvs)) => (keyOf b).bind fun q => (dget kvs q).map fun v => (v, hp)
          | _ => none) := P
        have fin : ∀ {kvs : List (Key × AV)} {vs : List (Key × V)}, Rd H p (.dK vs) → RKs W io H kvs vs → Pop W (RV W) Q io H ((keyOf b).bind fun q => (dget kvs q).map fun v => (v, hp)) → rIxDk (.ref p) y H Q := by
          intro kvs vs hr r P1
          cases z2 : keyOf b with
          | none =>
            rw [z2] at P1
            exact P1.elim
          | some q =>
            rw [z2] at P1
            obtain ⟨o, g, ro⟩ := dget_in hr r z2 rb
            have P2 : Pop W (RV W) Q io H ((dget kvs q).map fun v => (v, hp)) := P1
            cases z3 : dget kvs q with
            | none =>
              rw [z3] at P2
              exact P2.elim
            | some v =>
              rw [z3] at P2 ro
              cases o with
              | none => exact ro.elim
              | some w => exact ⟨p, w, rfl, g, Pop.ok P2 rl ro⟩
        cases z1 : hp[n]? with
        | none =>
          rw [z1] at P0
          exact P0.elim
        | some o =>
          rw [z1] at P0
          cases o with
          | dK kvs =>
            obtain ⟨vs, e3, r3⟩ := rl.dK hi z1
            exact .inr (fin (.inl e3) r3 P0)
          | frz o2 =>
            cases o2 with
            | dK kvs =>
              obtain ⟨u, e3, r3⟩ := rl.at hi z1
              cases r3 with
              | frz r4 =>
                cases r4 with
                | dK r5 => exact .inr (fin (.inr ⟨_, e3⟩) r5 P0)
            | _ => exact P0.elim
          | _ => exact P0.elim
    | _ => exact P.elim
theorem ixD {a b : Expr} {f g : DE} {r : D2} {M : Md W} {E : WX} {pos : Pos} (hr : IxR X (t2 W r)) (ha : PE X a (tD W M E f)) (hb : PE X b (tD W M E g)) (hs : PlainIx b) : PE X (.Subscript a b pos) (tD W M E (dOp r f g)) := peI (pe_ix hr ha hb hs) fun _ _ _ h => op_in h

abbrev DO := Sl → Hep → R (Option Int)
section
variable {M : Md W} {E : WX} {e : Expr} {lo hi : Option Expr} {f : DE} {l u : DO} {pos p2 : Pos}
end
end

def dLst (f : DA) : DE := fun s h => (f s h).bind fun xs h1 => R.of (mkL xs h1)
def dTup (f : DA) : DE := fun s h => (f s h).bind fun xs h1 => R.of (mkT xs h1)
section
variable {W : Wd} {X : Cx} {M : Md W} {E : WX} {es : List Expr} {f : DA} {pos : Pos}
theorem lstD (h : PA X es (tDA W M E f)) : PE X (.List es pos) (tD W M E (dLst f)) := peI (pe_lst h) fun σ H Q ⟨io, hp, as, rl, S, P⟩ =>
  (step (rh := RVs W) (f := f) rl S P).imp fun x H1 ⟨io2, hp2, a, e2, rl2, ra, P2⟩ => mkL_in P2.of rl2 ra
theorem tupD {k : Nat} (h : PA X es (tDA W M E f)) : PE X (.Tuple es k pos) (tD W M E (dTup f)) := peI (pe_tup h) fun σ H Q ⟨io, hp, as, rl, S, P⟩ =>
  (step (rh := RVs W) (f := f) rl S P).imp fun x H1 ⟨io2, hp2, a, e2, rl2, ra, P2⟩ => by
    obtain ⟨k1, k2, _⟩ := mkT_in P2.of rl2 ra
    exact ⟨k1, k2⟩
end
end Dn
namespace Dn
open PySem PySem.Spec PyProof.Rows L2

def pickD (w i : Nat) (kv : Key × AV) : AV := match w with
  | 0 => ofKey kv.1
  | 1 => kv.2
  | 2 => .tup [ofKey kv.1, kv.2]
  | _ => .tup [.int i, ofKey kv.1]
/-- the item of a turn: none is a fault, some none the end -/
def Src.next (s : Src) (i : Nat) (h : Hep) : Option (Option AV) := match s with
  | .fix xs => some xs[i]?
  | .at n => (match h[n]? with
    | some (.lst xs) => some xs[i]?
    | _ => none)
  | .enF xs => some (xs[i]?.map fun x => .tup [.int i, x])
  | .enA n => (match h[n]? with
    | some (.lst xs) => some (xs[i]?.map fun x => .tup [.int i, x])
    | _ => none)
  | .zip m n => (match h[m]?, h[n]? with
    | some (.lst xs), some (.lst ys) => some (match xs[i]?, ys[i]? with
      | some x, some y => some (.tup [x, y])
      | _, _ => none)
    | _, _ => none)
  | .dK n w => (match h[n]? with
    | some (.frz (.dK kvs)) => some (kvs[i]?.map (pickD w i))
    | _ => none)
abbrev DI := Sl → Hep → R Src
/-- the iterator J gives what the source gives, in every later heap -/
def RSrc (W : Wd) : Rel Src It := fun io H src J => ∀ io' H' hp, Ext W io H io' H' → Rl W io' hp H' →
  (∀ i, src.next i hp = some none → J.stop i H') ∧
  ∀ i x, src.next i hp = some (some x) → J.go i H' ∧ ∀ v H2, J.yld i H' v H2 → Ext W io' H' io' H2 ∧ Rl W io' hp H2 ∧ RV W io' H2 x v

/-- a target -/
abbrev DG := AV → Sl → Option Sl
abbrev DGs := List AV → Sl → Option Sl
def dgN (i : Nat) : DG := fun v s => some (s.set i (some v))
def dgT (g : DGs) : DG := fun v s => match tupOf v with
  | some xs => g xs s
  | none => none
def dg0 : DGs := fun xs s => match xs with
  | [] => some s
  | _ => none
def dgC (g : DG) (r : DGs) : DGs := fun xs s => match xs with
  | x :: t => (g x s).bind fun s1 => r t s1
  | [] => none
/-- C: what is kept of the slots -/
abbrev CS := L2.St → L2.St → Prop
def tgG (W : Wd) (M : Md W) (C : CS) (g : DG) : TG := fun v σ H Q => ∃ io hp as x, Rl W io hp H ∧ M.rel io H as σ ∧ RV W io H x v ∧ match g x as with
  | some as' => ∀ σ', M.rel io H as' σ' → C σ σ' → Q σ' H
  | none => False
def tgGs (W : Wd) (M : Md W) (C : CS) (g : DGs) : TGs := fun vs σ H Q => ∃ io hp as xs, Rl W io hp H ∧ M.rel io H as σ ∧ RVs W io H xs vs ∧ match g xs as with
  | some as' => ∀ σ', M.rel io H as' σ' → C σ σ' → Q σ' H
  | none => False
def anyC : CS := fun _ _ => True
def wipC (vs : List Nat) : CS := fun σ σ' => wipe σ' vs = wipe σ vs
structure CSok (C : CS) : Prop where
  rf : ∀ σ, C σ σ
  tr : ∀ a b c, C a b → C b c → C a c
theorem anyC_ok : CSok anyC := ⟨fun _ => trivial, fun _ _ _ _ _ => trivial⟩
theorem wipe_set {i : Nat} {x : Option V} : ∀ {vs : List Nat} (σ : L2.St), i ∈ vs → wipe (σ.set i x) vs = wipe σ vs
  | v :: vs, σ, h => by
    unfold wipe
    by_cases e : i ∈ vs
    · rw [wipe_set σ e]
    · have ev : i = v := by
        rcases List.mem_cons.mp h with h | h
        · exact h
        · exact absurd h e
      subst ev
      apply List.ext_getElem?
      intro j
      by_cases hj : i = j
      · subst hj
        by_cases hl : i < σ.length
        · rw [List.getElem?_set_self (by rw [wipe_length]; simpa using hl), List.getElem?_set_self (by rw [wipe_length]; exact hl)]
        · rw [List.getElem?_eq_none (by simp [wipe_length]; omega), List.getElem?_eq_none (by simp [wipe_length]; omega)]
      · rw [List.getElem?_set_ne hj, List.getElem?_set_ne hj]
        by_cases hm : j ∈ vs
        · have h1 : ∀ (τ : L2.St), τ.length = σ.length → (wipe τ vs)[j]? = if j < σ.length then some none else none := fun τ hl => by
            have := wipe_at (vs := vs) τ hm
            rw [this, hl]
          rw [h1 _ (by simp), h1 _ rfl]
        · rw [wipe_out hm, wipe_out hm, List.getElem?_set_ne hj]
where
  wipe_at {j : Nat} : ∀ {vs : List Nat} (τ : L2.St), j ∈ vs → (wipe τ vs)[j]? = if j < τ.length then some none else none
    | v :: vs, τ, h => by
      unfold wipe
      by_cases e : v = j
      · subst e
        by_cases hl : v < τ.length
        · rw [List.getElem?_set_self (by rw [wipe_length]; exact hl), if_pos hl]
        · rw [List.getElem?_eq_none (by simp [wipe_length]; omega), if_neg hl]
      · rw [List.getElem?_set_ne e]
        rcases List.mem_cons.mp h with h | h
        · exact absurd h.symm e
        · exact wipe_at τ h
theorem wipe_wipe (σ : L2.St) (vs : List Nat) : wipe (wipe σ vs) vs = wipe σ vs := by
  have go : ∀ ws : List Nat, (∀ w ∈ ws, w ∈ vs) → wipe (wipe σ ws) vs = wipe σ vs := by
    intro ws
    induction ws with
    | nil => intro _; rfl
    | cons w ws ih =>
      intro h
      show wipe ((wipe σ ws).set w none) vs = _
      rw [wipe_set _ (h w List.mem_cons_self)]
      exact ih fun v hv => h v (List.mem_cons_of_mem _ hv)
  exact go vs fun _ h => h

section
variable {W : Wd} {M : Md W} {X : Cx} {pos : Pos} {C : CS}
theorem pgI {e : Expr} {t t' : TG} (h : PG X e t) (i : ∀ v σ H Q, t' v σ H Q → t v σ H Q) : PG X e t' := ⟨fun pins s σ H v u Q I r q => h.run pins s σ H v u Q I r (i v σ H Q q)⟩
theorem pgsI {e : List Expr} {t t' : TGs} (h : PGs X e t) (i : ∀ v σ H Q, t' v σ H Q → t v σ H Q) : PGs X e t' := ⟨fun pins s σ H v u Q I r q => h.run pins s σ H v u Q I r (i v σ H Q q)⟩
theorem gN {i : Nat} {x : Str} (hN : X.N.Nodup) (hi : X.N[i]? = some x) (hx : Loc X.env.scope x) (ho : M.ok i) (hC : ∀ σ v, C σ (σ.set i (some v))) (hf : X.fn x = true ∨ X.env.scope.names.lookup x = some .local := by first | exact .inl rfl | exact .inr rfl | assumption) : PG X (.Name x pos) (tgG W M C (dgN i)) :=
  pgI (pg_name hN hi hx hf) fun v σ H Q ⟨io, hp, as, y, rl, S, r, k⟩ => k _ (M.set S r ho) (hC _ _)
theorem gs0 (hC : CSok C) : PGs X [] (tgGs W M C dg0) := pgsI pgs_nil fun v σ H Q ⟨io, hp, as, xs, rl, S, r, k⟩ => by
  cases xs with
  | nil =>
    cases r
    exact ⟨rfl, k σ S (hC.rf σ)⟩
  | cons x t => exact k.elim
theorem gsC {e : Expr} {es : List Expr} {g : DG} {gs : DGs} (hC : CSok C) (h1 : PG X e (tgG W M C g)) (h2 : PGs X es (tgGs W M C gs)) (hs : (assignEach (e :: es) X.env).map (·.2) = assign e X.env :: (assignEach es X.env).map (·.2) := by rfl) : PGs X (e :: es) (tgGs W M C (dgC g gs)) :=
  pgsI (pgs_cons h1 h2 hs) fun v σ H Q ⟨io, hp, as, xs, rl, S, r, k⟩ => by
    cases xs with
    | nil => exact k.elim
    | cons x t =>
      cases r with
      | cons r1 r2 =>
        refine ⟨_, _, rfl, io, hp, as, x, rl, S, r1, ?_⟩
        have k' : match (g x as).bind (fun s1 => gs t s1) with
          | some as' => ∀ σ', M.rel io H as' σ' → C σ σ' → Q σ' H
          | none => False := k
        cases z : g x as with
        | none =>
          rw [z] at k'
          exact k'
        | some as' =>
          rw [z] at k'
          have k2 : match gs t as' with
            | some as' => ∀ σ', M.rel io H as' σ' → C σ σ' → Q σ' H
            | none => False := k'
          intro σ' S' c1
          refine ⟨io, hp, as', t, rl, S', r2, ?_⟩
          cases z2 : gs t as' with
          | none =>
            rw [z2] at k2
            exact k2
          | some as3 =>
            rw [z2] at k2
            exact fun σ3 S3 c3 => k2 σ3 S3 (hC.tr _ _ _ c1 c3)
theorem gT {es : List Expr} {kk : Nat} {gs : DGs} {n : Nat} (hK : X.K = W.K) (hc : X.calm = true) (h : PGs X es (tgGs W M C gs)) (hl : ∀ xs s, gs xs s ≠ none → xs.length = n) (hn : (assignEach es X.env).length = n := by rfl) (hst : (assignEach es X.env).findIdx? (·.1) = none := by rfl) :
    PG X (.Tuple es kk pos) (tgG W M C (dgT gs)) := pgI (pg_tup hc h hn hst) fun v σ H Q ⟨io, hp, as, y, rl, S, r, k⟩ => by
  unfold dgT at k
  cases z : tupOf y with
  | none =>
    rw [z] at k
    exact k.elim
  | some xs =>
    rw [z] at k
    obtain ⟨p, vs, rfl, h1, r1⟩ := tupOf_in z r
    rw [hK]
    refine ⟨p, vs, rfl, h1, ?_, io, hp, as, xs, rl, S, r1, k⟩
    rw [← r1.len]
    refine hl xs as fun q => ?_
    simp only [q] at k
theorem dg0_len : ∀ xs s, dg0 xs s ≠ none → xs.length = 0 := fun xs s h => by
  cases xs with
  | nil => rfl
  | cons x t => exact absurd rfl h
theorem dgC_len {g : DG} {gs : DGs} {n : Nat} (h : ∀ xs s, gs xs s ≠ none → xs.length = n) : ∀ xs s, dgC g gs xs s ≠ none → xs.length = n + 1 := fun xs s k => by
  cases xs with
  | nil => exact absurd rfl k
  | cons x t =>
    have k' : (g x s).bind (fun s1 => gs t s1) ≠ none := k
    cases z : g x s with
    | none =>
      rw [z] at k'
      exact absurd rfl k'
    | some s1 =>
      rw [z] at k'
      have := h t s1 k'
      simp [this]
end

def SR.loop (r : SR) (k : Sl → Hep → SR) : SR := match r with
  | .nx s h => k s h
  | .ct s h => k s h
  | .bk s h => .nx s h
  | r => r
def dLoop (src : Src) (g : DG) (body : DS) : Nat → Nat → Sl → Hep → SR
  | 0, _, _, _ => .stuck
  | k + 1, i, s, h => match src.next i h with
    | none => .stuck
    | some none => .nx s h
    | some (some x) => match g x s with
      | none => .stuck
      | some s1 => (body s1 h).loop fun s2 h2 => dLoop src g body k (i + 1) s2 h2
def dFor (f : DI) (g : DG) (body : DS) : DS := fun s h => (f s h).st s fun src h1 => dLoop src g body (src.len h1 + 1) 0 s h1
section
variable {W : Wd} {M : Md W} {E : WX} {X : Cx} {tg iter : Expr} {body : List Stmt} {f : DI} {g : DG} {fb : DS} {pos : Pos}
theorem sFor (hp : PassesOwn (model X.prog X.w) X.A X.env X.xe) (hc : X.calm = true) (hi : PI X tg iter (tG W M (RSrc W) E f)) (hg : PG X tg (tgG W M anyC g)) (hb : PSs X body (tS W M E fb))
    (hs : ∀ x, foldedSetIterable iter X.env x = pure x := by intro _; rfl) : PS X (.For tg iter body [] pos) (tS W M E (dFor f g fb)) :=
  psI (ps_for hp hc hi hg hb hs) fun D σ H ⟨io, hp, as, rl, S, P⟩ => by
    refine (stepS (rh := RSrc W) (f := f) rl S P).imp fun J H1 ⟨io1, hp1, src, e1, rl1, rs, P1⟩ => ?_
    refine ⟨fun i m σ2 H2 => ∃ io2 hp2 as2, Ext W io1 H1 io2 H2 ∧ Rl W io2 hp2 H2 ∧ M.rel io2 H2 as2 σ2 ∧ Pss W M E D io2 H2 (dLoop src g fb m i as2 hp2), ⟨_, io1, hp1, as, Ext.refl, rl1, M.mono e1 S, P1⟩, ?_⟩
    rintro i m σ2 H2 ⟨io2, hp2, as2, e2, rl2, S2, P2⟩
    obtain ⟨hstop, hgo⟩ := rs io2 H2 hp2 e2 rl2
    cases m with
    | zero => exact P2.elim
    | succ m =>
      unfold dLoop at P2
      cases z : src.next i hp2 with
      | none =>
        rw [z] at P2
        exact P2.elim
      | some o =>
        cases o with
        | none =>
          rw [z] at P2
          exact .inl ⟨hstop i z, P2 io2 H2 σ2 Ext.refl rl2 S2⟩
        | some x =>
          rw [z] at P2
          obtain ⟨go, hy⟩ := hgo i x z
          refine .inr ⟨go, fun σ3 H3 => ∃ io3 hp3 as3, Ext W io1 H1 io3 H3 ∧ Rl W io3 hp3 H3 ∧ M.rel io3 H3 as3 σ3 ∧ Pss W M E D io3 H3 (dLoop src g fb m (i + 1) as3 hp3), fun σ' H' q => ⟨m, Nat.lt_succ_self m, q⟩, fun v H3 hyl => ?_⟩
          obtain ⟨e3, rl3, r3⟩ := hy v H3 hyl
          refine ⟨io2, hp2, as2, x, rl3, M.mono e3 S2, r3, ?_⟩
          have P3 := Pss.later P2 e3
          cases z2 : g x as2 with
          | none =>
            simp only [z2] at P3
            exact P3
          | some as3 =>
            simp only [z2] at P3
            intro σ' S' _
            refine ⟨io2, hp2, as3, rl3, S', ?_⟩
            cases z3 : fb as3 hp2 with
            | nx s h =>
              rw [z3] at P3
              exact fun io' H' σ2 e r S2 => ⟨io', h, s, (e2.trans e3).trans e, r, S2, Pss.later P3 e⟩
            | ct s h =>
              rw [z3] at P3
              exact fun io' H' σ2 e r S2 => ⟨io', h, s, (e2.trans e3).trans e, r, S2, Pss.later P3 e⟩
            | bk s h =>
              rw [z3] at P3
              exact P3
            | rt v h =>
              rw [z3] at P3
              exact P3
            | exc t fs s h =>
              rw [z3] at P3
              exact P3
            | stuck =>
              rw [z3] at P3
              exact P3
end

section
variable {W : Wd} {M : Md W} {E : WX} {X : Cx} {c : Expr} {body : List Stmt} {ft : DT} {fb : DS} {pos : Pos}
end

def R.noX {T : Type} : R T → R T
  | .exc _ _ _ => .stuck
  | r => r
def wipeS (s : Sl) : List Nat → Sl
  | [] => s
  | v :: vs => (wipeS s vs).set v none
/-- one more item in the list at D -/
def addAt (D : Nat) (y : AV) (h : Hep) : Option Hep := match h[D]? with
  | some (.lst acc) => if acc.length < SZ then some (h.set D (.lst (acc ++ [y]))) else none
  | _ => none
def dLcL (src : Src) (g : DG) (tt : DT) (te : DE) (D : Nat) (s0 : Sl) : Nat → Nat → Hep → R AV
  | 0, _, _ => .stuck
  | k + 1, i, h => match src.next i h with
    | none => .stuck
    | some none => .ok (.ref D) h
    | some (some x) => match g x s0 with
      | none => .stuck
      | some s1 => (tt s1 h).noX.bind fun b h1 => match b with
        | false => dLcL src g tt te D s0 k (i + 1) h1
        | true => (te s1 h1).noX.bind fun y h2 => match addAt D y h2 with
          | none => .stuck
          | some h3 => dLcL src g tt te D s0 k (i + 1) h3
def dLc (f : DI) (g : DG) (tt : DT) (te : DE) (vs : List Nat) : DE := fun s h => (f s h).bind fun src h1 => dLcL src g tt te h1.length (wipeS s vs) (src.len h1 + 1) 0 (h1 ++ [AO.lst []])
def dYes : DT := fun _ h => .ok true h
section
variable {W : Wd} {M : Md W} {E : WX} {X : Cx} {pos : Pos}
theorem wipe_rel {io : List Addr} {H : Hp} {as : Sl} {σ : L2.St} (S : M.rel io H as σ) : ∀ {vs : List Nat}, (∀ v ∈ vs, M.ok v) → M.rel io H (wipeS as vs) (wipe σ vs)
  | [], _ => S
  | v :: vs, h => M.wipe (wipe_rel S fun w hw => h w (List.mem_cons_of_mem _ hw)) (h v List.mem_cons_self)
theorem step0 {T U T' U' : Type} {rh : Rel T U} {rh' : Rel T' U'} {σ σ0 : L2.St} {H : Hp} {io : List Addr} {hp : Hep} {as : Sl} {f : Sl → Hep → R T} {k : T → Hep → R T'} {Q : U' → Hp → Prop} (rl : Rl W io hp H) (S : M.rel io H as σ)
    (P : Pst W rh' E σ0 Q io H ((f as hp).noX.bind k)) : tG W M rh E0x f σ H (fun x H1 => ∃ io1 hp1 a, Ext W io H io1 H1 ∧ Rl W io1 hp1 H1 ∧ rh io1 H1 a x ∧ Pst W rh' E σ0 Q io1 H1 (k a hp1)) := by
  refine ⟨io, hp, as, rl, S, ?_⟩
  cases e : f as hp with
  | ok a hp1 =>
    rw [e] at P
    exact fun io' H' x e' r' q => ⟨io', hp1, a, e', r', q, Pst.later P e'⟩
  | exc t fs hp1 =>
    rw [e] at P
    exact P.elim
  | stuck =>
    rw [e] at P
    exact P
theorem lc_in {f : DI} {g : DG} {tt : DT} {te : DE} {vs : List Nat} {σ : L2.St} {H : Hp} {Q : VK} (ok : ∀ v ∈ vs, M.ok v)
    (h : tD W M E (dLc f g tt te vs) σ H Q) : tLc (tG W M (RSrc W) E f) (tgG W M (wipC vs) g) (tDT W M E0x tt) (tD W M E0x te) vs σ H Q := by
  obtain ⟨io, hp, as, rl, S, P⟩ := h
  refine (step (rh := RSrc W) (f := f) rl S P).imp fun J H1 ⟨io1, hp1, src, e1, rl1, rs, P1⟩ => ?_
  intro D hD
  have eD := Ext.new (W := W) io1 (.lst []) hD [D]
  have rlD : Rl W (io1 ++ [D]) (hp1 ++ [AO.lst []]) (upd H1 D (.lst [])) := rl1.new hD (.lst .nil)
  have wS : M.rel io1 H1 (wipeS as vs) (wipe σ vs) := wipe_rel (M.mono e1 S) ok
  have atD := rl1.atLen D
  refine ⟨fun i m H2 => ∃ io2 hp2, Ext W (io1 ++ [D]) (upd H1 D (.lst [])) io2 H2 ∧ Rl W io2 hp2 H2 ∧ Pst W (RV W) E σ Q io2 H2 (dLcL src g tt te hp1.length (wipeS as vs) m i hp2), ⟨_, _, _, Ext.refl, rlD, Pst.later P1 eD⟩, ?_⟩
  rintro i m H2 ⟨io2, hp2, e2, rl2, P2⟩
  have e12 := eD.trans e2
  obtain ⟨hstop, hgo⟩ := rs io2 H2 hp2 e12 rl2
  cases m with
  | zero => exact P2.elim
  | succ m =>
    unfold dLcL at P2
    cases z : src.next i hp2 with
    | none =>
      rw [z] at P2
      exact P2.elim
    | some o =>
      cases o with
      | none =>
        rw [z] at P2
        exact .inl ⟨hstop i z, P2.ok rl2 (.ref (e2.at atD))⟩
      | some x =>
        rw [z] at P2
        obtain ⟨go, hy⟩ := hgo i x z
        refine .inr ⟨go, fun H3 => ∃ io3 hp3, Ext W (io1 ++ [D]) (upd H1 D (.lst [])) io3 H3 ∧ Rl W io3 hp3 H3 ∧ Pst W (RV W) E σ Q io3 H3 (dLcL src g tt te hp1.length (wipeS as vs) m (i + 1) hp3), fun H' q => ⟨m, Nat.lt_succ_self m, q⟩, fun v H3 hyl => ?_⟩
        obtain ⟨e3, rl3, r3⟩ := hy v H3 hyl
        refine ⟨io2, hp2, wipeS as vs, x, rl3, M.mono e3 (M.mono e12 wS), r3, ?_⟩
        have P3 := Pst.later P2 e3
        cases z2 : g x (wipeS as vs) with
        | none =>
          simp only [z2] at P3
          exact P3
        | some as3 =>
          simp only [z2] at P3
          intro σ' S' hw
          refine ⟨Eq.trans hw (wipe_wipe σ vs), ?_⟩
          have S2' : M.rel io2 H3 as3 σ' := S'
          refine (step0 (rh := fun _ _ b c => b = c) (f := tt) (σ := σ') rl3 S2' P3).imp fun b H4 q4 => ?_
          · obtain ⟨io4, hp4, b', e4, rl4, rb, P4⟩ := q4
            subst rb
            cases b' with
            | false => exact iteF ⟨io4, hp4, (e2.trans e3).trans e4, rl4, P4⟩
            | true =>
              refine iteT ((step0 (rh := RV W) (f := te) (σ := σ') rl4 (M.mono e4 S2') P4).imp fun y H5 ⟨io5, hp5, a, e5, rl5, ra, P5⟩ => ?_)
              unfold addAt at P5
              have atD5 : io5[hp1.length]? = some D := e5.at (e4.at (e3.at (e2.at atD)))
              cases z5 : hp5[hp1.length]? with
              | none =>
                simp only [z5] at P5
                exact P5.elim
              | some o5 =>
                cases o5 with
                | lst acc =>
                  simp only [z5] at P5
                  by_cases hl : acc.length < SZ
                  · simp only [if_pos hl] at P5
                    obtain ⟨avs, ea, rac⟩ := rl5.lst atD5 z5
                    refine ⟨avs, ea, by rw [← rac.len]; exact szT hl, ?_⟩
                    have es : Ext W io5 H5 io5 (upd H5 D (.lst (avs ++ [y]))) := Ext.set _ ea trivial
                    exact ⟨io5, _, (((e2.trans e3).trans e4).trans e5).trans es, rl5.set atD5 ea trivial (.lst ((rac.app (.cons ra .nil)).mono es)), Pst.later P5 es⟩
                  · simp only [if_neg hl] at P5
                    exact P5.elim
                | _ =>
                  simp only [z5] at P5
                  exact P5.elim
theorem sSetLc {i : Nat} {y : Str} {py spos : Pos} {elt tg iter : Expr} {ifs : List Expr} {scope : Scope} {own : List (Str × Nat)} {f : DI} {g : DG} {tt : DT} {te : DE} (hc : X.calm = true) (hN : X.N.Nodup) (hy : X.N[i]? = some y) (hyl : X.env.scope.names.lookup y = some .local)
    (hsw : swapsWith (.ListComp elt [⟨tg, iter, ifs, 0⟩] scope pos) (some (.Name y py)) spos.line X.env = pure true) (hi : PI X tg iter (tG W M (RSrc W) E f)) (ok : BlkOk X.N X.env.scope scope own)
    (hg : ∀ (s : Shared) (H : Hp) (C : Addr) (cl : List (Str × Addr)) (fp : List Addr), PG (X.blk s H scope (compEnvC scope cl C X.env) fp) tg (tgG W M (wipC (own.map (·.2))) g))
    (ht : ∀ (s : Shared) (H : Hp) (C : Addr) (cl : List (Str × Addr)) (fp : List Addr), PTs (X.blk s H scope (compEnvC scope cl C X.env) fp) ifs (tDT W M E0x tt))
    (he : ∀ (s : Shared) (H : Hp) (C : Addr) (cl : List (Str × Addr)) (fp : List Addr), PE (X.blk s H scope (compEnvC scope cl C X.env) fp) elt (tD W M E0x te)) (ho : ∀ v ∈ own.map (·.2), M.ok v) (hoi : M.ok i) (hs : ∀ x, foldedSetIterable iter X.env x = pure x := by intro _; rfl) :
    PS X (.Assign [.Name y py] (.ListComp elt [⟨tg, iter, ifs, 0⟩] scope pos) spos) (tS W M E (dSet i (dLc f g tt te (own.map (·.2))))) := psI (ps_setLc hc hN hy hyl hsw hi ok hg ht he hs) fun D σ H ⟨io, hp, as, rl, S, P⟩ => by
  refine lc_in (M := M) (E := E) ho ?_
  refine (stepS (rh := RV W) (f := dLc f g tt te (own.map (·.2))) rl S P).imp fun x H1 ⟨io2, hp2, a, e2, rl2, ra, P2⟩ => ?_
  exact P2 io2 H1 _ Ext.refl rl2 (M.set (M.mono e2 S) ra hoi)
theorem yesD : PTs X [] (tDT W M E0x dYes) := ⟨fun pins s σ H Q I ⟨io, hp, as, rl, S, P⟩ => pts_nil.run pins s σ H Q I (P.ok rl rfl)⟩
end

def dSrc (f : DE) : DI := fun s h => (f s h).bind fun a h1 => match a with
  | .ref n => (match h1[n]? with
    | some (.lst _) => .ok (.at n) h1
    | _ => .stuck)
  | .tup xs => .ok (.fix xs) h1
  | .rol xs => .ok (.fix xs) h1
  | .str x => .ok (.fix (x.cps.toList.map fun c => .str ⟨#[c]⟩)) h1
  | _ => .stuck
def rngL (lo : Int) (n : Nat) : List AV := (List.range n).map fun i => .int (lo + (i : Nat))
def dRg1 (f : DA) : DI := fun s h => (f s h).bind fun as h1 => match as with
  | [.int j] => if -(2 ^ 62) ≤ j ∧ j < 2 ^ 62 then .ok (.fix (rngL 0 j.toNat)) h1 else .stuck
  | _ => .stuck
section
variable {W : Wd} {M : Md W} {E : WX} {X : Cx} {tg : Expr}
theorem piI {e : Expr} {t t' : TI} (h : PI X tg e t) (i : ∀ σ H Q, t' σ H Q → t σ H Q) : PI X tg e t' := ⟨fun pins s σ H R I q => h.run pins s σ H R I (i σ H R q)⟩
theorem src_fixed {io : List Addr} {H : Hp} {xs : List AV} {vs : List V} {J : It} (r : RVs W io H xs vs) (h1 : ∀ i H', (∃ l, Ext W io H l H') → vs.length ≤ i → J.stop i H') (h2 : ∀ i v H', (∃ l, Ext W io H l H') → vs[i]? = some v → J.go i H' ∧ ∀ w H2, J.yld i H' w H2 → H2 = H' ∧ w = v) : RSrc W io H (.fix xs) J := fun io' H' hp e rl => by
  refine ⟨fun i z => ?_, fun i x z => ?_⟩
  · have z' : xs[i]? = none := Option.some.inj z
    exact h1 i H' ⟨_, e⟩ (by rw [← r.len]; exact List.getElem?_eq_none_iff.mp z')
  · have z' : xs[i]? = some x := Option.some.inj z
    obtain ⟨v, e1, r1⟩ := r.get z'
    obtain ⟨g, k⟩ := h2 i v H' ⟨_, e⟩ e1
    refine ⟨g, fun w H2 y => ?_⟩
    obtain ⟨rfl, rfl⟩ := k w H2 y
    exact ⟨Ext.refl, rl, r1.mono e⟩
theorem src_range {io : List Addr} {H : Hp} {lo : Int} {n : Nat} : RSrc W io H (.fix (rngL lo n)) (Itr lo n) := by
  have hv : RVs W io H (rngL lo n) ((List.range n).map fun i => V.int (lo + (i : Nat))) := by
    unfold rngL
    generalize List.range n = l
    induction l with
    | nil => exact .nil
    | cons a r ih => exact .cons (.int _) ih
  refine src_fixed hv (fun i H' _ h => ?_) fun i v H' _ h => ?_
  · rw [List.length_map, List.length_range] at h
    exact h
  · rw [List.getElem?_map] at h
    by_cases hi : i < n
    · rw [List.getElem?_range hi] at h
      cases h
      exact ⟨hi, fun w H2 ⟨a, b⟩ => ⟨a, b⟩⟩
    · rw [List.getElem?_eq_none (by simpa using hi)] at h
      cases h
theorem rg1D {a : Expr} {fa : DA} {p pos : Pos} (hg : Gl X "range") (hm : X.mg "range" = none) (ha : PA X [a] (tDA W M E fa)) (hs : starEach [a] X.env = [(false, eval a X.env)] := by rfl) : PI X tg (.Call (.Name "range" p) [a] [] pos) (tG W M (RSrc W) E (dRg1 fa)) :=
  piI (pi_range1 hg hm ha hs) fun σ H Q ⟨io, hp, as, rl, S, P⟩ => (step (rh := RVs W) (f := fa) rl S P).imp fun xs H1 ⟨io2, hp2, bs, e2, rl2, ra, P2⟩ => by
    match bs, ra, P2 with
    | [.int j], .cons (.int _) .nil, P2 =>
      have P3 : Pst W (RSrc W) E σ Q io2 H1 (if -(2 ^ 62) ≤ j ∧ j < 2 ^ 62 then .ok (.fix (rngL 0 j.toNat)) hp2 else .stuck) := P2
      by_cases h : -(2 ^ 62) ≤ j ∧ j < 2 ^ 62
      · rw [if_pos h] at P3
        exact ⟨j, rfl, h.1, h.2, Pst.ok P3 rl2 src_range⟩
      · rw [if_neg h] at P3
        exact P3.elim
end
end Dn
namespace Dn
open PySem PySem.Spec PyProof.Rows L2

/-- the slots at the entry -/
def dStart (N : Nat) (as : List AV) : Sl := as.map some ++ List.replicate (N - as.length) none
def dFun (N : Nat) (b : DS) : DF := fun as h => (b (dStart N as) h).fin
theorem start_rel {W : Wd} {io : List Addr} {H : Hp} {as : List AV} {vs : List V} {N : List Str} {n : Nat} (r : RVs W io H as vs) (hN : N.length = n) : (std W).rel io H (dStart n as) (L2.start N vs) := by
  subst hN
  refine ⟨?_, fun i v a => ?_⟩
  · unfold dStart L2.start
    simp [r.len]
  · unfold dStart at a
    have hi : i < as.length := by
      by_cases hi : i < as.length
      · exact hi
      · rw [List.getElem?_append_right (by simpa using hi), List.getElem?_replicate] at a
        split at a <;> cases a
    rw [List.getElem?_append_left (by simpa using hi), List.getElem?_map] at a
    cases e : as[i]? with
    | none =>
      rw [e] at a
      cases a
    | some y =>
      rw [e] at a
      cases a
      obtain ⟨x, e2, rx⟩ := r.get e
      refine ⟨x, ?_, rx⟩
      unfold L2.start
      rw [List.getElem?_append_left (by simpa [← r.len] using hi), List.getElem?_map, e2]
      rfl

section
variable {P : Program} {w : World} {mg : Str → Option Value} {base : Heap} {W : Wd} {x qual : Str} {params : Arguments} {body : List Stmt} {scope : Scope} {dvs : List V} {kws : List (Str × V)} {f : Addr} {fd : FuncData}
/-- the context of a def's body -/
abbrev cxD (W : Wd) (P : Program) (w : World) (mg : Str → Option Value) (base : Heap) (N : List Str) (qual : Str) (scope : Scope) (f : Addr) (cdv : Value) (A : Around) (outer : List Env) (s : Shared) (H : Hp) (E : XK) : Cx :=
  cxOf (L2.CX P w) P w W.K mg base N qual scope f cdv A outer s H E
/-- what a def's body may let out -/
abbrev wxE (E : XK) : WX := fun cls d _ H => E cls d H
/-- THE RULE: a def keeps its promise if its body is read as b -/
theorem fnD {N ps : List Str} {k n : Nat} {b : DS} (F : FunD W.K x qual params body scope dvs kws f fd) (S : FnScope N ps scope) (hn : ps.length = n)
    (hb : ∀ (cdv : Value) (A : Around) (outer : List Env) (s : Shared) (H : Hp) (E : XK), Room k (A.deeper (envOfC qual scope s.heap.objs.size f cdv)) → Takes (cxD W P w mg base N qual scope f cdv A outer s H E) (wxE E) →
      PSs (cxD W P w mg base N qual scope f cdv A outer s H E) body (tS W (std W) (wxE E) b)) : FnOk P w W.K mg base (L2.CX P w) (k + 1) f fd ps (spD W n (dFun N.length b)) := by
  refine F.ok S (fun vs H Q E h => ?_) fun cdv A outer s H vs Q E hr h => ⟨_, hb cdv A outer s H E hr (takes_of rfl rfl rfl rfl), ?_⟩
  · obtain ⟨io, hp, as, hl, _, r, _⟩ := h
    rw [← r.len, hl, hn]
  · obtain ⟨io, hp, as, hl, rl, r, P⟩ := h
    refine ⟨io, hp, dStart N.length as, rl, start_rel r rfl, ?_⟩
    unfold dFun at P
    cases e : b (dStart N.length as) hp with
    | nx s h =>
      rw [e] at P
      exact fun io' H' σ' e' rl' _ => P io' H' .non e' rl' .non
    | rt s h =>
      rw [e] at P
      exact P
    | bk s h =>
      rw [e] at P
      exact P.elim
    | ct s h =>
      rw [e] at P
      exact P.elim
    | exc t fs s h =>
      rw [e] at P
      exact fun io' H' σ' cls d e' rl' _ rx => P io' H' cls d e' rl' rx
    | stuck =>
      rw [e] at P
      exact P
end

theorem sel_vals {vs : List V} {us : List Value} (h : Vals vs us) : ∀ ix : List Nat, Vals (sel ix vs) (sel ix us)
  | [] => .nil
  | i :: ix => by
    show Vals ((i :: ix).filterMap _) ((i :: ix).filterMap _)
    rw [List.filterMap_cons, List.filterMap_cons]
    cases e : vs[i]? with
    | none =>
      have : us[i]? = none := by
        rw [List.getElem?_eq_none_iff] at e ⊢
        rw [← h.length]
        exact e
      rw [this]
      exact sel_vals h ix
    | some v =>
      obtain ⟨u, e2, r⟩ := h.get e
      rw [e2]
      exact .cons r (sel_vals h ix)
theorem sel_rel {W : Wd} {io : List Addr} {H : Hp} {as : List AV} {vs : List V} (h : RVs W io H as vs) : ∀ ix : List Nat, RVs W io H (sel ix as) (sel ix vs)
  | [] => .nil
  | i :: ix => by
    show RVs W io H ((i :: ix).filterMap _) ((i :: ix).filterMap _)
    rw [List.filterMap_cons, List.filterMap_cons]
    cases e : as[i]? with
    | none =>
      have : vs[i]? = none := by
        rw [List.getElem?_eq_none_iff] at e ⊢
        rw [← h.len]
        exact e
      rw [this]
      exact sel_rel h ix
    | some v =>
      obtain ⟨u, e2, r⟩ := h.get e
      rw [e2]
      exact .cons r (sel_rel h ix)
section
variable {W : Wd} {x qual : Str} {params : Arguments} {body : List Stmt} {scope : Scope} {dvs : List V} {kws : List (Str × V)} {f : Addr} {fd : FuncData} {ps : List Str}
/-- no default is taken, the def has none -/
theorem bnN (F : FunD W.K x qual params body scope [] kws f fd) (n : Nat) (ks : List Str) (ix : List Nat)
    (h : ∀ (kV doc pm : Value) (an : Option Addr) (cdv ct : Value) (us ws : List Value), us.length = n → ws.length = ks.length → bindArgs (PySem.W.fnOf x qual params body scope .none kV doc pm an cdv ct) ⟨us, ks.zip ws⟩ = pure (ps.zip (sel ix (us ++ ws)))) : BnD W fd ps n ks ix [] := by
  obtain ⟨oc, od, dV, kV, doc, pm, an, cdv, ct, osl, rfl, lk, hcd, hD, hK⟩ := F.ex
  rcases hD with ⟨_, rfl⟩ | ⟨e, _⟩
  · refine ⟨fun us ws => sel ix (us ++ ws), fun vs zs => sel ix (vs ++ zs), ⟨fun s us ws X l1 l2 => .of_eq (h kV doc pm an cdv ct us ws l1 l2), fun r1 r2 => sel_vals (r1.append r2) ix⟩, fun io H as bs vs zs r1 r2 => ?_⟩
    rw [List.append_nil]
    exact sel_rel (r1.app r2) ix
  · exact absurd rfl e
end

section
variable {W : Wd} {M : Md W} {E : WX} {X : Cx} {k j n m : Nat} {f : Addr} {fd : FuncData} {ps ks : List Str} {F : DF} {x : Str} {p pos apos kpos : Pos} {e o : Expr} {es : List Expr} {kws : List Keyword} {fa fk : DA} {fe : DE} {ix : List Nat} {dfl : List AV}
/-- f(a, .., k = v, ..): the positional values, then the keywords' -/
def dCall (F : DF) (n m : Nat) (ix : List Nat) (dfl : List AV) (fa fk : DA) : DE := fun s h => (fa s h).bind fun a h1 => (fk s h1).bind fun b h2 => if a.length = n ∧ b.length = m then F (sel ix (a ++ dfl ++ b)) h2 else .stuck
theorem run_gen {pins : List (Addr × Obj)} {σ : L2.St} {H : Hp} {s : Shared} {Q : VK} {us ws : List Value} {vs zs : List V} {sp : Sp} {g : List Value → List Value → List Value} {gV : List V → List V → List V}
    (hF : FnOk X.prog X.w X.K X.mg X.base (L2.CX X.prog X.w) j f fd ps sp) (hr : Room j X.A) (hb : KBn X.K fd ps n ks g gV) (tk : Takes X E)
    (I : Inv X pins σ H s) (r : Vals vs us) (rz : Vals zs ws) (l1 : vs.length = n) (l2 : zs.length = ks.length) (h : sp (gV vs zs) H Q (WE E σ)) : wpAny (model X.prog X.w) X.A (call (.ref f) us (ks.zip ws)) (EP X pins σ Q) X.xe s := by
  have r2 := hb.rel r rz
  refine wpAny_call (codeAny_mono (hF.run X.A X.stack s H ⟨us, ks.zip ws⟩ (g us ws) (gV vs zs) Q (WE E σ) hr I.env0 (hb.to s us ws I.kIn (r.length.symm.trans l1) (rz.length.symm.trans l2)) r2 h) fun r s' hq => ?_)
  cases r with
  | error e => exact passAt tk σ pins H s e s' I hq
  | ok fl =>
    cases fl with
    | ret u => exact I.after hq
    | next => exact False.elim hq
    | brk => exact False.elim hq
    | cont => exact False.elim hq
/-- behind the arguments -/
theorem call_at {σ : L2.St} {io : List Addr} {hp : Hep} {H : Hp} {Q : VK} {a b : List AV} {vs zs : List V} {gV : List V → List V → List V} (rl : Rl W io hp H) (ra : RVs W io H a vs) (rb : RVs W io H b zs)
    (hg : ∀ io H as bs vs zs, RVs W io H as vs → RVs W io H bs zs → RVs W io H (sel ix (as ++ dfl ++ bs)) (gV vs zs)) (hl : (sel ix (a ++ dfl ++ b)).length = j)
    (P : Pst W (RV W) E σ Q io H (F (sel ix (a ++ dfl ++ b)) hp)) : spD W j F (gV vs zs) H Q (WE E σ) :=
  ⟨io, hp, _, hl, rl, hg _ _ _ _ _ _ ra rb, P.fn⟩
/-- dCall, and the places are as many as the parameters -/
def dCallC (F : DF) (n m q : Nat) (ix : List Nat) (dfl : List AV) (fa fk : DA) : DE := fun s h => (fa s h).bind fun a h1 => (fk s h1).bind fun b h2 => if a.length = n ∧ b.length = m ∧ (sel ix (a ++ dfl ++ b)).length = q then F (sel ix (a ++ dfl ++ b)) h2 else .stuck
theorem args_in {σ : L2.St} {H : Hp} {Q : VK} (h : tD W M E (dCallC F n m j ix dfl fa fk) σ H Q) :
    tDA W M E fa σ H fun vs H1 => tDA W M E fk σ H1 fun zs H2 => vs.length = n ∧ zs.length = m ∧ ∀ gV : List V → List V → List V, (∀ io H as bs vs zs, RVs W io H as vs → RVs W io H bs zs → RVs W io H (sel ix (as ++ dfl ++ bs)) (gV vs zs)) → spD W j F (gV vs zs) H2 Q (WE E σ) := by
  obtain ⟨io, hp, as, rl, S, P⟩ := h
  refine (step (rh := RVs W) (f := fa) rl S P).imp fun vs H1 ⟨io2, hp2, a, e2, rl2, ra, P2⟩ => ?_
  refine (step (rh := RVs W) (f := fk) rl2 (M.mono e2 S) P2).imp fun zs H4 ⟨io5, hp5, b, e5, rl5, rb, P5⟩ => ?_
  by_cases hc : a.length = n ∧ b.length = m ∧ (sel ix (a ++ dfl ++ b)).length = j
  · rw [if_pos hc] at P5
    have ra' := ra.mono e5
    exact ⟨ra'.len.symm.trans hc.1, rb.len.symm.trans hc.2.1, fun gV hg => call_at rl5 ra' rb hg hc.2.2 P5⟩
  · rw [if_neg hc] at P5
    exact P5.elim
theorem callD (hF : FnOk X.prog X.w X.K X.mg X.base (L2.CX X.prog X.w) j f fd ps (spD W n F)) (hr : Room k X.A) (hj : j ≤ k) (hm : X.mg x = some (.ref f)) (hkp : PySem.W.keepIn X.K (.ref f) = true) (hK : X.K = W.K) (hb : BnD W fd ps m ks ix dfl) (tk : Takes X E)
    (ha : PA X (e :: es) (tDA W M E fa)) (hkw : PK X kws (tDA W M E fk)) (hg : Gl X x := by rfl) (hall : (backToKw pos (keywordEach kws X.env)).all (·.1.isSome) = true := by rfl) (hks : (backToKw pos (keywordEach kws X.env)).filterMap (·.1) = ks := by rfl)
    (hdb : (x == ("__debug__" : Str)) = false := by decide) (he : starEach (e :: es) X.env = (false, eval e X.env) :: starEach es X.env := by rfl)
    (hpl : ((backTo pos (starEach (e :: es) X.env)).any (·.1) || (backToKw pos (keywordEach kws X.env)).any (·.1.isNone)) = false := by rfl) :
    PE X (.Call (.Name x p) (e :: es) kws pos) (tD W M E (dCallC F m ks.length n ix dfl fa fk)) := by
  obtain ⟨g, gV, kb, hg2⟩ := hb
  rw [← hK] at kb
  refine ⟨fun pins s σ H Q I h => ?_⟩
  refine wpAny_Call_Name_kw (ld_glob I hg hm ?_ hdb)
  refine PySem.W.callWith_KW (h₀ := X.base) I.ok.mod.kin hkp hall (thn (ha.run pos pins s σ H _ I (args_in h)) fun us s1 ⟨vs, H1, I1, r, q⟩ => ?_) hpl he
  refine thn (hkw.run pos pins s1 σ H1 _ I1 q) fun ws s2 ⟨zs, H2, I2, rz, l1, l2, q2⟩ => ⟨I2.kIn, ?_⟩
  rw [hks]
  exact run_gen hF (hr.mono hj) kb tk I2 r rz l1 l2 (q2 gV hg2)
/-- keywords' values -/
theorem kNil : PK X [] (tDA W M E dNil) := ⟨fun pos pins s σ H Q I h => pk_nil.run pos pins s σ H Q I (nil_in h)⟩
theorem kCons {nm : Option Str} {f : DE} (ha : PE X e (tD W M E f)) (hr : PK X kws (tDA W M E fa)) : PK X (⟨nm, e, kpos⟩ :: kws) (tDA W M E (dCons f fa)) := ⟨fun pos pins s σ H Q I h => (pk_cons ha hr).run pos pins s σ H Q I (cons_in h)⟩

end
end Dn
namespace Dn
open PySem PySem.Spec PyProof.Rows L2

section
variable {W : Wd} {M : Md W} {E : WX} {X : Cx}
end

def dPar2 (i j : Nat) (f : DA) : DS := fun s h => (f s h).st s fun xs h1 => match xs with
  | [a, b] => .nx ((s.set i (some a)).set j (some b)) h1
  | _ => .stuck
section
variable {W : Wd} {M : Md W} {E : WX} {X : Cx} {f : DE} {fa : DA} {e a b c tg : Expr} {es : List Expr} {g : DG} {pos : Pos}
theorem sPar2 {i j : Nat} {x y : Str} {px py pt : Pos} {kt k2 pt2} (hc : X.calm = true) (hN : X.N.Nodup) (hi : X.N[i]? = some x) (hj : X.N[j]? = some y) (hij : i ≠ j)
    (hx : X.env.scope.names.lookup x = some .local) (hy : X.env.scope.names.lookup y = some .local) (ha : PA X [a, b] (tDA W M E fa)) (o1 : M.ok i) (o2 : M.ok j)
    (hw : swappedStores [.Tuple [.Name x px, .Name y py] kt pt] (.Tuple [a, b] k2 pt2) X.env = pure (some [x, y]) := by rfl)
    (hs : swapsWithSole [.Tuple [.Name x px, .Name y py] kt pt] (.Tuple [a, b] k2 pt2) pos.line X.env = pure false := by rfl) :
    PS X (.Assign [.Tuple [.Name x px, .Name y py] kt pt] (.Tuple [a, b] k2 pt2) pos) (tS W M E (dPar2 i j fa)) := psI (ps_par hc hN hi hj hij hx hy ha hw hs) fun D σ H h => by
  obtain ⟨io, hp, as, rl, S, P⟩ := h
  refine (stepS (rh := RVs W) (f := fa) rl S P).imp fun x H1 ⟨io2, hp2, a, e2, rl2, ra, P2⟩ => ?_
  match a, ra, P2 with
  | [_, _], .cons r1 (.cons r2 .nil), P2 => exact ⟨_, _, rfl, P2 io2 H1 _ Ext.refl rl2 (M.set (M.set (M.mono e2 S) r1 o1) r2 o2)⟩
end
end Dn
namespace Dn
open PySem PySem.Spec PyProof.Rows L2

def lenA (h : Hep) : AV → Option Nat
  | .str x => if x.length ≤ SZ then some x.length else none
  | .tup xs => some xs.length
  | .rol xs => some xs.length
  | .ref n => match h[n]? with
    | some (.lst xs) => some xs.length
    | some (.dK kvs) => some kvs.length
    | _ => none
  | _ => none
def lenL : DL := fun as h => match as with
  | [a] => (lenA h a).map fun n => (.int (n : Nat), h)
  | _ => none
def absL : DL := fun as h => match as with
  | [.int i] => some (.int (i.natAbs : Nat), h)
  | _ => none
def maxL : DL := fun as h => match as with
  | [.int i, .int j] => some (.int (max i j), h)
  | _ => none
def minL : DL := fun as h => match as with
  | [.int i, .int j] => some (.int (min i j), h)
  | _ => none
def intL : DL := fun as h => match as with
  | [.int i] => some (.int i, h)
  | [.bl b] => some (.int (if b then 1 else 0), h)
  | _ => none
section
variable {W : Wd} {M : Md W} {E : WX} {X : Cx}
theorem one_inv {io : List Addr} {H : Hp} {a : AV} {vs : List V} (r : RVs W io H [a] vs) : ∃ x, vs = [x] ∧ RV W io H a x := by
  cases r with
  | cons r t =>
    cases t
    exact ⟨_, rfl, r⟩
theorem two_inv {io : List Addr} {H : Hp} {a b : AV} {vs : List V} (r : RVs W io H [a, b] vs) : ∃ x y, vs = [x, y] ∧ RV W io H a x ∧ RV W io H b y := by
  cases r with
  | cons r t =>
    obtain ⟨y, rfl, r2⟩ := one_inv t
    exact ⟨_, _, rfl, r, r2⟩
theorem call_or {F : Value} {r r' : List V → Hp → VK → Prop} (h : CallR X F r) (h' : CallR X F r') : CallR X F (fun xs H Q => r xs H Q ∨ r' xs H Q) := fun pins s σ H xs us Q I rr q => q.elim (h pins s σ H xs us Q I rr) (h' pins s σ H xs us Q I rr)
theorem cLen (hK : X.K = W.K) : CallR X (.builtin "len") (tl W lenL) := call_imp (call_or call_len call_lenD) fun xs H Q ⟨io, hp, as, rl, ra, P⟩ => by
  match as, ra, P with
  | [a], ra, P =>
    obtain ⟨x, rfl, r⟩ := one_inv ra
    have P' : Pop W (RV W) Q io H ((lenA hp a).map fun n => (AV.int (n : Nat), hp)) := P
    cases z : lenA hp a with
    | none =>
      rw [z] at P'
      exact P'.elim
    | some n =>
      rw [z] at P'
      have q : Q (.int (n : Nat)) H := P'.ok rl (.int _)
      cases r with
      | str y =>
        left
        unfold lenA at z
        dsimp only at z
        by_cases hz : y.length ≤ SZ
        · rw [if_pos hz] at z
          cases z
          exact ⟨_, _, rfl, ⟨szL hz, rfl⟩, q⟩
        · rw [if_neg hz] at z
          cases z
      | tup h r =>
        left
        cases z
        refine ⟨_, _, rfl, .inr ⟨_, by rw [hK]; exact h, r.len⟩, q⟩
      | rol h r =>
        left
        cases z
        refine ⟨_, _, rfl, .inl ⟨_, by rw [hK]; exact roL_sq h, r.len⟩, q⟩
      | @ref n a h =>
        unfold lenA at z
        dsimp only at z
        cases e : hp[n]? with
        | none =>
          rw [e] at z
          cases z
        | some o =>
          rw [e] at z
          cases o with
          | lst xs =>
            cases z
            obtain ⟨vs, e1, r1⟩ := rl.lst h e
            left
            exact ⟨_, _, rfl, .inl ⟨vs, .inl (.inl e1), r1.len⟩, q⟩
          | dK kvs =>
            cases z
            obtain ⟨vs, e1, r1⟩ := rl.dK h e
            right
            refine ⟨_, vs, rfl, e1, ?_⟩
            rw [← r1.len]
            exact q
          | _ => cases z
      | _ => cases z
  | [], ra, P => exact P.elim
  | _ :: _ :: _, ra, P => exact P.elim
theorem cAbs : CallR X (.builtin "abs") (tl W absL) := call_imp call_abs fun xs H Q ⟨io, hp, as, rl, ra, P⟩ => by
  match as, ra, P with
  | [.int i], ra, P =>
    obtain ⟨x, rfl, r⟩ := one_inv ra
    obtain rfl := r.int_inv
    refine ⟨i, rfl, ?_⟩
    have q : Q (.int (i.natAbs : Nat)) H := P.ok rl (.int _)
    have e : (if i < 0 then -i else i) = ((i.natAbs : Nat) : Int) := by
      split <;> omega
    rw [e]
    exact q
theorem cMax (hc : X.calm = true) : CallR X (.builtin "max") (tl W maxL) := call_imp (call_max2 hc) fun xs H Q ⟨io, hp, as, rl, ra, P⟩ => by
  match as, ra, P with
  | [.int i, .int j], ra, P =>
    obtain ⟨x, y, rfl, r1, r2⟩ := two_inv ra
    obtain rfl := r1.int_inv
    obtain rfl := r2.int_inv
    have q : Q (.int (max i j)) H := P.ok rl (.int _)
    have e : (if j > i then j else i) = max i j := by
      split <;> omega
    refine ⟨i, j, rfl, ?_⟩
    rw [e]
    exact q
theorem cMin (hc : X.calm = true) : CallR X (.builtin "min") (tl W minL) := call_imp (call_min2 hc) fun xs H Q ⟨io, hp, as, rl, ra, P⟩ => by
  match as, ra, P with
  | [.int i, .int j], ra, P =>
    obtain ⟨x, y, rfl, r1, r2⟩ := two_inv ra
    obtain rfl := r1.int_inv
    obtain rfl := r2.int_inv
    have q : Q (.int (min i j)) H := P.ok rl (.int _)
    have e : (if j < i then j else i) = min i j := by
      split <;> omega
    refine ⟨i, j, rfl, ?_⟩
    rw [e]
    exact q
theorem cInt : CallR X (.type "int") (tl W intL) := call_imp call_int1 fun xs H Q ⟨io, hp, as, rl, ra, P⟩ => by
  match as, ra, P with
  | [.int i], ra, P =>
    obtain ⟨x, rfl, r⟩ := one_inv ra
    obtain rfl := r.int_inv
    exact .inl ⟨i, rfl, P.ok rl (.int _)⟩
  | [.bl i], ra, P =>
    obtain ⟨x, rfl, r⟩ := one_inv ra
    obtain rfl := r.bl_inv
    exact .inr ⟨i, rfl, P.ok rl (.int _)⟩
variable {e o : Expr} {es : List Expr} {fa : DA} {f : DE} {x : Str} {p pos apos : Pos} {r : DL} {id T : String}
theorem bD (hc : CallR X (.builtin id) (tl W r)) (hm : X.mg x = none) (hv : bootBuiltins x = some (.builtin id)) (ha : PA X (e :: es) (tDA W M E fa)) (hg : Gl X x := by rfl) (hn : x ≠ "__name__" := by decide) (hdb : (x == ("__debug__" : Str)) = false := by decide)
    (he : starEach (e :: es) X.env = (false, eval e X.env) :: starEach es X.env := by rfl) (hpl : (backTo pos (starEach es X.env)).any (·.1) = false := by rfl) : PE X (.Call (.Name x p) (e :: es) [] pos) (tD W M E (dCB r fa)) :=
  peI (pe_callB hc hg hm hv ha hn hdb he hpl) fun _ _ _ h => cb_in h
theorem yD (hc : CallR X (.type T) (tl W r)) (hm : X.mg x = none) (hv : bootBuiltins x = some (.type T)) (ha : PA X (e :: es) (tDA W M E fa)) (hg : Gl X x := by rfl) (hn : x ≠ "__name__" := by decide) (hdb : (x == ("__debug__" : Str)) = false := by decide)
    (he : starEach (e :: es) X.env = (false, eval e X.env) :: starEach es X.env := by rfl) (hpl : (backTo pos (starEach es X.env)).any (·.1) = false := by rfl) : PE X (.Call (.Name x p) (e :: es) [] pos) (tD W M E (dCB r fa)) :=
  peI (pe_callTy hc hg hm hv ha hn hdb he hpl) fun _ _ _ h => cb_in h
/-- by receiver and arguments -/
abbrev DMt := AV → List AV → Hep → Op AV
def tm (W : Wd) (r : DMt) : V → List V → Hp → VK → Prop := fun x vs H Q => ∃ io hp a as, Rl W io hp H ∧ RV W io H a x ∧ RVs W io H as vs ∧ Pop W (RV W) Q io H (r a as hp)
theorem mt_imp {r r' : V → List V → Hp → VK → Prop} (h : MtR X id r) (i : ∀ x xs H Q, r' x xs H Q → r x xs H Q) : MtR X id r' := fun pins s σ H x xs v us Q I rx rxs q => h pins s σ H x xs v us Q I rx rxs (i x xs H Q q)
/-- is it such a builtin value? -/
def tyA (T : String) (h : Hep) : AV → Bool
  | .str _ => T == "str"
  | .ref n => match h[n]? with
    | some (.lst _) => T == "list"
    | some (.dK _) => T == "dict"
    | some (.dT _) => T == "dict"
    | _ => false
  | _ => false
def dMt (T : String) (r : DMt) (f : DE) (fa : DA) : DE := fun s h => (f s h).bind fun a h1 => if tyA T h1 a then (fa s h1).bind fun b h2 => R.of (r a b h2) else .stuck
theorem tyA_in {io : List Addr} {hp : Hep} {H : Hp} {a : AV} {x : V} (e : tyA T hp a = true) (rl : Rl W io hp H) (r : RV W io H a x) : tyV W.K T x H := by
  cases r with
  | str y => exact beq_iff_eq.mp e
  | @ref n a h =>
    unfold tyA at e
    dsimp only at e
    cases z : hp[n]? with
    | none =>
      rw [z] at e
      cases e
    | some o =>
      rw [z] at e
      cases o with
      | lst xs =>
        obtain ⟨vs, e1, _⟩ := rl.lst h z
        exact .inl ⟨beq_iff_eq.mp e, vs, .inl (.inl e1)⟩
      | dK xs =>
        obtain ⟨vs, e1, _⟩ := rl.dK h z
        exact .inr (.inr (.inl ⟨beq_iff_eq.mp e, .inl ⟨vs, e1⟩⟩))
      | dT xs =>
        obtain ⟨vs, e1, _⟩ := rl.dT h z
        exact .inr (.inr (.inl ⟨beq_iff_eq.mp e, .inr ⟨vs, e1⟩⟩))
      | _ => cases e
  | _ => cases e
theorem mt_in {r : DMt} {σ : L2.St} {H : Hp} {Q : VK} (h : tD W M E (dMt T r f fa) σ H Q) : tBM W.K T (tm W r) (tD W M E f) (tDA W M E fa) σ H Q := by
  obtain ⟨io, hp, as, rl, S, P⟩ := h
  refine (step (rh := RV W) (f := f) rl S P).imp fun x H1 ⟨io2, hp2, a, e2, rl2, ra, P2⟩ => ?_
  by_cases ht : tyA T hp2 a = true
  · rw [if_pos ht] at P2
    refine ⟨tyA_in ht rl2 ra, ?_⟩
    refine (step (rh := RVs W) (f := fa) rl2 (M.mono e2 S) P2).imp fun y H4 ⟨io5, hp5, b, e5, rl5, rb, P5⟩ => ?_
    exact ⟨io5, hp5, a, b, rl5, ra.mono e5, rb, P5.of⟩
  · rw [if_neg ht] at P2
    exact P2.elim
variable {name : Str} {r : DMt}
theorem mD (hK : X.K = W.K) (pa : PlainAttrs T) (slot : Slot T name id) (hm : MtR X id (tm W r)) (ho : PE X o (tD W M E f)) (ha : PA X (e :: es) (tDA W M E fa)) (hty : typeOf (.builtin id) = pure (.type "method_descriptor") := by rfl)
    (hbase : attributeBase o name X.env (eval o X.env) = eval o X.env := by rfl)
    (hfew : ((backTo pos (starEach (e :: es) X.env)).all (fun x => !x.1) && (backToKw pos (keywordEach [] X.env)).all (fun x => x.1.isSome)
      && decide ((e :: es).length + ([] : List Keyword).length + (if ([] : List Keyword).isEmpty then 0 else 1) < 30)) = true := by rfl)
    (hline : (apos.endLine == pos.line) = true := by rfl) (hs : starEach (e :: es) X.env = (false, eval e X.env) :: starEach es X.env := by rfl) (hplain : (backTo pos (starEach es X.env)).any (·.1) = false := by rfl) :
    PE X (.Call (.Attribute o name apos) (e :: es) [] pos) (tD W M E (dMt T r f fa)) :=
  peI (pe_bm pa slot hty hm ho ha hbase hfew hline hs hplain) fun σ H Q h => by
    rw [hK]
    exact mt_in h
def lstAt (h : Hep) : AV → Option (Nat × List AV)
  | .ref n => match h[n]? with
    | some (.lst xs) => some (n, xs)
    | _ => none
  | _ => none
theorem lstAt_in {io : List Addr} {hp : Hep} {H : Hp} {a : AV} {x : V} {n : Nat} {xs : List AV} (e : lstAt hp a = some (n, xs)) (rl : Rl W io hp H) (r : RV W io H a x) : ∃ p vs, x = .ref p ∧ io[n]? = some p ∧ H p = some (.lst vs) ∧ RVs W io H xs vs := by
  cases r with
  | @ref m a h =>
    unfold lstAt at e
    dsimp only at e
    cases z : hp[m]? with
    | none =>
      rw [z] at e
      cases e
    | some o =>
      rw [z] at e
      cases o with
      | lst ys =>
        cases e
        obtain ⟨vs, e1, r1⟩ := rl.lst h z
        exact ⟨a, vs, rfl, h, e1, r1⟩
      | _ => cases e
  | _ => cases e
def mAppend : DMt := fun a as h => match lstAt h a, as with
  | some (n, xs), [b] => if xs.length < SZ then some (.non, h.set n (.lst (xs ++ [b]))) else none
  | _, _ => none
theorem set_lst {io : List Addr} {hp : Hep} {H : Hp} {Q : VK} {n : Nat} {p : Addr} {ys : List AV} {vs ws : List V} {b : AV} {y : V} (P : Pop W (RV W) Q io H (some (b, hp.set n (.lst ys)))) (rl : Rl W io hp H) (hi : io[n]? = some p) (hu : H p = some (.lst vs)) (r : RVs W io H ys ws) (rb : RV W io H b y) :
    Q y (upd H p (.lst ws)) := by
  have e : Ext W io H io (upd H p (.lst ws)) := Ext.set _ hu trivial
  exact P io _ y e (rl.set hi hu trivial (.lst (r.mono e))) (rb.mono e)
theorem meAppend : MtR X "list.append" (tm W mAppend) := mt_imp mt_append fun x xs H Q ⟨io, hp, a, as, rl, ra, ras, P⟩ => by
  unfold mAppend at P
  cases z : lstAt hp a with
  | none =>
    rw [z] at P
    exact P.elim
  | some q =>
    obtain ⟨n, ys⟩ := q
    rw [z] at P
    match as, ras, P with
    | [b], ras, P =>
      obtain ⟨y, rfl, rb⟩ := one_inv ras
      obtain ⟨p, vs, rfl, hi, hu, rv⟩ := lstAt_in z rl ra
      dsimp only at P
      split at P
      · rename_i hz
        refine ⟨p, vs, y, rfl, rfl, hu, by rw [← rv.len]; exact szT hz, ?_⟩
        exact set_lst P rl hi hu (rv.app (.cons rb .nil)) .non
      · exact P.elim
    | [], _, P => exact P.elim
    | _ :: _ :: _, _, P => exact P.elim
end
end Dn
namespace PySem
open Sem (wp)
set_option maxHeartbeats 4000000 in
theorem dn_meets_enumerate_newB {v : Value} {o : Obj} {H : Heap → Prop} (B : Begins v o H) :
    Meets (Builtin.«enumerate.__new__» ⟨[.type "enumerate", v], []⟩) (fun _ R s => H s.heap ∧
      R (.ok (.ret (.ref (s.heap.push o).objs.size))) { s with heap := (s.heap.push o).push { cls := .type "enumerate", data := .fields #[.none, .bool false, .ref s.heap.objs.size, rawInt 0, .none, .none] } }) :=
  .of_wp fun prog w A R s h => by
    obtain ⟨hp, g, d, tk, os⟩ := s; obtain ⟨h1, h⟩ := h
    have hsub := sub_enumerate
    have q1 : ∀ {A' : Around} {E : Value → Shared → Prop} {Q : Value → Shared → Prop}, Q (.ref hp.objs.size) ⟨hp.push o, g, d, tk, os⟩ → wpAny (model prog w) A' (pyIter v) Q E ⟨hp, g, d, tk, os⟩ :=
      fun q => B.iter prog w _ _ ⟨hp, g, d, tk, os⟩ _ h1 q
    wp_walk using q1
    refine wpAny_stack_any fun st => wpAny_pure ?_
    split
    · rename_i c _ _ _ _ _
      cases (c == Value.type "enumerate")
      · wp_walk using q1
        exact ⟨_, rfl, h⟩
      · wp_walk using q1
        exact ⟨_, rfl, h⟩
    · wp_walk using q1
      exact ⟨_, rfl, h⟩
section
variable {prog : Program} {w : World} {A : Around} {E : Value → Shared → Prop} {s : Shared}
theorem dn_enum_begins {v : Value} {o : Obj} {H : Heap → Prop} {Q : Value → Shared → Prop} (B : Begins v o H) (h1 : H s.heap)
    (h : ∀ h', IsEnum h' (s.heap.objs.size + 1) s.heap.objs.size 0 .none → h'.get? s.heap.objs.size = some o → h'.objs.size = s.heap.objs.size + 2 →
      (∀ b o, s.heap.get? b = some o → h'.get? b = some o) → Q (.ref (s.heap.objs.size + 1)) { s with heap := h' }) :
    wpAny (model prog w) A (call (.type "enumerate") [v]) Q E s := by
  refine callType_new F.called_enumerate (by decide) (F.typeCall_enumerate_1 _) (F.newCall_enumerate_1 _) (fun obj => F.args_object_init_2 obj _) F.entry_enumerate_new
    (dn_meets_enumerate_newB B) ⟨h1, ?_⟩
  have hz : (s.heap.push o).objs.size = s.heap.objs.size + 1 := Heap.size_push ..
  show _ ∧ _
  rw [hz]
  have he : IsEnum ((s.heap.push o).push { cls := .type "enumerate", data := .fields #[.none, .bool false, .ref s.heap.objs.size, rawInt 0, .none, .none] }) (s.heap.objs.size + 1) s.heap.objs.size 0 .none := by
    have := Heap.get?_push_size (s.heap.push o) (o := { cls := .type "enumerate", data := .fields #[.none, .bool false, .ref s.heap.objs.size, rawInt 0, .none, .none] }) rfl
    rw [hz] at this; exact this
  refine ⟨⟨_, he, rfl⟩, h _ he (Heap.get?_push_of_some _ (Heap.get?_push_size _ B.free)) (by rw [Heap.size_push, hz]) fun b o x => Heap.get?_push_of_some _ (Heap.get?_push_of_some _ x)⟩
end
end PySem
namespace Dn
open PySem PySem.Spec PyProof.Rows L2

def IteT (K : PySem.W.Frag) (a : Addr) : It :=
  ⟨fun i H => ∃ (xs : List V) (x : V), SqT K H a xs ∧ xs[i]? = some x, fun i H v H' => ∃ T x, v = .ref T ∧ H T = none ∧ H' = upd H T (.tup [.int (i : Nat), x]) ∧ ∀ xs, SqT K H a xs → xs[i]? = some x, fun i H => ∃ xs : List V, SqT K H a xs ∧ xs.length ≤ i⟩
theorem turn_enumT {P : Program} {w : World} {K : PySem.W.Frag} {elts : List Expr} {kk : Nat} {tpos : Pos} (a e it : Addr) :
    Turn P w K (.Tuple elts kk tpos) (IteT K a) [e, it] e (fun i h => (∃ old, IsEnum h e it ((i : Nat) : Int) old) ∧ h.IsTupleIter it a i ∧ e ≠ it ∧ a ≠ it) where
  mem := by simp
  obj := fun i h st b hb => by
    obtain ⟨⟨old, he⟩, ⟨o, ho, hc, hd⟩, _⟩ := st
    have e' : b = e ∨ b = it := by simpa using hb
    rcases e' with z | z
    · rw [z]; exact ⟨_, he, fun v q => nomatch q⟩
    · rw [z]; exact ⟨o, ho, fun v q => by rw [hd] at q; cases q⟩
  keep := fun i h h' st k => let ⟨⟨old, he⟩, hi, hne⟩ := st; ⟨⟨old, k e (by simp) _ he⟩, hi.at fun o q => k it (by simp) o q, hne⟩
  item := by
    intro X hP hw hK hc i pins s σ H E I hf st hg
    subst hP hw hK
    obtain ⟨⟨old, he⟩, hit, hne, hai⟩ := st
    obtain ⟨xs, x, hq, hx⟩ := hg
    obtain ⟨its, rv, p, hz⟩ := I.tuple hq
    obtain ⟨u, hu, ru⟩ := rv.get hx
    have hel : e < s.heap.objs.size := Heap.lt_size he
    have hil : it < s.heap.objs.size := by obtain ⟨_, q, _⟩ := hit; exact Heap.lt_size q
    have D : Draws X.prog X.w X.A.in1 it [it, a] its.toArray.size (fun i v => its.toArray[i]? = some v) (fun i h => h.IsTupleIter it a i ∧ h.IsTuple a its.toArray) := Draws.tuple (show X.A.in1.handled = none from I.ok.hd hc) it a hai its.toArray
    have hlt : i < its.toArray.size := by
      obtain ⟨hl, _⟩ := List.getElem?_eq_some_iff.mp hu
      rw [List.size_toArray]
      exact hl
    have hef : e ∉ [it, a] := fun hm => by
      rcases List.mem_cons.mp hm with z | hm
      · exact hne z
      · have z : e = a := by simpa using hm
        subst z
        obtain ⟨o, h1, h2, _⟩ := p
        rw [he] at h1
        cases h1
        exact absurd (show Value.type "enumerate" = Value.type "tuple" from h2) (by decide)
    refine wpAny_pyNext_enum_itemC D he ⟨hit, p⟩ hlt hne hef fun y h' tk hP ho hit' hT hsz hk => ?_
    have ey : y = u := by
      have : its.toArray[i]? = some u := by simpa using hu
      rw [this] at hP
      exact (Option.some.inj hP).symm
    subst ey
    refine ⟨_, rfl, wpAny_letOwnedTupleGo_enum (s := { s with heap := h', toks := tk + 1 }) ho fun h'' he' sb => ?_⟩
    have hT2 : h''.get? s.heap.objs.size = some { cls := .type "tuple", data := .seq #[.int i tk, y] } := (sb.2 _ (Nat.ne_of_gt hel)).trans hT
    have new : ObjOk X.prog X.w (upd H s.heap.objs.size (.tup [.int (i : Nat), x])) h'' s.heap.objs.size (.tup [.int (i : Nat), x]) :=
      ⟨by show 2 ≤ sizeLine; decide, [.int i tk, y], .cons ⟨_, rfl⟩ (.cons ru .nil), ⟨_, hT2, rfl, _, rfl⟩⟩
    have I1 : Inv X pins σ (upd H s.heap.objs.size (.tup [.int (i : Nat), x])) { s with heap := h'', toks := tk + 1 } :=
      I.turnedNew (ch := [e, it]) (fun b ob hb q => (sb.2 b (fun z => hb (by simp [z]))).trans (hk b ob (fun z => hb (by simp [z])) (fun z => hb (by simp [z])) q)) hf (Nat.le_refl _) new
    refine ⟨.ref s.heap.objs.size, _, I1, rfl, ⟨_, x, rfl, I.hok.fresh (Nat.le_refl _), rfl, fun ys hy => by rw [I.tuple_inj hy hq]; exact hx⟩, ⟨⟨y, ?_⟩, hit'.1.at fun o q => (sb.2 it (Ne.symm hne)).trans q, hne, hai⟩, fun b hb => ?_⟩
    · have e1 : ((i + 1 : Nat) : Int) = (i : Int) + 1 := by omega
      rw [e1]; exact he'
    · have hb' : b < s.heap.objs.size := by
        have e' : b = e ∨ b = it := by simpa using hb
        rcases e' with z | z
        · rw [z]; exact hel
        · rw [z]; exact hil
      rw [upd_ne (Nat.ne_of_lt hb')]
      exact (hf b hb).1
  done := by
    intro X hP hw hK hc i pins s σ H E I hf st hg
    subst hP hw hK
    obtain ⟨⟨old, he⟩, hit, hne, hai⟩ := st
    obtain ⟨xs, hq, hx⟩ := hg
    obtain ⟨its, rv, p, hz⟩ := I.tuple hq
    obtain ⟨f0, f1, f2, f3, f4, f5⟩ := hf it (by simp)
    have hl := rv.length
    have D : Draws X.prog X.w X.A.in1 it [it, a] i (fun i v => its.toArray[i]? = some v) (fun j h => j = i ∧ h.IsTupleIter it a j ∧ h.IsTuple a its.toArray) :=
      { live := fun _ _ st => let ⟨o, ho, _⟩ := st.2.1; ⟨o, ho⟩
        frame := fun _ _ _ st hk => ⟨st.1, st.2.1.at fun o e => hk it (by simp) o e, st.2.2.at fun o e => hk a (by simp) o e⟩
        item := fun j s Q E hi st hQ => absurd st.1 (Nat.ne_of_lt hi)
        done := fun s Q E st hE => wpAny_nextOf_tuple_end (show X.A.in1.handled = none from I.ok.hd hc) st.2.1 st.2.2 (by simp; omega) hE }
    exact wpAny_pyNext_enum_endD D he ⟨rfl, hit, p⟩ fun h' eb => ⟨rfl, I.turned (t' := s.toks) (fun b o hb q => eb b o hb q) f0 f1 f3 f4 f5⟩
  self := fun A i s Q E st h => let ⟨⟨_, he⟩, _⟩ := st; wpAny_pyIter_enum he h
theorem src_enA {W : Wd} {io : List Addr} {H : Hp} {n : Nat} {p : Addr} (hi : io[n]? = some p) : RSrc W io H (.enA n) (Ite W.K p) := fun io' H' hp e rl => by
  have hp' := e.at hi
  refine ⟨fun i z => ?_, fun i x z => ?_⟩
  all_goals
    unfold Src.next at z
    dsimp only at z
    cases z1 : hp[n]? with
    | none =>
      rw [z1] at z
      cases z
    | some o =>
      rw [z1] at z
      cases o with
      | lst xs =>
        have z' := Option.some.inj z
        obtain ⟨vs, ev, rv⟩ := rl.lst hp' z1
        first
          | exact ⟨vs, SqL.of ev, by
              rw [← rv.len]
              cases z3 : xs[i]? with
              | none => exact List.getElem?_eq_none_iff.mp z3
              | some y =>
                rw [z3] at z'
                cases z'⟩
          | (cases z3 : xs[i]? with
             | none =>
               rw [z3] at z'
               cases z'
             | some y =>
               rw [z3] at z'
               have z4 : x = .tup [.int i, y] := (Option.some.inj z').symm
               subst z4
               obtain ⟨v, e1, r1⟩ := rv.get z3
               refine ⟨⟨vs, v, SqL.of ev, e1⟩, fun w H2 ⟨T, x, ew, hT, eH, hw⟩ => ?_⟩
               subst ew eH
               have := hw vs (SqL.of ev)
               rw [e1] at this
               cases this
               have e3 : Ext W io' H' io' (upd H' T (.tup [.int (i : Nat), v])) := Ext.new0 hT
               exact ⟨e3, rl.other hT, .tup (.inl (.inl upd_same)) (.cons (.int _) (.cons (r1.mono e3) .nil))⟩)
      | _ => cases z
theorem src_enF {W : Wd} {io : List Addr} {H : Hp} {p : Addr} {xs : List AV} {vs : List V} (h1 : SqT W.K H p vs) (r : RVs W io H xs vs) : RSrc W io H (.enF xs) (IteT W.K p) := fun io' H' hp e rl => by
  have h2 := e.tup _ _ h1
  have r2 := r.mono e
  refine ⟨fun i z => ?_, fun i x z => ?_⟩
  · have z' : (xs[i]?.map fun x => AV.tup [.int i, x]) = none := Option.some.inj z
    cases z3 : xs[i]? with
    | none => exact ⟨vs, h2, by rw [← r2.len]; exact List.getElem?_eq_none_iff.mp z3⟩
    | some y =>
      rw [z3] at z'
      cases z'
  · have z' : (xs[i]?.map fun x => AV.tup [.int i, x]) = some x := Option.some.inj z
    cases z3 : xs[i]? with
    | none =>
      rw [z3] at z'
      cases z'
    | some y =>
      rw [z3] at z'
      have z4 : x = .tup [.int i, y] := (Option.some.inj z').symm
      subst z4
      obtain ⟨v, e1, r1⟩ := r2.get z3
      refine ⟨⟨vs, v, h2, e1⟩, fun w H2 ⟨T, x, ew, hT, eH, hw⟩ => ?_⟩
      subst ew eH
      have := hw vs h2
      rw [e1] at this
      cases this
      have e3 : Ext W io' H' io' (upd H' T (.tup [.int (i : Nat), v])) := Ext.new0 hT
      exact ⟨e3, rl.other hT, .tup (.inl (.inl upd_same)) (.cons (.int _) (.cons (r1.mono e3) .nil))⟩
def dEnm (f : DE) : DI := fun s h => (f s h).bind fun a h1 => match a with
  | .tup xs => .ok (.enF xs) h1
  | .ref n => match h1[n]? with
    | some (.lst _) => .ok (.enA n) h1
    | _ => .stuck
  | _ => .stuck
section
variable {W : Wd} {M : Md W} {E : WX} {X : Cx} {e : Expr} {f : DE} {p pos tpos : Pos} {elts : List Expr} {kk : Nat}
theorem enmD (hK : X.K = W.K) (he : PE X e (tD W M E f)) (hm : X.mg "enumerate" = none) (hg : Gl X "enumerate" := by rfl) (hs : starEach [e] X.env = [(false, eval e X.env)] := by rfl) :
    PI X (.Tuple elts kk tpos) (.Call (.Name "enumerate" p) [e] [] pos) (tG W M (RSrc W) E (dEnm f)) := by
  refine ⟨fun pins s σ H R I ⟨io, hp, as, rl, S, P⟩ => ?_⟩
  have h0 : tCons (tD W M E f) tNil σ H (fun vs H1 => ∃ x io2 hp2 a, vs = [x] ∧ Ext W io H io2 H1 ∧ Rl W io2 hp2 H1 ∧ RV W io2 H1 a x ∧ Pst W (RSrc W) E σ R io2 H1 (match a with
      | .tup xs => .ok (.enF xs) hp2
      | .ref n => match hp2[n]? with
        | some (.lst _) => .ok (.enA n) hp2
        | _ => .stuck
      | _ => .stuck)) := (step (rh := RV W) (f := f) rl S P).imp fun x H1 ⟨io2, hp2, a, e2, rl2, ra, P2⟩ => ⟨x, io2, hp2, a, rfl, e2, rl2, ra, P2⟩
  refine Call_ (ld_blt I hg hm boot_enumerate (PyProof.Rows.callWith_type1 (thn ((pa_cons he pa_nil hs).run pos pins s σ H _ I h0) fun us s1 ⟨vs, H1, I1, r1, q1⟩ => ?_) hs rfl))
  obtain ⟨x, io2, hp2, a, rfl, e2, rl2, ra, P2⟩ := q1
  obtain ⟨u, rfl, ru⟩ := vals1 r1
  have fp : ∀ b ∈ [s1.heap.objs.size + 1, s1.heap.objs.size], FpOk X pins H1 b := fun b hb => by
    have e' : b = s1.heap.objs.size + 1 ∨ b = s1.heap.objs.size := by simpa using hb
    have hle : s1.heap.objs.size ≤ b := by
      rcases e' with z | z
      · rw [z]; exact Nat.le_add_right _ _
      · rw [z]; exact Nat.le_refl _
    exact I1.fpOk hle (I1.hok.fresh hle)
  cases ra with
  | @ref n p hi =>
    dsimp only at P2
    cases z : hp2[n]? with
    | none =>
      rw [z] at P2
      exact P2.elim
    | some o =>
      rw [z] at P2
      cases o with
      | lst xs =>
        obtain ⟨vs, ev, rv⟩ := rl2.lst hi z
        obtain rfl : u = Value.ref p := ru
        obtain ⟨its, _, p', hz⟩ := I1.list (SqL.of ev)
        refine call_enumerate_list p'.isList fun h' he hit hsz hk => wpAny_pyIter_enum he ?_
        have I2 : Inv X pins σ H1 { s1 with heap := h' } := I1.kept (t' := s1.toks) hk
        refine ⟨s1.heap.objs.size + 1, [s1.heap.objs.size + 1, s1.heap.objs.size], _, Ite X.K p, H1, rfl, I2, turn_enum p (s1.heap.objs.size + 1) s1.heap.objs.size, ⟨⟨.none, he⟩, hit, Nat.succ_ne_self _⟩, fp, ?_⟩
        rw [hK]
        exact Pst.ok P2 rl2 (src_enA hi)
      | _ => exact P2.elim
  | @tup p vs xs h r =>
    obtain rfl : u = Value.ref p := ru
    rw [← hK] at h
    obtain ⟨its, _, p', hz⟩ := I1.tuple h
    have hlt : p < s1.heap.objs.size := by obtain ⟨o, ho, _⟩ := p'; exact Heap.lt_size ho
    refine dn_enum_begins (begins_tuple p its.toArray) p' fun h' he hit hsz hk => wpAny_pyIter_enum he ?_
    have I2 : Inv X pins σ H1 { s1 with heap := h' } := I1.kept (t' := s1.toks) hk
    refine ⟨s1.heap.objs.size + 1, [s1.heap.objs.size + 1, s1.heap.objs.size], _, IteT X.K p, H1, rfl, I2, turn_enumT p (s1.heap.objs.size + 1) s1.heap.objs.size, ⟨⟨.none, he⟩, ⟨_, hit, rfl, rfl⟩, Nat.succ_ne_self _, Nat.ne_of_lt hlt⟩, fp, ?_⟩
    rw [hK] at h ⊢
    exact Pst.ok P2 rl2 (src_enF h r)
  | _ => exact P2.elim
end
end Dn
namespace Dn
open PySem PySem.Spec PyProof.Rows L2
section
variable {W : Wd} {M : Md W} {E : WX} {X : Cx} {e e2 : Expr} {fa : DA} {p pos tpos : Pos} {elts : List Expr} {kk : Nat}
end
end Dn
namespace Dn
open PySem PySem.Spec PyProof.Rows L2

section
variable {W : Wd} {M : Md W} {E : WX} {X : Cx} {f : DE} {e : Expr} {es : List Expr} {gs : DGs} {g : DG} {pos tpos p : Pos} {kk i : Nat} {C : CS}
end
end Dn
namespace Dn
open PySem PySem.Spec PyProof.Rows L2

section
variable {W : Wd} {M : Md W} {E : WX} {X : Cx} {k : Nat}
theorem ru (hr : Room k X.A) : X.A.units + 64 < cLine := by have := hr.un; omega
theorem ru5 (hr : Room k X.A) : X.A.units + 65 < cLine := by have := hr.un; omega
theorem ru1 (hr : Room k X.A) : X.A.units + 1 < cLine := by have := hr.un; omega
theorem iD {i : Int} {j pos} : PE X (.Constant (.int i) j pos) (tD W M E (dC (.int i))) := cD pe_int fun _ _ => .int i
theorem bD0 {i : Bool} {j pos} : PE X (.Constant (.bool i) j pos) (tD W M E (dC (.bl i))) := cD pe_bl fun _ _ => .bl i
theorem sD {i : Str} {j pos} : PE X (.Constant (.str i) j pos) (tD W M E (dC (.str i))) := cD pe_str fun _ _ => .str i
theorem nD0 {j pos} : PE X (.Constant .none j pos) (tD W M E (dC .non)) := cD pe_non fun _ _ => .non
theorem vv (i : Nat) {x : Str} {pos : Pos} (hN : X.N[i]? = some x := by rfl) (hv : Vis X.env.scope x := by first | exact Or.inl rfl | exact Or.inr (Or.inl rfl) | exact Or.inr (Or.inr rfl)) (hd : (x == ("__debug__" : Str)) = false := by decide)
    (hcd : (x == ("__classdict__" : Str)) = false := by decide) : PE X (.Name x pos) (tD W M E (dVar i)) := vD (pe_var hN hv hd hcd)
end
theorem bt_len : bootBuiltins "len" = some (.builtin "len") := by decide +kernel
theorem bt_abs : bootBuiltins "abs" = some (.builtin "abs") := by decide +kernel
theorem bt_max : bootBuiltins "max" = some (.builtin "max") := by decide +kernel
theorem bt_min : bootBuiltins "min" = some (.builtin "min") := by decide +kernel
theorem bt_repr : bootBuiltins "repr" = some (.builtin "repr") := by decide +kernel
theorem bt_int : bootBuiltins "int" = some (.type "int") := by decide +kernel
section
variable {W : Wd} {M : Md W} {E : WX} {X : Cx} {k j n m q : Nat} {ps ks : List Str} {F : DF} {x : Str} {p pos : Pos} {e : Expr} {es : List Expr} {kws : List Keyword} {fa fk : DA} {ix : List Nat} {dfl : List AV} {bs : Bs}
theorem callH (H : Has X.prog X.w X.mg X.base W j x ps n F bs) (i : Nat) (hi : bs[i]? = some (m, ks, ix, dfl)) (hq : ks.length = q) (hr : Room k X.A) (hj : j ≤ k) (hK : X.K = W.K) (tk : Takes X E)
    (ha : PA X (e :: es) (tDA W M E fa)) (hkw : PK X kws (tDA W M E fk)) (hg : Gl X x := by rfl) (hall : (backToKw pos (keywordEach kws X.env)).all (·.1.isSome) = true := by rfl) (hks : (backToKw pos (keywordEach kws X.env)).filterMap (·.1) = ks := by rfl)
    (hdb : (x == ("__debug__" : Str)) = false := by decide) (he : starEach (e :: es) X.env = (false, eval e X.env) :: starEach es X.env := by rfl)
    (hpl : ((backTo pos (starEach (e :: es) X.env)).any (·.1) || (backToKw pos (keywordEach kws X.env)).any (·.1.isNone)) = false := by rfl) :
    PE X (.Call (.Name x p) (e :: es) kws pos) (tD W M E (dCallC F m q n ix dfl fa fk)) := by
  subst hq
  obtain ⟨a, fd, h1, h2, h3, h4⟩ := H
  have h5 := h4 _ (List.mem_of_getElem? hi)
  rw [← hK] at h2 h3
  exact callD h3 hr hj h1 h2 hK h5 tk ha hkw hg hall hks hdb he hpl
end

def spL (K : PySem.W.Frag) : Sp := fun vs H Q _ => ∃ (a : Addr) (ns : List Int), vs = [.ref a] ∧ ns.length ≤ 63 ∧ Only H ∧ SqL K H a (ns.map V.int) ∧ ∀ H', Q (.bl true) H'
end Dn
namespace Dn
open PySem PySem.Spec PyProof.Rows L2

def putAV (o i v : AV) (h : Hep) : Option Hep := match o with
  | .ref n => match h[n]? with
    | some (.lst xs) => (match i with
      | .int k => (ixN xs.length k).map fun j => h.set n (.lst (xs.set j v))
      | _ => none)
    | some (.dK kvs) => (match keyOf i with
      | some q => if kvs.length < SZ then some (h.set n (.dK (dput kvs q v))) else none
      | none => none)
    | _ => none
  | _ => none
def dPut (fo fi fv : DE) : DS := fun s h => (fv s h).st s fun v h1 => (fo s h1).st s fun o h2 => (fi s h2).st s fun i h3 => match putAV o i v h3 with
  | some h4 => .nx s h4
  | none => .stuck
section
variable {W : Wd} {M : Md W} {E : WX} {X : Cx} {k : Nat}
theorem sPut {o i v : Expr} {fo fi fv : DE} {p pos : Pos} (hr : Room k X.A) (ho : PE X o (tD W M E fo)) (hi : PE X i (tD W M E fi)) (hv : PE X v (tD W M E fv)) (hs : swapsWith v (some (.Subscript o i p)) pos.line X.env = pure false := by rfl) :
    PS X (.Assign [.Subscript o i p] v pos) (tS W M E (dPut fo fi fv)) := by
  refine ⟨fun pins s σ H D I ⟨io, hp, as, rl, S, P⟩ => ?_⟩
  refine wpAny_Assign_Subscript (thn (hv.run pins s σ H _ I (stepS (rh := RV W) (f := fv) rl S P)) fun uv s1 ⟨xv, H1, I1, rv, io1, hp1, a1, e1, rl1, r1, P1⟩ => ?_) hs
  refine thn (ho.run pins s1 σ H1 _ I1 (stepS (rh := RV W) (f := fo) rl1 (M.mono e1 S) P1)) fun uo s2 ⟨xo, H2, I2, ro, io2, hp2, a2, e2, rl2, r2, P2⟩ => ?_
  refine thn (hi.run pins s2 σ H2 _ I2 (stepS (rh := RV W) (f := fi) rl2 (M.mono (e1.trans e2) S) P2)) fun ui s3 ⟨xi, H3, I3, ri, io3, hp3, a3, e3, rl3, r3, P3⟩ => ?_
  have S3 := M.mono ((e1.trans e2).trans e3) S
  have q2 := r2.mono e3
  have q1 := r1.mono (e2.trans e3)
  have fin : ∀ {H4 : Hp} {s4 : Shared} {h4 : Hep}, putAV a2 a3 a1 hp3 = some h4 → Ext W io3 H3 io3 H4 → Rl W io3 h4 H4 → Inv X pins σ H4 s4 → SP X pins D .next s4 := fun {H4 s4 h4} z e rl4 I4 => by
    rw [z] at P3
    exact ⟨σ, H4, I4, P3 _ _ _ e rl4 (M.mono e S3)⟩
  cases q2 with
  | @ref n p hi' =>
    have P4 : Pss W M E D io3 H3 (match putAV (.ref n) a3 a1 hp3 with
      | some h4 => .nx as h4
      | none => .stuck) := P3
    cases z : hp3[n]? with
    | none =>
      simp only [putAV, z] at P4
      exact P4.elim
    | some ob =>
      cases ob with
      | lst xs =>
        obtain ⟨vs, ev, rvs⟩ := rl3.lst hi' z
        cases r3 with
        | int i =>
          cases z2 : ixN xs.length i with
          | none =>
            simp only [putAV, z, z2] at P4
            exact P4.elim
          | some j =>
            have z3 : putAV (.ref n) (.int i) a1 hp3 = some (hp3.set n (.lst (xs.set j a1))) := by simp only [putAV, z, z2, Option.map_some]
            have eS : Ext W io3 H3 io3 (upd H3 p (.lst (vs.set j xv))) := Ext.set _ ev trivial
            refine thn (set_list pins s3 σ H3 _ _ _ _ _ _ (fun H' => H' = upd H3 p (.lst (vs.set j xv))) I3 ro ri rv ⟨p, vs, i, j, rfl, rfl, ev, by rw [← rvs.len]; exact z2, rfl⟩) fun _ s4 ⟨H4, I4, e4⟩ => ?_
            subst e4
            exact fin z3 eS (rl3.set hi' ev trivial (.lst ((rvs.set j q1).mono eS))) I4
        | _ =>
          simp only [putAV, z] at P4
          exact P4.elim
      | dK kvs =>
        obtain ⟨vs, ev, rvs⟩ := rl3.dK hi' z
        cases z2 : keyOf a3 with
        | none =>
          simp only [putAV, z, z2] at P4
          exact P4.elim
        | some q =>
          by_cases hz : kvs.length < SZ
          · have z3 : putAV (.ref n) a3 a1 hp3 = some (hp3.set n (.dK (dput kvs q a1))) := by simp only [putAV, z, z2, if_pos hz]
            have eS : Ext W io3 H3 io3 (upd H3 p (.dK (putK vs q xv))) := Ext.set _ ev trivial
            have ek := keyOf_in z2 r3
            subst ek
            refine thn (set_dict (ru1 hr) pins s3 σ H3 _ _ _ _ _ _ (fun H' => H' = upd H3 p (.dK (putK vs q xv))) I3 ro ri rv ⟨p, _, rfl, DPut.k ev (by rw [← rvs.len]; exact szT hz), rfl⟩) fun _ s4 ⟨H4, I4, e4⟩ => ?_
            subst e4
            exact fin z3 eS (rl3.set hi' ev trivial (.dK ((RKs.put q q1 rvs).mono eS))) I4
          · simp only [putAV, z, z2, if_neg hz] at P4
            exact P4.elim
      | _ =>
        simp only [putAV, z] at P4
        exact P4.elim
  | _ => exact P3.elim

end
def blkB (N : List Str) (sc scope : Scope) (own : List (Str × Nat)) : Bool :=
  decide (scope.kind = .function) && ((scope.names.all fun y => decide (scope.names.lookup y.1 = some y.2)) && ((own.all fun p => decide (N[p.2]? = some p.1)) &&
    ((scope.names.all fun y => !decide (y.2 = .free) || (decide (sc.names.lookup y.1 = some .cell) || decide (sc.names.lookup y.1 = some .free))) &&
      scope.names.all fun y => !(decide (y.2 = .local) || decide (y.2 = .cell)) || (decide (y.1 ∈ own.map (·.1)) || decide (y.1 ∉ N)))))
theorem blkOk {N : List Str} {sc scope : Scope} {own : List (Str × Nat)} (h : blkB N sc scope own = true) : BlkOk N sc scope own := by
  obtain ⟨h1, h⟩ := He.ba h
  obtain ⟨h2, h⟩ := He.ba h
  obtain ⟨h3, h⟩ := He.ba h
  obtain ⟨h4, h5⟩ := He.ba h
  rw [List.all_eq_true] at h2 h3 h4 h5
  refine ⟨of_decide_eq_true h1, fun y hy => of_decide_eq_true (h2 y hy), fun p hp => of_decide_eq_true (h3 p hp), fun y hy e => ?_, fun y hy e => ?_⟩
  · have z := h4 y hy
    simpa [e] using z
  · have z := h5 y hy
    have e' : (decide (y.2 = .local) || decide (y.2 = .cell)) = true := by simpa using e
    rw [e'] at z
    simpa using z

theorem cdB_ok {K : PySem.W.Frag} (h : cdB K = true) : PySem.W.specialIn K (.builtin "object.__class__") "__get__" = some (some (.builtin "getset_descriptor.__get__")) := He.eqO_ok h
theorem ckB_ok {K : PySem.W.Frag} (h : ckB K = true) : PySem.W.takesIn K (.builtin "object.__class__") = some true := of_decide_eq_true h
end Dn
namespace Dn
open PySem

/-- it comes to a value, of which Q stands -/
def wE {T : Type} (r : R T) (Q : T → Hep → Prop) : Prop := ∃ a h, r = .ok a h ∧ Q a h
/-- it goes on, or returns -/
def wS (r : SR) (N : Sl → Hep → Prop) (V : AV → Hep → Prop) : Prop := match r with
  | .nx s h => N s h
  | .rt v h => V v h
  | _ => False
@[simp] theorem wE_ok {T : Type} {a : T} {h : Hep} {Q : T → Hep → Prop} : wE (.ok a h) Q ↔ Q a h := ⟨fun ⟨_, _, e, q⟩ => (by cases e; exact q), fun q => ⟨_, _, rfl, q⟩⟩
@[simp] theorem wE_bind {T U : Type} {r : R T} {k : T → Hep → R U} {Q : U → Hep → Prop} : wE (r.bind k) Q ↔ wE r fun a h => wE (k a h) Q := by
  constructor
  · rintro ⟨b, h, e, q⟩
    cases r with
    | ok a h1 => exact ⟨a, h1, rfl, b, h, e, q⟩
    | exc t fs h1 => cases e
    | stuck => cases e
  · rintro ⟨a, h, e, b, h2, e2, q⟩
    subst e
    exact ⟨b, h2, e2, q⟩
@[simp] theorem wE_noX {T : Type} {r : R T} {Q : T → Hep → Prop} : wE r.noX Q ↔ wE r Q := by
  cases r <;> simp [R.noX, wE]
@[simp] theorem wE_stuck {T : Type} {Q : T → Hep → Prop} : wE (.stuck : R T) Q ↔ False := ⟨fun ⟨_, _, e, _⟩ => (by cases e), fun h => h.elim⟩
@[simp] theorem wE_exc {T : Type} {t : Nat} {fs : List (Nat × AV)} {h : Hep} {Q : T → Hep → Prop} : wE (.exc t fs h : R T) Q ↔ False := ⟨fun ⟨_, _, e, _⟩ => (by cases e), fun h => h.elim⟩
@[simp] theorem wE_of {T : Type} {o : Op T} {Q : T → Hep → Prop} : wE (R.of o) Q ↔ ∃ a h, o = some (a, h) ∧ Q a h := by
  cases o with
  | none => simp [R.of]
  | some p =>
    obtain ⟨a, h⟩ := p
    show wE (.ok a h) Q ↔ _
    rw [wE_ok]
    exact ⟨fun q => ⟨a, h, rfl, q⟩, fun ⟨_, _, e, q⟩ => by cases e; exact q⟩
@[simp] theorem wS_nx {s : Sl} {h : Hep} {N : Sl → Hep → Prop} {V : AV → Hep → Prop} : wS (.nx s h) N V ↔ N s h := Iff.rfl
@[simp] theorem wS_rt {v : AV} {h : Hep} {N : Sl → Hep → Prop} {V : AV → Hep → Prop} : wS (.rt v h) N V ↔ V v h := Iff.rfl
@[simp] theorem wS_then {r : SR} {k : Sl → Hep → SR} {N : Sl → Hep → Prop} {V : AV → Hep → Prop} : wS (r.then k) N V ↔ wS r (fun s h => wS (k s h) N V) V := by
  cases r <;> simp [SR.then, wS]
@[simp] theorem wS_st {T : Type} {r : R T} {s : Sl} {k : T → Hep → SR} {N : Sl → Hep → Prop} {V : AV → Hep → Prop} : wS (R.st r s k) N V ↔ wE r fun a h => wS (k a h) N V := by
  cases r <;> simp [R.st, wS]
theorem Fr.new {ex : List Nat} {h : Hep} {o : AO} : Fr ex h (h ++ [o]) := ⟨by simp, fun i hi _ => List.getElem?_append_left hi⟩
theorem Fr.app {ex : List Nat} {h g : Hep} : Fr ex h (h ++ g) := ⟨by simp, fun i hi _ => List.getElem?_append_left hi⟩
theorem lt_of {h : Hep} {i : Nat} {o : AO} (e : h[i]? = some o) : i < h.length := (List.getElem?_eq_some_iff.mp e).1

section
variable {T U : Type} {a : T} {h h1 : Hep} {s s1 : Sl} {t : Nat} {fs : List (Nat × AV)} {v : AV}
@[simp] theorem R.bind_ok {k : T → Hep → R U} : (R.ok a h).bind k = k a h := rfl
@[simp] theorem R.bind_exc {k : T → Hep → R U} : (R.exc t fs h : R T).bind k = .exc t fs h := rfl
@[simp] theorem R.bind_stuck {k : T → Hep → R U} : (R.stuck : R T).bind k = .stuck := rfl
@[simp] theorem R.of_some : R.of (some (a, h)) = .ok a h := rfl
@[simp] theorem R.of_none : R.of (none : Op T) = .stuck := rfl
@[simp] theorem R.st_ok {k : T → Hep → SR} : (R.ok a h).st s k = k a h := rfl
@[simp] theorem R.st_exc {k : T → Hep → SR} : (R.exc t fs h : R T).st s k = .exc t fs s h := rfl
@[simp] theorem R.st_stuck {k : T → Hep → SR} : (R.stuck : R T).st s k = .stuck := rfl
@[simp] theorem R.noX_ok : (R.ok a h).noX = .ok a h := rfl
@[simp] theorem SR.then_nx {k : Sl → Hep → SR} : (SR.nx s h).then k = k s h := rfl
@[simp] theorem SR.then_rt {k : Sl → Hep → SR} : (SR.rt v h).then k = .rt v h := rfl
@[simp] theorem SR.then_bk {k : Sl → Hep → SR} : (SR.bk s h).then k = .bk s h := rfl
@[simp] theorem SR.then_ct {k : Sl → Hep → SR} : (SR.ct s h).then k = .ct s h := rfl
@[simp] theorem SR.then_exc {k : Sl → Hep → SR} : (SR.exc t fs s h).then k = .exc t fs s h := rfl
@[simp] theorem SR.then_stuck {k : Sl → Hep → SR} : SR.stuck.then k = .stuck := rfl
@[simp] theorem SR.loop_nx {k : Sl → Hep → SR} : (SR.nx s h).loop k = k s h := rfl
@[simp] theorem SR.loop_ct {k : Sl → Hep → SR} : (SR.ct s h).loop k = k s h := rfl
@[simp] theorem SR.loop_bk {k : Sl → Hep → SR} : (SR.bk s h).loop k = .nx s h := rfl
@[simp] theorem SR.loop_rt {k : Sl → Hep → SR} : (SR.rt v h).loop k = .rt v h := rfl
@[simp] theorem SR.fin_nx : (SR.nx s h).fin = .ok .non h := rfl
@[simp] theorem SR.fin_rt : (SR.rt v h).fin = .ok v h := rfl
@[simp] theorem SR.fin_exc : (SR.exc t fs s h).fin = .exc t fs h := rfl
variable {f g k : DE} {c d : DT} {x y : DS} {fa ga : DA} {r r' : D2} {u : D1} {l : DL} {i j m n q : Nat} {b : Bool} {gt : DG} {gs : DGs} {F : DF} {ix : List Nat} {dfl : List AV} {lo hi : DO} {ty : String} {dm : DMt}
@[simp] theorem xSkip : dSkip s h = .nx s h := rfl
@[simp] theorem xSeq : dSeq x y s h = (x s h).then y := rfl
@[simp] theorem xDrop : dDrop f s h = (f s h).st s fun _ h1 => .nx s h1 := rfl
@[simp] theorem xRet : dRet f s h = (f s h).st s fun v h1 => .rt v h1 := rfl
@[simp] theorem xSet : dSet i f s h = (f s h).st s fun v h1 => .nx (s.set i (some v)) h1 := rfl
theorem xIfS0 : dIfS c x y s h = (c s h).st s fun b h1 => match b with
  | true => x s h1
  | false => y s h1 := rfl
@[simp] theorem xIfS : dIfS c x y s h = (c s h).st s fun b h1 => if b = true then x s h1 else y s h1 := by
  rw [xIfS0]
  congr
  funext b h1
  cases b <;> rfl
@[simp] theorem nx_int {i : Int} : (AV.int i).nx = true := rfl
@[simp] theorem nx_bl {i : Bool} : (AV.bl i).nx = true := rfl
@[simp] theorem nx_str {i : Str} : (AV.str i).nx = true := rfl
@[simp] theorem nx_non : AV.non.nx = true := rfl
@[simp] theorem nx_tup {i : List AV} : (AV.tup i).nx = true := rfl
@[simp] theorem nx_rol {i : List AV} : (AV.rol i).nx = true := rfl
@[simp] theorem nx_ref {i : Nat} : (AV.ref i).nx = true := rfl
@[simp] theorem nx_adr {i : Addr} : (AV.adr i).nx = true := rfl
@[simp] theorem nx_ty {i : String} : (AV.ty i).nx = true := rfl
@[simp] theorem nx_cls {i : Nat} : (AV.cls i).nx = true := rfl
@[simp] theorem nx_exi {i : Nat} : (AV.exi i).nx = true := rfl
def getV (o : Option (Option AV)) (h : Hep) : R AV := match o with
  | some (some v) => if v.nx = true then .ok v h else .stuck
  | _ => .stuck
@[simp] theorem getV_some : getV (some (some v)) h = if v.nx = true then .ok v h else .stuck := rfl
@[simp] theorem getV_none : getV (some none) h = .stuck := rfl
@[simp] theorem getV_no : getV none h = .stuck := rfl
@[simp] theorem xVar : dVar i s h = getV s[i]? h := by
  unfold dVar getV
  cases s[i]? with
  | none => rfl
  | some o =>
    cases o with
    | none => rfl
    | some w => cases w <;> rfl
@[simp] theorem xC : dC v s h = .ok v h := rfl
@[simp] theorem xOp : dOp r f g s h = (f s h).bind fun a h1 => (g s h1).bind fun b h2 => R.of (r a b h2) := rfl
@[simp] theorem xUn : dUn u f s h = (f s h).bind fun a h1 => R.of (u a h1) := rfl
@[simp] theorem xCB : dCB l fa s h = (fa s h).bind fun a h1 => R.of (l a h1) := rfl
@[simp] theorem xNil : dNil s h = .ok [] h := rfl
@[simp] theorem xCons : dCons f fa s h = (f s h).bind fun a h1 => (fa s h1).bind fun b h2 => .ok (a :: b) h2 := rfl
def asB (a : AV) (h : Hep) : R Bool := match a with
  | .bl b => .ok b h
  | _ => .stuck
@[simp] theorem asB_bl : asB (.bl b) h = .ok b h := rfl
@[simp] theorem xTst : dTst f s h = (f s h).bind asB := by
  unfold dTst asB
  rfl
@[simp] theorem xOr : dOr c d s h = (c s h).bind fun b h1 => if b = true then .ok true h1 else d s h1 := by
  unfold dOr
  congr
  funext b h1
  cases b <;> rfl
@[simp] theorem xNot : dNot c s h = (c s h).bind fun b h1 => .ok (!b) h1 := rfl
@[simp] theorem xLst : dLst fa s h = (fa s h).bind fun xs h1 => R.of (mkL xs h1) := rfl
@[simp] theorem xTup : dTup fa s h = (fa s h).bind fun xs h1 => R.of (mkT xs h1) := rfl
def tupK (gs : DGs) (s : Sl) (o : Option (List AV)) : Option Sl := match o with
  | some xs => gs xs s
  | none => none
@[simp] theorem tupK_some {xs : List AV} : tupK gs s (some xs) = gs xs s := rfl
@[simp] theorem xgN {v : AV} : dgN i v s = some (s.set i (some v)) := rfl
@[simp] theorem xgT {v : AV} : dgT gs v s = tupK gs s (tupOf v) := by
  unfold dgT tupK
  rfl
@[simp] theorem xg0 : dg0 [] s = some s := rfl
@[simp] theorem xgC {w : AV} {ws : List AV} : dgC gt gs (w :: ws) s = (gt w s).bind fun s1 => gs ws s1 := rfl
@[simp] theorem tupOf_tup {xs : List AV} : tupOf (.tup xs) = some xs := rfl
def par2K (i j : Nat) (s : Sl) (xs : List AV) (h : Hep) : SR := match xs with
  | [a, b] => .nx ((s.set i (some a)).set j (some b)) h
  | _ => .stuck
@[simp] theorem par2K_two {a b : AV} : par2K i j s [a, b] h = .nx ((s.set i (some a)).set j (some b)) h := rfl
@[simp] theorem xPar2 : dPar2 i j fa s h = (fa s h).st s fun xs h1 => par2K i j s xs h1 := by
  unfold dPar2 par2K
  rfl
@[simp] theorem xCall {fk : DA} : dCallC F n m q ix dfl fa fk s h = (fa s h).bind fun a h1 => (fk s h1).bind fun b h2 => if a.length = n ∧ b.length = m ∧ (sel ix (a ++ dfl ++ b)).length = q then F (sel ix (a ++ dfl ++ b)) h2 else .stuck := rfl
@[simp] theorem sel_nil {α : Type} {xs : List α} : sel [] xs = [] := rfl
@[simp] theorem sel_cons {α : Type} {xs : List α} : sel (i :: ix) xs = match xs[i]? with
  | some x => x :: sel ix xs
  | none => sel ix xs := by
  unfold sel
  rw [List.filterMap_cons]
  cases xs[i]? <;> rfl
@[simp] theorem xMt : dMt ty dm f fa s h = (f s h).bind fun a h1 => if tyA ty h1 a = true then (fa s h1).bind fun b h2 => R.of (dm a b h2) else .stuck := by
  unfold dMt
  rfl
def putK1 (s : Sl) (o : Option Hep) : SR := match o with
  | some h4 => .nx s h4
  | none => .stuck
@[simp] theorem putK1_some : putK1 s (some h) = .nx s h := rfl
@[simp] theorem xPut : dPut f g k s h = (k s h).st s fun v h1 => (f s h1).st s fun o h2 => (g s h2).st s fun i h3 => putK1 s (putAV o i v h3) := by
  unfold dPut putK1
  rfl
end

theorem lt1000 {n : Nat} (h : n < 2 ^ 200) : (n < 2 ^ 1000) = True := eq_true (Nat.lt_of_lt_of_le h (Nat.pow_le_pow_right (by decide) (by decide)))
theorem mulOk_l {i j : Int} (h1 : -(2 ^ 64) < i) (h2 : i < 2 ^ 64) : mulOk i j = true := by
  unfold mulOk
  rw [decide_eq_true (⟨h1, h2⟩ : -(2 ^ 64) < i ∧ i < 2 ^ 64), Bool.true_or]
theorem mulOk_r {i j : Int} (h1 : -(2 ^ 64) < j) (h2 : j < 2 ^ 64) : mulOk i j = true := by
  unfold mulOk
  rw [decide_eq_true (⟨h1, h2⟩ : -(2 ^ 64) < j ∧ j < 2 ^ 64), Bool.true_or, Bool.or_true]
section
variable {h : Hep} {i j : Int}
@[simp] theorem add_ii : addAV (.int i) (.int j) h = some (.int (i + j), h) := rfl
@[simp] theorem mul_ii : mulAV (.int i) (.int j) h = if mulOk i j = true then some (.int (i * j), h) else none := rfl
@[simp] theorem fdiv_ii : fdivAV (.int i) (.int j) h = if 0 < j ∧ j < 1073741824 then some (.int (i / j), h) else none := rfl
@[simp] theorem mod_ii : modAV (.int i) (.int j) h = if 0 < j then some (.int (i % j), h) else none := rfl
@[simp] theorem neg_i : negAV (.int i) h = some (.int (-i), h) := rfl
theorem pow_ii (h0 : 0 ≤ j) (h1 : j ≤ 100) (h2 : i.natAbs < 2 ^ 200) : powAV (.int i) (.int j) h = some (.int (i ^ j.toNat), h) := by
  show (if 0 ≤ j ∧ j ≤ 100 ∧ i.natAbs < 2 ^ 1000 then some (AV.int (i ^ j.toNat), h) else none) = _
  rw [if_pos ⟨h0, h1, by rw [lt1000 h2]; trivial⟩]
@[simp] theorem lt_ii : ltAV (.int i) (.int j) h = some (.bl (decide (i < j)), h) := rfl
@[simp] theorem gt_ii : gtAV (.int i) (.int j) h = some (.bl (decide (j < i)), h) := rfl
@[simp] theorem ge_ii : geAV (.int i) (.int j) h = some (.bl (decide (j ≤ i)), h) := rfl
end
/-- items of a list at a place -/
theorem idx_lst {h : Hep} {n : Nat} {xs : List AV} {i : Int} {v : AV} (e : h[n]? = some (.lst xs)) (k : L2.atI xs i = some v) : idxAV (.ref n) (.int i) h = some (v, h) := by
  simp [idxAV, seqOf, tupOf, lstOf, e, k]
theorem idx_rol {h : Hep} {xs : List AV} {i : Int} {v : AV} (k : L2.atI xs i = some v) : idxAV (.rol xs) (.int i) h = some (v, h) := by
  simp [idxAV, seqOf, tupOf, lstOf, k]
theorem atI_nat {α : Type} {xs : List α} {n : Nat} {v : α} (e : xs[n]? = some v) : L2.atI xs (n : Int) = some v := by
  obtain ⟨hl, _⟩ := List.getElem?_eq_some_iff.mp e
  unfold L2.atI L2.ixN
  rw [if_pos (by omega), if_pos (by omega)]
  simpa using e
theorem put_lst {h : Hep} {n j : Nat} {xs : List AV} {v : AV} (e : h[n]? = some (.lst xs)) (hj : j < xs.length) : putAV (.ref n) (.int j) v h = some (h.set n (.lst (xs.set j v))) := by
  have : L2.ixN xs.length (j : Int) = some j := by
    unfold L2.ixN
    rw [if_pos (by omega), if_pos (by omega)]
    simp
  simp [putAV, e, this]
@[simp] theorem SZ_eq : SZ = 1000000 := rfl
theorem eq_ii {h : Hep} {i j : Int} : eqAV (.int i) (.int j) h = some (.bl (decide (i = j)), h) := by
  show ((if SeqAt.shaped (.int i) = true ∧ SeqAt.shaped (.int j) = true then some (PyData.eqv (.int i) (.int j)) else none).map fun c => (AV.bl c, h)) = _
  rw [if_pos ⟨rfl, rfl⟩]
  simp [PyData.eqv]
  rfl
theorem Fr.set_new {ex : List Nat} {h h' : Hep} {D : Nat} {o : AO} (f : Fr ex h h') (hD : h.length ≤ D) : Fr ex h (h'.set D o) := ⟨by simpa using f.1, fun i hi he => by
  rw [List.getElem?_set_ne (by omega)]
  exact f.2 i hi he⟩
/-- behind the heap's end nothing stands -/
theorem Fr.drop {ex : List Nat} {h h' : Hep} (f : Fr ex h h') (k : ∀ i ∈ ex, h.length ≤ i) : Fr [] h h' := f.mono fun i hi he => absurd hi (Nat.not_lt.mpr (k i he))
theorem two62 : (1000000 : Int) < 2 ^ 62 := by decide
theorem in_bounds {i : Int} (h0 : -1000000 ≤ i) (h1 : i ≤ 1000000) (B : Int) (a : (1000000 : Int) < B) : -B ≤ i ∧ i < B := by omega
theorem dRg1_eq {fa : DA} {s : Sl} {h h1 : Hep} {j : Int} (e : fa s h = .ok [.int j] h1) : dRg1 fa s h = if -(2 ^ 62) ≤ j ∧ j < 2 ^ 62 then .ok (.fix (rngL 0 j.toNat)) h1 else .stuck := by
  unfold dRg1
  rw [e]
  rfl
theorem rg1_ok {fa : DA} {s : Sl} {h h1 : Hep} {j : Int} {n : Nat} (e : fa s h = .ok [.int j] h1) (hj : j = n) (hn : n ≤ 1000000) : dRg1 fa s h = .ok (.fix (rngL 0 n)) h1 := by
  subst hj
  rw [dRg1_eq e, if_pos (in_bounds (by omega) (by omega) _ two62), Int.toNat_natCast]
@[simp] theorem rngL_length {lo : Int} {n : Nat} : (rngL lo n).length = n := by simp [rngL]

/-- data that may be compared -/
def DOk (d : PyData) : Prop := d.canLay0 = true ∧ d.depth < 50
theorem eqD_dr {h : Hep} {a b : AV} {d e : PyData} (ra : Dr h a d) (rb : Dr h b e) (o1 : DOk d) (o2 : DOk e) : eqD a b h = some (PyData.eqv d e) := by
  unfold eqD
  rw [toD_dr ra DD (by have := o1.2; have z : DD = 50 := rfl; omega), toD_dr rb DD (by have := o2.2; have z : DD = 50 := rfl; omega)]
  dsimp only
  rw [if_pos]
  constructor
  · unfold SeqAt.shaped
    rw [o1.1, decide_eq_true (by have := o1.2; omega)]
    rfl
  · unfold SeqAt.shaped
    rw [o2.1, decide_eq_true (by have := o2.2; omega)]
    rfl
theorem eqAV_dr {h : Hep} {a b : AV} {d e : PyData} (ra : Dr h a d) (rb : Dr h b e) (o1 : DOk d) (o2 : DOk e) : eqAV a b h = some (.bl (PyData.eqv d e), h) := by
  unfold eqAV
  rw [eqD_dr ra rb o1 o2]
  rfl
theorem neAV_dr {h : Hep} {a b : AV} {d e : PyData} (ra : Dr h a d) (rb : Dr h b e) (o1 : DOk d) (o2 : DOk e) : neAV a b h = some (.bl (!PyData.eqv d e), h) := by
  unfold neAV
  rw [eqD_dr ra rb o1 o2]
  rfl
/-- things that read as data by a function -/
theorem drA_map {T : Type} {h : Hep} {f : T → AV} {g : T → PyData} (k : ∀ x, Dr h (f x) (g x)) : ∀ l : List T, DrA h (l.map f) (l.map g)
  | [] => .nil
  | x :: l => .cons (k x) (drA_map k l)
theorem eqvAll_map {T : Type} [DecidableEq T] {g : T → PyData} (k : ∀ x y, PyData.eqv (g x) (g y) = decide (x = y)) : ∀ l m : List T, PyData.eqvAll (l.map g) (m.map g) = decide (l = m)
  | [], [] => by simp [PyData.eqvAll]
  | [], _ :: _ => by simp [PyData.eqvAll]
  | _ :: _, [] => by simp [PyData.eqvAll]
  | x :: l, y :: m => by
    simp only [List.map_cons, PyData.eqvAll, k, eqvAll_map k l m, List.cons.injEq, Bool.decide_and]
theorem canAll_map {T : Type} {g : T → PyData} (k : ∀ x, (g x).canLay0 = true) : ∀ l : List T, PyData.canLayAll0 (l.map g) = true
  | [] => by simp [PyData.canLayAll0]
  | x :: l => by simp [PyData.canLayAll0, k x, canAll_map k l]
theorem depthAll_map {T : Type} {g : T → PyData} {n : Nat} (k : ∀ x, (g x).depth ≤ n) : ∀ l : List T, PyData.depthAll (l.map g) ≤ n
  | [] => by simp [PyData.depthAll]
  | x :: l => by
    rw [List.map_cons, depthAll_cons]
    have := k x
    have := depthAll_map k l
    omega
theorem dOk_list {T : Type} {g : T → PyData} {n : Nat} (k : ∀ x, (g x).canLay0 = true) (k2 : ∀ x, (g x).depth ≤ n) (hn : n < 48) (l : List T) : DOk (.list (l.map g)) := by
  refine ⟨?_, ?_⟩
  · rw [PyData.canLay0]
    exact canAll_map k l
  · rw [depth_list]
    have := depthAll_map k2 l
    omega
theorem eq_ss {h : Hep} {x y : Str} (o1 : DOk (.str x)) (o2 : DOk (.str y)) : eqAV (.str x) (.str y) h = some (.bl (x == y), h) := by
  rw [eqAV_dr (.str x) (.str y) o1 o2, PyData.eqv]
theorem dOk_str {x : Str} (h : PyData.strOk x = true) : DOk (.str x) := ⟨by rw [PyData.canLay0]; exact h, by rw [PyData.depth]; decide⟩
theorem eq_st {h : Hep} {x y : Str} {b : Bool} (o1 : PyData.strOk x = true) (o2 : PyData.strOk y = true) (e : (x == y) = b) : eqAV (.str x) (.str y) h = some (.bl b, h) := by
  rw [eq_ss (dOk_str o1) (dOk_str o2), e]
theorem mkL_ok {h : Hep} {xs : List AV} (hz : xs.length ≤ SZ) : mkL xs h = some (.ref h.length, h ++ [AO.lst xs]) := if_pos hz
@[simp] theorem new_at {h : Hep} {o : AO} : (h ++ [o])[h.length]? = some o := by simp
theorem mk_new (xs : List AV) (h : Hep) (hz : xs.length ≤ 1000000) : ∃ m g, mkL xs h = some (.ref m, g) ∧ Fr [] h g ∧ h.length ≤ m ∧ g[m]? = some (.lst xs) := ⟨_, _, mkL_ok hz, Fr.app, Nat.le_refl _, new_at⟩
theorem add_ll {h : Hep} {m n : Nat} {xs ys : List AV} (e1 : h[m]? = some (.lst xs)) (e2 : h[n]? = some (.lst ys)) (hz : xs.length + ys.length ≤ 1000000) : ∃ k g, addAV (.ref m) (.ref n) h = some (.ref k, g) ∧ Fr [] h g ∧ h.length ≤ k ∧ g[k]? = some (.lst (xs ++ ys)) := by
  refine ⟨_, _, ?_, Fr.app, Nat.le_refl _, new_at⟩
  simp only [addAV, e1, e2]
  exact if_pos (by simpa using hz)
theorem two63 : (1000000 : Int) < 2 ^ 63 := by decide
theorem app_ok {h : Hep} {n : Nat} {xs : List AV} {x : AV} (e : h[n]? = some (.lst xs)) (hz : xs.length < 1000000) : mAppend (.ref n) [x] h = some (.non, h.set n (.lst (xs ++ [x]))) := by
  have hl : lstAt h (.ref n) = some (n, xs) := by simp [lstAt, e]
  unfold mAppend
  rw [hl]
  exact if_pos hz
theorem tyA_lst {h : Hep} {n : Nat} {xs : List AV} (e : h[n]? = some (.lst xs)) : tyA "list" h (.ref n) = true := by
  simp [tyA, e]
theorem mul_ref {h : Hep} {m : Nat} {xs : List AV} {k : Nat} (e : h[m]? = some (.lst xs)) (hk : k ≤ 1000) (hz : xs.length ≤ 1000) : ∃ n g, mulAV (.ref m) (.int k) h = some (.ref n, g) ∧ Fr [] h g ∧ h.length ≤ n ∧ g[n]? = some (.lst (List.replicate k xs).flatten) := by
  have hb := in_bounds (i := (k : Int)) (by omega) (by omega) _ two63
  refine ⟨_, _, ?_, Fr.app, Nat.le_refl _, new_at⟩
  unfold mulAV
  dsimp only
  rw [e]
  dsimp only
  rw [if_pos hb, Int.toNat_natCast]
  refine if_pos ?_
  have hl : (List.replicate k xs).flatten.length = k * xs.length := by simp
  rw [hl]
  calc k * xs.length ≤ 1000 * 1000 := Nat.mul_le_mul hk hz
    _ ≤ SZ := Nat.le_refl _
theorem loop_fix {xs : List AV} {g : DG} {body : DS} (I : Nat → Sl → Hep → Prop) (step : ∀ i s h x, xs[i]? = some x → I i s h → ∃ s1 s2 h2, g x s = some s1 ∧ (body s1 h = .nx s2 h2 ∨ body s1 h = .ct s2 h2) ∧ I (i + 1) s2 h2) :
    ∀ (k i : Nat) (s : Sl) (h : Hep), k + i = xs.length → I i s h → ∃ s' h', dLoop (.fix xs) g body (k + 1) i s h = .nx s' h' ∧ I xs.length s' h'
  | k, i, s, h, e, hI => by
    cases z : xs[i]? with
    | none =>
      have hi := List.getElem?_eq_none_iff.mp z
      have : i = xs.length := by omega
      subst this
      refine ⟨s, h, ?_, hI⟩
      simp only [dLoop, Src.next, z]
    | some x =>
      obtain ⟨hi, _⟩ := List.getElem?_eq_some_iff.mp z
      obtain ⟨k, rfl⟩ : ∃ m, k = m + 1 := ⟨k - 1, by omega⟩
      obtain ⟨s1, s2, h2, e1, e2, hI2⟩ := step i s h x z hI
      obtain ⟨s', h', r1, r2⟩ := loop_fix I step k (i + 1) s2 h2 (by omega) hI2
      refine ⟨s', h', ?_, r2⟩
      unfold dLoop
      simp only [Src.next, z, e1]
      rcases e2 with e2 | e2
      · rw [e2]
        exact r1
      · rw [e2]
        exact r1
theorem for_fix {f : DI} {xs : List AV} {g : DG} {body : DS} {s : Sl} {h h1 : Hep} (I : Nat → Sl → Hep → Prop) (ef : f s h = .ok (.fix xs) h1) (h0 : I 0 s h1)
    (step : ∀ i s h x, xs[i]? = some x → I i s h → ∃ s1 s2 h2, g x s = some s1 ∧ (body s1 h = .nx s2 h2 ∨ body s1 h = .ct s2 h2) ∧ I (i + 1) s2 h2) : ∃ s' h', dFor f g body s h = .nx s' h' ∧ I xs.length s' h' := by
  obtain ⟨s', h', e, r⟩ := loop_fix I step xs.length 0 s h1 (by omega) h0
  refine ⟨s', h', ?_, r⟩
  unfold dFor
  rw [ef]
  exact e
end Dn
namespace Dn
open PySem
theorem loop_ret {src : Src} {xs : List AV} {g : DG} {body : DS} (I : Nat → Sl → Hep → Prop) (T : Nat → AV → Hep → Prop) (hs : ∀ i s h, I i s h → src.next i h = some xs[i]?)
    (step : ∀ i s h x, xs[i]? = some x → I i s h → ∃ s1, g x s = some s1 ∧ ((∃ s2 h2, (body s1 h = .nx s2 h2 ∨ body s1 h = .ct s2 h2) ∧ I (i + 1) s2 h2) ∨ ∃ v h2, body s1 h = .rt v h2 ∧ T i v h2)) :
    ∀ (k i : Nat) (s : Sl) (h : Hep), k + i = xs.length → I i s h → (∃ s' h', dLoop src g body (k + 1) i s h = .nx s' h' ∧ I xs.length s' h') ∨ ∃ j v h', dLoop src g body (k + 1) i s h = .rt v h' ∧ T j v h' ∧ j < xs.length
  | k, i, s, h, e, hI => by
    have hn := hs i s h hI
    cases z : xs[i]? with
    | none =>
      have hi := List.getElem?_eq_none_iff.mp z
      have : i = xs.length := by omega
      subst this
      rw [z] at hn
      refine .inl ⟨s, h, ?_, hI⟩
      simp only [dLoop, hn]
    | some x =>
      obtain ⟨hi, _⟩ := List.getElem?_eq_some_iff.mp z
      obtain ⟨k, rfl⟩ : ∃ m, k = m + 1 := ⟨k - 1, by omega⟩
      rw [z] at hn
      obtain ⟨s1, e1, c⟩ := step i s h x z hI
      rcases c with ⟨s2, h2, e2, hI2⟩ | ⟨v, h2, e2, t⟩
      · rcases loop_ret I T hs step k (i + 1) s2 h2 (by omega) hI2 with ⟨s', h', r1, r2⟩ | ⟨j, v, h', r1, r2, r3⟩
        · refine .inl ⟨s', h', ?_, r2⟩
          unfold dLoop
          simp only [hn, e1]
          rcases e2 with e2 | e2
          · rw [e2]
            exact r1
          · rw [e2]
            exact r1
        · refine .inr ⟨j, v, h', ?_, r2, r3⟩
          unfold dLoop
          simp only [hn, e1]
          rcases e2 with e2 | e2
          · rw [e2]
            exact r1
          · rw [e2]
            exact r1
      · refine .inr ⟨i, v, h2, ?_, t, hi⟩
        unfold dLoop
        simp only [hn, e1, e2]
        rfl
theorem for_ret {f : DI} {src : Src} {xs : List AV} {g : DG} {body : DS} {s : Sl} {h h1 : Hep} (I : Nat → Sl → Hep → Prop) (T : Nat → AV → Hep → Prop) (ef : f s h = .ok src h1) (hlen : src.len h1 = xs.length) (hs : ∀ i s h, I i s h → src.next i h = some xs[i]?) (h0 : I 0 s h1)
    (step : ∀ i s h x, xs[i]? = some x → I i s h → ∃ s1, g x s = some s1 ∧ ((∃ s2 h2, (body s1 h = .nx s2 h2 ∨ body s1 h = .ct s2 h2) ∧ I (i + 1) s2 h2) ∨ ∃ v h2, body s1 h = .rt v h2 ∧ T i v h2)) :
    (∃ s' h', dFor f g body s h = .nx s' h' ∧ I xs.length s' h') ∨ ∃ j v h', dFor f g body s h = .rt v h' ∧ T j v h' ∧ j < xs.length := by
  have z := loop_ret I T hs step xs.length 0 s h1 (by omega) h0
  have e : dFor f g body s h = dLoop src g body (xs.length + 1) 0 s h1 := by
    unfold dFor
    rw [ef, R.st_ok, hlen]
  rw [e]
  exact z
theorem next_at {n i : Nat} {xs : List AV} {h : Hep} (e : h[n]? = some (.lst xs)) : (Src.at n).next i h = some xs[i]? := by
  simp [Src.next, e]
theorem len_at {n : Nat} {xs : List AV} {h : Hep} (e : h[n]? = some (.lst xs)) : (Src.at n).len h = xs.length := by
  simp [Src.len, e]
theorem src_ref {f : DE} {s : Sl} {h h1 : Hep} {n : Nat} {xs : List AV} (ef : f s h = .ok (.ref n) h1) (e : h1[n]? = some (.lst xs)) : dSrc f s h = .ok (.at n) h1 := by
  simp [dSrc, ef, e]
end Dn
namespace Dn
open PySem PySem.Spec PyProof.Rows L2

theorem ptW {X : Cx} {e : Expr} {t : TT} (h : PW X e t) : PT X e t := h.pt
def fput : List (Nat × AV) → Nat → AV → List (Nat × AV)
  | [], j, x => [(j, x)]
  | (k, v) :: r, j, x => if k = j then (k, x) :: r else (k, v) :: fput r j x
/-- the instance: its place, its class, its attributes -/
def insAt (h : Hep) (a : AV) : Option (Nat × Nat × List (Nat × AV)) := match a with
  | .ref n => match h[n]? with
    | some (.ins t fs) => some (n, t, fs)
    | _ => none
  | _ => none
section
variable {W : Wd} {io : List Addr} {hp : Hep} {H : Hp}
theorem RFs.put {j : Nat} {s : Str} (hj : W.fn[j]? = some s) {x : AV} {v : V} (rx : RV W io H x v) : ∀ {fs : List (Nat × AV)} {vs : List (Str × V)}, RFs W io H fs vs → RFs W io H (fput fs j x) (putF s v vs)
  | _, _, .nil => .cons hj rx .nil
  | _, _, .cons (q := q) (s := s') hq r t => by
    unfold fput putF
    by_cases e : q = j
    · subst e
      have es : s' = s := Option.some.inj (hq.symm.trans hj)
      rw [if_pos rfl, if_pos es]
      exact .cons hq rx t
    · have ne : s' ≠ s := fun z => e (fn_inj (hq.trans (by rw [z])) hj)
      rw [if_neg e, if_neg ne]
      exact .cons hq r (RFs.put hj rx t)
end

def setfK (s : Sl) (j : Nat) (v : AV) (o : Option (Nat × Nat × List (Nat × AV))) (h : Hep) : SR := match o with
  | some (n, t, fs) => if fs.length < 900 then .nx s (h.set n (.ins t (fput fs j v))) else .stuck
  | none => .stuck
section
variable {W : Wd} {M : Md W} {E : WX} {X : Cx} {e o value : Expr} {f fo fv : DE} {x : Str} {j : Nat} {pos pos' tpos : Pos}
end

section
variable {W : Wd} {M : Md W} {E : WX} {X : Cx} {k j n m q t : Nat} {f : Addr} {fd : FuncData} {ps ks : List Str} {F : DF} {x : Str} {p pos apos kpos : Pos} {e o : Expr} {es : List Expr} {kws : List Keyword} {fa fk : DA} {fe fo : DE} {ix : List Nat} {dfl : List AV} {bs : Bs}
end
end Dn
namespace Dn
open PySem PySem.Spec PyProof.Rows L2

section
variable {W : Wd} {M : Md W} {E : WX} {X : Cx} {e : Expr} {f g : DE}
end

section
variable {W : Wd} {M : Md W} {E : WX} {X : Cx} {k j n t : Nat} {ps : List Str} {F : DF} {x : Str} {p pos apos : Pos} {e e' o : Expr} {f g fo : DE}
variable {G : Value → Value → Sem Value} {r r' : DX}
end
end Dn
namespace Dn
open PySem PySem.Spec PyProof.Rows L2

section
variable {M : Model} {prog : Program} {w : World} {A : Around} {E : Value → Shared → Prop} {s : Shared} {K : PySem.W.Frag} {x C f : Addr} {ox : Obj} {od : Option Obj} {b tb : Value}
end
end Dn
namespace Dn
open PySem PySem.Spec PyProof.Rows L2
section
variable {W : Wd} {M : Md W} {E : WX} {X : Cx} {k j n t : Nat} {ps : List Str} {F : DF} {x : Str} {p pos apos : Pos} {e e' o : Expr} {f g fo : DE}
variable {ct : CT}
end
end Dn
namespace Dn
open PySem PySem.Spec PyProof.Rows L2
section
variable {W : Wd} {M : Md W} {E : WX} {X : Cx} {k j n m q t : Nat} {ps ks : List Str} {F : DF} {x : Str} {p pos apos : Pos} {e o : Expr} {es : List Expr} {kws : List Keyword} {f fo : DE} {fa fk : DA} {ix : List Nat} {dfl : List AV} {bs : Bs}
end
end Dn
namespace Dn
open PySem PySem.Spec PyProof.Rows L2

theorem clB_ok {K : PySem.W.Frag} {C : Addr} (h : clB K C = true) : Cls K C ∧ PySem.W.findIn K (.ref C) "__class__" = some (some (.builtin "object.__class__")) ∧ PySem.W.mroIn K C (.type "object") = some true := by
  obtain ⟨h1, h⟩ := He.ba h
  obtain ⟨h2, h⟩ := He.ba h
  obtain ⟨h3, h⟩ := He.ba h
  obtain ⟨h4, h⟩ := He.ba h
  obtain ⟨h5, h6⟩ := He.ba h
  exact ⟨⟨h1, h2, h3, He.eqO_ok h4⟩, He.eqO_ok h5, of_decide_eq_true h6⟩
theorem allN_ok {n : Nat} {p : Nat → Bool} (h : allN n p = true) (t : Nat) (ht : t < n) : p t = true := List.all_eq_true.mp h t (List.mem_range.mpr ht)
theorem DefF.fun_ {d : DefF} {K : PySem.W.Frag} (e : d.look K = d.want) (c : d.good K = true) : ∃ g, FunD K d.nm d.ql d.pr d.bd d.sp (d.dl.map (He.Dv.v K)) (d.kw.map fun q => (q.1, q.2.v K)) (d.ad K) g := by
  obtain ⟨kp, c2⟩ := He.ba c
  unfold DefF.look at e
  cases q : K.lookup (d.ad K) with
  | none =>
    rw [q] at c2
    cases c2
  | some o =>
    obtain ⟨o1, o2, o3, o4⟩ := o
    rw [q] at c2 e
    cases o3 with
    | func g =>
      obtain ⟨m1, m2, m3, m4, m5, m6, m7, m8, m9, m10, m11, m12, m13, m14, m15⟩ := g
      have e2 : (some (m1, m2, m3, m4, m5, m6, m7, m15) : He.FnW) = some (d.nm, d.ql, d.pr, .stmts d.bd, d.sp, mainGlobals, [], builtinsNs) := e
      simp only [Option.some.injEq, Prod.mk.injEq] at e2
      obtain ⟨g1, g2, g3, g4, g5, g6, g7, g8⟩ := e2
      subst g1 g2 g3 g4 g5 g6 g7 g8
      have c3 : (PySem.W.codeIn K m13 d.ql && (He.dflB K m8 (d.dl.map (He.Dv.v K)) && He.kwdB K m9 (d.kw.map fun q => (q.1, q.2.v K)))) = true := c2
      obtain ⟨k1, k2⟩ := He.ba c3
      obtain ⟨k3, k4⟩ := He.ba k2
      exact ⟨_, ⟨o1, o2, m8, m9, m10, m11, m12, m13, m14, o4, rfl, q, k1, He.dflB_ok k3, He.kwdB_ok k4⟩, kp⟩
    | _ => cases c2
section
variable {fa : List He.Fa} {fn : List DefF} {xt : List (PySem.W.Frag → Bool)} {K : PySem.W.Frag}
theorem SaysF.fact (c : SaysF fa fn xt K) (i : Nat) {f : He.Fa} (h : fa[i]? = some f := by rfl) : f.ok K = true := List.all_eq_true.mp c.one.1 f (List.mem_of_getElem? h)
theorem SaysF.def_ (c : SaysF fa fn xt K) (i : Nat) {d : DefF} (h : fn[i]? = some d := by rfl) : ∃ g, FunD K d.nm d.ql d.pr d.bd d.sp (d.dl.map (He.Dv.v K)) (d.kw.map fun q => (q.1, q.2.v K)) (d.ad K) g := by
  have e : fn.map (fun d => d.look K) = fn.map DefF.want := congrArg (fun z : AlF => z.2) c
  have e2 : (fn.map fun d => d.look K)[i]? = (fn.map DefF.want)[i]? := by rw [e]
  rw [List.getElem?_map, List.getElem?_map, h] at e2
  exact DefF.fun_ (Option.some.inj e2) (List.all_eq_true.mp c.one.2.1 d (List.mem_of_getElem? h))
end
/-- a name of an attribute -/
theorem fnx {W : Wd} {fn : List Str} (h : W.fn = fn) {i : Nat} {x : Str} (e : fn[i]? = some x) : W.fn[i]? = some x := by
  rw [h]
  exact e
section
variable {P : Program} {w : World} {mg : Str → Option Value} {base : Heap} {W : Wd} {k n t : Nat} {f : Addr} {fd : FuncData} {ps : List Str} {F : DF} {bs : Bs} {x : Str}
end
section
variable {W : Wd} {x qual : Str} {params : Arguments} {body : List Stmt} {scope : Scope} {dvs : List V} {kws : List (Str × V)} {f : Addr} {fd : FuncData} {ps : List Str}
end
end Dn
namespace Dn
open PySem
section
variable {T : Type} {a b v : AV} {h h1 : Hep} {s : Sl} {t i j n m q c : Nat} {f g k : DE} {fa fk : DA} {F : DF} {ix : List Nat} {dfl : List AV} {fs : List (Nat × AV)} {r r' : DX} {r2 : D2} {ct : CT}
@[simp] theorem fget_nil : fget [] j = none := rfl
@[simp] theorem fget_cons : fget ((i, v) :: fs) j = if i = j then some v else fget fs j := rfl
@[simp] theorem fput_nil : fput [] j v = [(j, v)] := rfl
@[simp] theorem fput_cons : fput ((i, a) :: fs) j v = if i = j then (i, v) :: fs else (i, a) :: fput fs j v := rfl
@[simp] theorem setfK_some : setfK s j v (some (n, t, fs)) h = if fs.length < 900 then .nx s (h.set n (.ins t (fput fs j v))) else .stuck := rfl
@[simp] theorem ofX_eq : ofX r2 a b h = R.of (r2 a b h) := rfl
end
end Dn
namespace Dn
open PySem PySem.Spec PyProof.Rows L2
section
variable {W : Wd} {X : Cx}
end
end Dn
namespace Dn
open PySem PySem.Spec PyProof.Rows L2
section
variable {W : Wd} {M : Md W} {E : WX} {X : Cx}
end
section
variable {W : Wd} {M : Md W} {E : WX} {X : Cx} {k j n t : Nat} {ps : List Str} {F : DF} {x : Str} {p pos apos : Pos} {e e' o : Expr} {f g fo : DE}
end
end Dn
namespace Dn
open PySem PySem.Spec PyProof.Rows L2
section
variable {prog : Program} {w : World} {A : Around} {E : Value → Shared → Prop} {s : Shared}
end
section
variable {X : Cx}
end
section
variable {W : Wd} {M : Md W} {E : WX} {X : Cx} {k : Nat}
end
end Dn
namespace PySem
namespace DX
open PySem.W PySem.Calls PyProof.Rows
theorem newF_KeyError : NewF "LookupError" "LookupError.__new__" bmKey :=
  have F := PySem.F.excBase_LookupError
  ⟨F.newSplit, F.newKind, F.newRow, by decide +kernel, by decide +kernel, by decide +kernel, F.canon, F.entry, F.ends, F.owner, F.quiet, F.noStar⟩
theorem newF_ValueError : NewF "ValueError" "ValueError.__new__" [.type "ValueError", .type "Exception", .type "BaseException", .type "object"] := NewF.of PySem.F.excBase_ValueError
theorem newF_IndexError : NewF "IndexError" "IndexError.__new__" [.type "IndexError", .type "LookupError", .type "Exception", .type "BaseException", .type "object"] := NewF.of PySem.F.excBase_IndexError
theorem newF_LookupError : NewF "LookupError" "LookupError.__new__" [.type "LookupError", .type "Exception", .type "BaseException", .type "object"] := NewF.of PySem.F.excBase_LookupError
theorem keyStore : StoreFacts "KeyError" bmKey "object.__setattr__" "object" := by
  have G := PySem.F.store_IndexError
  refine ⟨by kernel_rfl, ?_, G.entry, G.kind, G.split, G.hasOwner, G.args, fun v => by kernel_rfl⟩
  refine Slot.of (owner := "object") (n := "__setattr__") ?_ (by decide +kernel) (by decide +kernel) (by decide +kernel) ?_ ?_
  · rw [typeLookup_type, builtinLookup_eq_fast]
    kernel_rfl
  · first
      | exact .inl (by decide +kernel)
      | exact .inr (by decide +kernel)
  · rw [isSubtype_type]
    kernel_rfl
section
variable {md : Model} {ar : Around} {ex : Value → Shared → Prop} {hp : Heap} {gs : Array GenState} {dr : Drawn} {tc : Nat} {ops : OsState}
variable {cn qn : Str} {C N : Addr} {bs bm bmB : List Value} {hd : Bool} {sl : List Str} {sb : List Value} {ab : Bool} {col : Option Bool} {dd : Option Addr} {k0 k1 k2 k3 k5 : Option Value} {O nid : String}
end
section
variable {prog : Program} {w : World} {ar : Around} {ex : Value → Shared → Prop} {R : Result → Shared → Prop} {hp : Heap} {gs : Array GenState} {dr : Drawn} {tc : Nat} {ops : OsState}
variable {cn qn : Str} {C N : Addr} {bs bm bmB : List Value} {hd : Bool} {sl : List Str} {sb : List Value} {ab : Bool} {col : Option Bool} {dd : Option Addr} {k0 k1 k2 k3 k5 : Option Value} {O nid : String}
end
section
variable {prog : Program} {w : World} {A : Around} {R : Result → Shared → Prop} {g : Array GenState} {d : Drawn} {tt : Nat} {os : OsState}
/-- the first field of a new exception, over any built-in base -/
theorem first_field {K : Frag} {G : Heap} {nm : Str} {tk : Tok} {u : Value} {e C t1 : Addr} {B : String} {bmB : List Value} (SF : StoreFacts B bmB "object.__setattr__" "object") (kin : K.In G) (he : G.get? e = some (excObj C t1 none .none))
    (h1 : excOver K C bmB = true) (h2 : takerIn K C nm = some none) (h3 : hasDictIn K C = true)
    (fin : ∀ G' tk' dx, (∀ b o, b ≠ e → G.get? b = some o → G'.get? b = some o) → G.objs.size ≤ dx → dx ≠ e → G'.get? e = some (excObj C t1 (some dx) .none) → G'.Ns1 dx (fun y => if y = nm then some u else none) → R (.ok (.ret .none)) ⟨G', g, d, tk', os⟩) :
    codeAny (model prog w) A (.call (.builtin "object.__setattr__") ⟨[.ref e, .str nm tk, u], []⟩) R ⟨G, g, d, tt, os⟩ := by
  have ne : e ≠ G.objs.size := Nat.ne_of_lt (Heap.lt_size he)
  refine osa_openX (od := none) SF kin ⟨he, rfl, rfl, trivial⟩ h1 h2 fun b => ?_
  obtain ⟨cd, c1, c2⟩ := any_some h3
  refine wpAny_bind (wpAny_pure (wpAny_bind (instanceDict_exc he (looks_clsIn kin c1) c2 ?_)))
  refine HandSPX.store_in_new ⟨_, #[], _, (Heap.get?_update_ne _ _ _ _ ne.symm).trans (Heap.get?_push_at rfl rfl), rfl, fun x hx => absurd hx (by simp), fun _ => rfl⟩ fun G' tk' ns same => ?_
  have he' : (G.push (dictOf [] 0)).get? e = some (excObj C t1 none .none) := Heap.get?_push_of_some _ he
  have z1 : ((G.push (dictOf [] 0)).update e fun o => { o with dict := some G.objs.size }).get? e = some (excObj C t1 (some G.objs.size) .none) := Heap.get?_update_self _ he' rfl
  refine fin G' tk' G.objs.size (fun b o hb hbo => ?_) (Nat.le_refl _) ne.symm ((same.2 e ne).trans z1) ns
  have z2 := Heap.get?_push_of_some (dictOf [] 0) hbo
  exact (same.2 b (Nat.ne_of_lt (Heap.lt_size hbo))).trans ((Heap.get?_update_ne _ _ _ _ hb).trans z2)
end
end DX
end PySem

namespace Dn
open PySem PySem.Spec PyProof.Rows L2

section
variable {X : Cx} {pins : List (Addr × Obj)} {σ : L2.St} {H : Hp} {s : Shared} {e C : Addr} {nm : Str} {y : V} {u : Value} {Q : Unit → Shared → Prop} {E : Value → Shared → Prop} {A : Around} {B newId initId : String} {bmB : List Value}
theorem xi_store (SF : StoreFacts B bmB "object.__setattr__" "object") (T : Xi X.K C bmB newId nm) (I : Inv X pins σ H s) (he : H e = some (exo e C none)) (ry : RelV y u)
    (fin : ∀ dx s', H dx = none → dx ≠ e → Inv X pins σ (upd (upd H dx (exd dx [(nm, y)])) e (exo e C (some dx))) s' → Q () s') : wpAny (model X.prog X.w) A (setAttr (.ref e) nm u) Q E s := by
  obtain ⟨t1, z⟩ := exo_at I.hok he
  obtain ⟨G, gs, dr, tk, os⟩ := s
  refine PySem.W.set_plain I.kIn (ox := PySem.W.excObj C t1 none .none) (od := none) ⟨z, rfl, rfl, trivial⟩ T.sat ?_
  refine PySem.DX.first_field SF I.kIn z T.ovr T.tkr T.dct fun G' tk' dx kp big ndx ze ns => ?_
  have fresh : H dx = none := I.hok.fresh big
  have far : ∀ {b : Addr} {o : Obj}, G.get? b = some o → b ≠ dx := fun q => Nat.ne_of_lt (Nat.lt_of_lt_of_le (Heap.lt_size q) big)
  have off : ∀ {b : Addr}, H b = none → b ≠ e := fun n q => by
    subst q
    rw [he] at n
    cases n
  have U : Un X.fs [] H (upd (upd H dx (exd dx [(nm, y)])) e (exo e C (some dx))) G G' := by
    refine ⟨fun b o q n _ _ => kp b o (off n) q, fun b o q n _ _ => ⟨o.slots, kp b o (off n) q⟩, fun b o q n _ => ?_, fun b o q _ => ?_, fun b xs q => ?_, fun b o v q => ?_, fun b ps q => ?_⟩
    · rw [upd_ne (off n), upd_ne (far q)]
      exact n
    · by_cases hb : b = e
      · subst hb
        exact ⟨_, ze⟩
      · exact ⟨o, kp b o hb q⟩
    · rw [upd_ne (at_ne he q exo_tup), upd_ne (ne_of_none q fresh)]
      exact q
    · rw [upd_ne (at_ne he q exo_frz), upd_ne (ne_of_none q fresh)]
      exact q
    · refine ⟨#[], ?_⟩
      rw [upd_ne (at_ne he q exo_tbl), upd_ne (ne_of_none q fresh), q]
      simp
  refine fin dx _ fresh ndx (I.un (t' := tk') U fun b o q => ?_)
  by_cases hb : b = e
  · subst hb
    rw [upd_same] at q
    cases q
    exact exo_ok ze
  by_cases hd : b = dx
  · subst hd
    rw [upd_ne hb, upd_same] at q
    cases q
    exact exd_ok ns (relO_put (fs := []) ry fun _ => True.intro)
  rw [upd_ne hb, upd_ne hd] at q
  refine (I.hok b o q).stay (fun c v hc z => kp c v ?_ z) (fun c hc => ?_) (fun c xs hc => ?_)
  · rcases hc with hc | hc
    · rw [hc]
      exact hb
    · exact at_ne he hc exo_own
  · rw [upd_ne (at_ne he hc exo_own), upd_ne (ne_of_none hc fresh)]
    exact hc
  · rw [upd_ne (at_ne he hc exo_tup), upd_ne (ne_of_none hc fresh)]
    exact hc
/-- self.f = e, in such an __init__ -/
def tXiS (K : PySem.W.Frag) (bmB : List Value) (newId : String) (nm : Str) (to te : TE) : TS := fun D σ H => te σ H fun y H1 => to σ H1 fun x H2 => ∃ e C : Addr, x = .ref e ∧ Xi K C bmB newId nm ∧ H2 e = some (exo e C none) ∧
  ∀ dx, H2 dx = none → dx ≠ e → D.nx σ (upd (upd H2 dx (exd dx [(nm, y)])) e (exo e C (some dx)))
theorem ps_xiS {o v : Expr} {to te : TE} {p pos : Pos} (SF : StoreFacts B bmB "object.__setattr__" "object") (ho : PE X o to) (hv : PE X v te) (hs : swapsWith v (some (.Attribute o nm p)) pos.line X.env = pure false := by rfl) :
    PS X (.Assign [.Attribute o nm p] v pos) (tXiS X.K bmB newId nm to te) := ⟨fun pins s σ H D I h => by
  refine plainObj_wpAny_Assign_Attribute (thn (hv.run pins s σ H _ I h) fun v1 s1 h1 => ?_) hs
  obtain ⟨y, H1, I1, r1, q1⟩ := h1
  refine thn (ho.run pins s1 σ H1 _ I1 q1) fun v2 s2 h2 => ?_
  obtain ⟨x, H2, I2, r2, e, C, rfl, T, he, q⟩ := h2
  cases (show v2 = Value.ref e from r2)
  exact xi_store SF T I2 he r1 fun dx s' f n J => ⟨σ, _, J, q dx f n⟩⟩
/-- the promise of such an __init__ -/
def spXi (K : PySem.W.Frag) (bmB : List Value) (newId : String) (nm : Str) : Sp := fun vs H Q _ => ∃ (e C : Addr) (y : V), vs = [.ref e, y] ∧ Xi K C bmB newId nm ∧ H e = some (exo e C none) ∧ ∀ dx, H dx = none → dx ≠ e → Q .non (upd (upd H dx (exd dx [(nm, y)])) e (exo e C (some dx)))
end
/-- def __init__(self, x): self.nm = x -/
theorem xi_init {P : Program} {w : World} {mg : Str → Option Value} {base : Heap} {K : PySem.W.Frag} {q x0 x1 nm : Str} {f : Addr} {fd : FuncData} {params : Arguments} {scope : Scope} {bmB : List Value} {newId B : String} {p1 p2 p3 pos : Pos} {dvs : List V} {kws : List (Str × V)} {fn : Str}
    (SF : StoreFacts B bmB "object.__setattr__" "object") (F : FunD K fn q params [.Assign [.Attribute (.Name x0 p1) nm p2] (.Name x1 p3) pos] scope dvs kws f fd) (S : FnScope [x0, x1] [x0, x1] scope)
    (hb : ∀ (cdv : Value) (A : Around) (outer : List Env) (s : Shared) (H : Hp) (E : XK), PS (cxOf (L2.CX P w) P w K mg base [x0, x1] q scope f cdv A outer s H E) (.Assign [.Attribute (.Name x0 p1) nm p2] (.Name x1 p3) pos) (tXiS K bmB newId nm (tVar 0) (tVar 1))) :
    FnOk P w K mg base (L2.CX P w) 1 f fd [x0, x1] (spXi K bmB newId nm) := by
  refine F.ok (k := 0) S (fun vs H Q E h => ?_) fun cdv A outer s H vs Q E hr h => ⟨_, pss_one (hb cdv A outer s H E), ?_⟩
  · obtain ⟨e, C, y, rfl, _⟩ := h
    rfl
  · obtain ⟨e, C, y, rfl, T, he, q⟩ := h
    exact ⟨y, rfl, .ref e, rfl, e, C, rfl, T, he, q⟩
section
variable {X : Cx} {E : WX} {C : Addr} {nm : Str} {B newId initId : String} {bmB : List Value} {x : Str} {p pos : Pos} {e : Expr}
end
end Dn
namespace Dn
open PySem PySem.Spec PyProof.Rows L2

def Lnd (X : Cx) (pins : List (Addr × Obj)) (σ : L2.St) (H : Hp) (a : Addr) (cls : Value) (d : Option Addr) (s : Shared) : Prop :=
  ∃ (B : Heap) (sI : Shared), Inv X pins σ H sI ∧ (∀ b o, sI.heap.get? b = some o → b ∉ frs X.stack → B.get? b = some o) ∧ sI.heap.UpToSlots s.heap ∧ HandSPX.FlyingZ B X.stack a (Zc cls d) s.heap ∧ H a = none ∧ s.os = sI.os ∧ AllBare s.gens
section
variable {X : Cx} {pins : List (Addr × Obj)} {σ : L2.St} {H : Hp} {a : Addr} {cls : Value} {d : Option Addr} {s : Shared} {D : Ends}
/-- its object, and that it is no frame -/
theorem Lnd.obj (l : Lnd X pins σ H a cls d s) (hs : X.stack = X.env :: X.outer) (hf : X.env.frame = some X.env.locals) : ∃ oe vs, s.heap.get? a = some oe ∧ Zc cls d oe ∧ oe.data = .fields vs ∧ a ≠ X.env.locals ∧ a ∉ X.fs ∧ H a = none := by
  obtain ⟨B, sI, J, nb, up, fl, na, os, ag⟩ := l
  obtain ⟨oe, vs, z1, z2, z3⟩ := fl.there
  have no : a ∉ frs X.stack := fun hm => by
    obtain ⟨_, o', e', hn⟩ := fl.2.2.1.mem hm
    rw [z1] at e'
    cases e'
    exact hn _ z3
  refine ⟨oe, vs, z1, z2, z3, fun z => no ?_, fun hm => no ?_, na⟩
  · rw [hs]
    exact List.mem_filterMap.mpr ⟨X.env, List.mem_cons_self, by rw [hf, z]⟩
  · rw [hs]
    obtain ⟨e, he, q⟩ := List.mem_filterMap.mp hm
    exact List.mem_filterMap.mpr ⟨e, List.mem_cons_of_mem _ he, q⟩
variable {hds : List ExceptHandler} {x n : Str} {np pos : Pos} {b₀ : Stmt} {suite : List Stmt} {c : Value} {i : Nat}
end
end Dn
namespace Dn
open PySem PySem.Spec PyProof.Rows L2

def SR.noX : SR → SR
  | .exc _ _ _ _ => .stuck
  | r => r
def tyLook (l : List (Nat × String × Bool)) (t : Nat) (n : String) : Option Bool := match l with
  | [] => none
  | (t', n', b) :: r => if t' = t ∧ n' = n then some b else tyLook r t n
/-- a class without own __init__ -/
def HasX0 (mg : Str → Option Value) (W : Wd) (t : Nat) (x : Str) : Prop := ∃ (B newId initId : String) (bmB : List Value), ExcBaseFacts B newId initId bmB ∧ PySem.W.excIn W.K (W.cl t) bmB newId = true ∧ mg x = some (.ref (W.cl t)) ∧ PySem.W.keepIn W.K (.ref (W.cl t)) = true ∧
  PySem.W.subIn W.K (.ref (W.cl t)) (.type "BaseException") = some true ∧ PySem.W.typeIn W.K (.ref (W.cl t)) = some (.type "type")
/-- a class whose own __init__ stores its argument as attribute j -/
def HasXI (P : Program) (w : World) (mg : Str → Option Value) (base : Heap) (W : Wd) (t j : Nat) (x : Str) : Prop := ∃ (B newId : String) (bmB : List Value) (nm : Str) (fI : Addr) (fd : FuncData) (ps : List Str), PySem.DX.NewF B newId bmB ∧ W.fn[j]? = some nm ∧ Xi W.K (W.cl t) bmB newId nm ∧
  PySem.W.findIn W.K (.ref (W.cl t)) "__init__" = some (some (.ref fI)) ∧ PySem.W.typeIn W.K (.ref fI) = some (.type "function") ∧ FnOk P w W.K mg base (L2.CX P w) 1 fI fd ps (spXi W.K bmB newId nm) ∧ Binds W.K fd ps [] ∧ mg x = some (.ref (W.cl t))
section
variable {W : Wd} {M : Md W} {E : WX} {X : Cx} {t j k : Nat} {x : Str} {e : Expr} {f : DE} {p p2 pos : Pos}
end

section
variable {W : Wd} {X : Cx} {T : XT}
end
section
variable {W : Wd} {X : Cx} {T : XT} {E : WX} {a : Addr} {oe : Obj} {pn : List (Addr × Obj)} {i j t : Nat} {fs : List (Nat × AV)} {d : Option Addr} {x nm : Str} {p pos : Pos}
theorem tyLook_in : ∀ {l : List (Nat × String × Bool)} {t : Nat} {n : String} {b : Bool}, tyLook l t n = some b → (t, n, b) ∈ l
  | [], _, _, _, h => by cases h
  | (t', n', b') :: r, t, n, b, h => by
    unfold tyLook at h
    by_cases e : t' = t ∧ n' = n
    · rw [if_pos e] at h
      cases h
      obtain ⟨rfl, rfl⟩ := e
      exact List.mem_cons_self
    · rw [if_neg e] at h
      exact List.mem_cons_of_mem _ (tyLook_in h)
end
end Dn
namespace Dn
open PySem PySem.Spec PyProof.Rows L2

section
variable {X : Cx}
theorem vt (i : Nat) {x : Str} {pos : Pos} (hN : X.N[i]? = some x := by rfl) (hv : Vis X.env.scope x := by first | exact Or.inl rfl | exact Or.inr (Or.inl rfl) | exact Or.inr (Or.inr rfl)) (hd : (x == ("__debug__" : Str)) = false := by decide)
    (hcd : (x == ("__classdict__" : Str)) = false := by decide) : PE X (.Name x pos) (tVar i) := pe_var hN hv hd hcd
end
theorem bt_ValueError : bootBuiltins "ValueError" = some (.type "ValueError") := by decide +kernel
theorem bt_IndexError : bootBuiltins "IndexError" = some (.type "IndexError") := by decide +kernel
theorem bt_KeyError : bootBuiltins "KeyError" = some (.type "KeyError") := by decide +kernel
theorem bt_LookupError : bootBuiltins "LookupError" = some (.type "LookupError") := by decide +kernel
theorem bt_RuntimeError : bootBuiltins "RuntimeError" = some (.type "RuntimeError") := by decide +kernel

def mkWX (K : PySem.W.Frag) (cs xs fn : List Str) (sub : Nat → Nat → Bool) (hn : fn.Nodup) (h : wdXB cs xs fn sub K = true) (h1 : PySem.W.specialIn K (.builtin "object.__class__") "__get__" = some (some (.builtin "getset_descriptor.__get__"))) (h2 : PySem.W.takesIn K (.builtin "object.__class__") = some true) : Wd where
  K := K
  cl := clOf K (cs ++ xs)
  fn := fn
  fnd := hn
  ct := ctOf cs.length sub
  cg := fun t ht => clB_ok (He.ba (allN_ok h t (of_decide_eq_true ht))).1
  cd := h1
  ck := h2
  ctf := fun n t hn ht => by
    have h3 := (He.ba (He.ba (He.ba (allN_ok h t (of_decide_eq_true ht))).2).2).1
    exact of_decide_eq_true (He.ba (List.all_eq_true.mp h3 n hn)).1
  cty := fun n t hn ht => by
    have h3 := (He.ba (He.ba (He.ba (allN_ok h t (of_decide_eq_true ht))).2).2).1
    exact of_decide_eq_true (He.ba (List.all_eq_true.mp h3 n hn)).2
  csf := fun s t hs ht => by
    have h3 := (He.ba (He.ba (He.ba (He.ba (allN_ok h t (of_decide_eq_true ht))).2).2).2).1
    exact of_decide_eq_true (He.ba (allN_ok h3 s (of_decide_eq_true hs))).1
  cks := fun t ht => (clB_ok (He.ba (allN_ok h t (of_decide_eq_true ht))).1).1
  cb := fun t ht => (He.ba (He.ba (allN_ok h t (of_decide_eq_true ht))).2).1
  css := fun s t hs ht => by
    have h3 := (He.ba (He.ba (He.ba (He.ba (allN_ok h t (of_decide_eq_true ht))).2).2).2).1
    exact of_decide_eq_true (He.ba (allN_ok h3 s (of_decide_eq_true hs))).2
  noat := fun t s ht hs => by
    have h3 := (He.ba (He.ba (He.ba (He.ba (allN_ok h t (of_decide_eq_true ht))).2).2).2).2
    exact He.eqO_ok (List.all_eq_true.mp h3 s hs)
theorem xwB_ok {W : Wd} {cs : List Str} {T : XT} (hc : W.cl = clOf W.K cs) (h : xwB cs W.fn T W.K = true) : XWd W T := by
  obtain ⟨h1, h2⟩ := He.ba h
  have at_ : ∀ t, T.n ≤ t → t < T.m → xcB W.fn W.K (W.cl t) = true ∧ allN (T.m - T.n) (fun j => decide (PySem.W.exmOne W.K (.ref (clOf W.K cs t)) (.ref (clOf W.K cs (T.n + j))) = some (T.sub t (T.n + j)))) = true := fun t a b => by
    have z := He.ba (allN_ok h1 (t - T.n) (by omega))
    rw [show T.n + (t - T.n) = t by omega, ← hc] at z
    rw [← hc]
    exact z
  have xc : ∀ t, T.n ≤ t → t < T.m → xfB W.K (W.cl t) = true ∧ (W.fn.all fun x => He.eqO (PySem.W.findIn W.K (.ref (W.cl t)) x) (some none)) = true ∧ He.eqO (PySem.W.findIn W.K (.ref (W.cl t)) "__class__") (some (some (.builtin "object.__class__"))) = true ∧ decide (PySem.W.mroIn W.K (W.cl t) (.type "object") = some true) = true := fun t a b => by
    obtain ⟨z1, z⟩ := He.ba (at_ t a b).1
    obtain ⟨z2, z⟩ := He.ba z
    exact ⟨z1, z2, He.ba z⟩
  refine ⟨fun s t a b c d => ?_, fun t a b => xfB_ok (xc t a b).1, fun t s a b hs => He.eqO_ok (List.all_eq_true.mp (xc t a b).2.1 s hs), fun t a b => ?_, fun q hq => ?_⟩
  · have z := of_decide_eq_true (allN_ok (at_ s a b).2 (t - T.n) (by omega))
    rw [show T.n + (t - T.n) = t by omega, ← hc] at z
    exact z
  · have xf := xfB_ok (xc t a b).1
    exact ⟨xf.ga, xf.gg, xf.exC, xf.hdC, He.eqO_ok (xc t a b).2.2.1, W.cd, W.ck, of_decide_eq_true (xc t a b).2.2.2⟩
  · rw [hc]
    exact of_decide_eq_true (List.all_eq_true.mp h2 q hq)
theorem x0B_ok {mg : Str → Option Value} {W : Wd} {t : Nat} {x : Str} {B newId initId : String} {bmB : List Value} (F : ExcBaseFacts B newId initId bmB) (hc : W.cl t = He.ga W.K x) (hm : mg x = some (.ref (He.ga W.K x))) (h : x0B x bmB newId W.K = true) : HasX0 mg W t x := by
  obtain ⟨h1, h2⟩ := He.ba h
  obtain ⟨h3, h4⟩ := He.ba h2
  obtain ⟨h5, h6⟩ := He.ba h4
  exact ⟨B, newId, initId, bmB, F, by rw [hc]; exact h1, by rw [hc]; exact hm, by rw [hc]; exact h6, by rw [hc]; exact of_decide_eq_true h3, by rw [hc]; exact of_decide_eq_true h5⟩
theorem xiB_ok {P : Program} {w : World} {mg : Str → Option Value} {base : Heap} {W : Wd} {t j : Nat} {x nm : Str} {p : Pth} {B newId : String} {bmB : List Value} {fd : FuncData} {ps : List Str} (F : PySem.DX.NewF B newId bmB) (hc : W.cl t = He.ga W.K x) (hm : mg x = some (.ref (He.ga W.K x))) (hj : W.fn[j]? = some nm)
    (h : xiB x nm p bmB newId W.K = true) (fo : FnOk P w W.K mg base (L2.CX P w) 1 (p W.K) fd ps (spXi W.K bmB newId nm)) (hb : ∀ (s : Shared) (us : List Value), us.length = ps.length → BindsTo s fd ⟨us, []⟩ (ps.zip us)) : HasXI P w mg base W t j x := by
  obtain ⟨h1, h⟩ := He.ba h
  obtain ⟨h2, h⟩ := He.ba h
  obtain ⟨h3, h⟩ := He.ba h
  obtain ⟨h4, h⟩ := He.ba h
  obtain ⟨h5, h⟩ := He.ba h
  obtain ⟨h6, h⟩ := He.ba h
  obtain ⟨h7, h⟩ := He.ba h
  obtain ⟨h8, h⟩ := He.ba h
  obtain ⟨h9, h10⟩ := He.ba h
  refine ⟨B, newId, bmB, nm, p W.K, fd, ps, F, hj, ⟨?_, ?_, ?_, ?_, ?_, ?_, ?_, ?_⟩, by rw [hc]; exact He.eqO_ok h6, of_decide_eq_true h7, fo, fun s us _ hl => ?_, by rw [hc]; exact hm⟩
  · rw [hc]; exact h1
  · rw [hc]; exact h2
  · rw [hc]; exact He.eqO_ok h3
  · rw [hc]; exact h4
  · rw [hc]; exact He.eqO_ok h5
  · rw [hc]; exact of_decide_eq_true h8
  · rw [hc]; exact of_decide_eq_true h9
  · rw [hc]; exact h10
  · rw [List.append_nil] at hl ⊢
    exact hb s us hl
end Dn
namespace Dn
open PySem
section
variable {h : Hep} {s : Sl} {t j i c : Nat} {fs : List (Nat × AV)} {v : AV} {f : DE} {fb : DS} {T : XT} {hs : Hds} {n : String}
@[simp] theorem SR.fin_exc' : (SR.exc t fs s h).fin = .exc t fs h := rfl
@[simp] theorem noX_nx : (SR.nx s h).noX = .nx s h := rfl
@[simp] theorem noX_rt : (SR.rt v h).noX = .rt v h := rfl
@[simp] theorem noX_bk : (SR.bk s h).noX = .bk s h := rfl
@[simp] theorem noX_ct : (SR.ct s h).noX = .ct s h := rfl
@[simp] theorem fget_one : fget [(j, v)] j = some v := by simp [fget]
/-- an exception leaves a call -/
@[simp] theorem R.st_exc' {U : Type} {k : U → Hep → SR} : (R.exc t fs h : R U).st s k = .exc t fs s h := rfl
end
end Dn
namespace Dn
open PySem PySem.Spec PyProof.Rows L2

section
variable {W : Wd} {M : Md W} {E : WX} {X : Cx} {o e f : Expr} {fo fk fx : DE} {pos apos cpos : Pos}
end
end Dn
namespace Dn
open PySem PySem.Spec PyProof.Rows L2

section
variable {W : Wd} {io : List Addr} {H H' : Hp}
variable {p : Addr} {od : Obj} {vs : List (Key × V)} {o : HO}
end
section
variable {W : Wd} {M : Md W} {E : WX} {X : Cx} {e : Expr} {fd f : DE}
end

section
variable {W : Wd} {io : List Addr} {H : Hp} {n : Nat} {p : Addr} {od : Obj} {vs : List (Key × V)}
end
section
variable {W : Wd} {M : Md W} {E : WX} {X : Cx} {tg e : Expr} {f : DE} {apos cpos : Pos}
end
end Dn
namespace Dn
open PySem PySem.Spec PyProof.Rows L2

section
variable {W : Wd} {M : Md W} {E : WX} {X : Cx} {pos : Pos}
end

section
variable {W : Wd} {M : Md W} {E : WX} {X : Cx}
end

section
variable {W : Wd} {X : Cx}
end

section
variable {W : Wd} {X : Cx}
end
end Dn
namespace Dn
open PySem PySem.Spec PyProof.Rows L2

abbrev DGHs := List AV → Sl → Hep → SR
def hFK (s : Sl) (j : Nat) (v : AV) (r : R AV) : SR := match r with
  | .ok o h => setfK s j v (insAt h o) h
  | _ => .stuck
def hF (j : Nat) (fo : DE) : DGH := fun v s h => hFK s j v (fo s h)
def h0 : DGHs := fun xs s h => match xs with
  | [] => .nx s h
  | _ => .stuck
def hC (g : DGH) (gs : DGHs) : DGHs := fun xs s h => match xs with
  | x :: r => (g x s h).then (gs r)
  | [] => .stuck
def hT (gs : DGHs) : DGH := fun v s h => match tupOf v with
  | some xs => gs xs s h
  | none => .stuck
section
variable {W : Wd} {M : Md W} {E : WX} {X : Cx}
end

section
variable {W : Wd} {M : Md W} {E : WX} {X : Cx}
end
end Dn
namespace PySem
open Sem (wp)
section
variable {prog : Program} {w : World} {A : Around} {E : Value → Shared → Prop} {s : Shared}
end
end PySem
namespace Dn
open PySem PySem.Spec PyProof.Rows L2

section
variable {W : Wd} {io : List Addr} {H : Hp} {n : Nat} {p : Addr} {od : Obj} {vs : List (Key × V)}
end
section
variable {W : Wd} {M : Md W} {E : WX} {X : Cx} {e : Expr} {f : DE} {p pos tpos : Pos} {elts : List Expr} {kk : Nat}
end
end Dn
namespace Dn
open PySem PySem.Spec PyProof.Rows L2

section
variable {W : Wd} {M : Md W} {E : WX} {X : Cx} {io : List Addr} {H H' : Hp} {hp : Hep}
end
end Dn
namespace Dn
open PySem L2
theorem set_last {h : Hep} {a b : AO} : (h ++ [a]).set h.length b = h ++ [b] := by
  rw [List.set_append_right _ _ (Nat.le_refl _), Nat.sub_self]
  rfl
theorem at_last {h : Hep} {a : AO} : (h ++ [a])[h.length]? = some a := by
  rw [List.getElem?_append_right (Nat.le_refl _), Nat.sub_self]
  rfl
end Dn
namespace Dn
open PySem PySem.Spec PyProof.Rows L2

section
variable {W : Wd} {M : Md W} {E : WX} {X : Cx} {c a b : Expr} {ft fa fb : DT} {pos : Pos}
end
end Dn
namespace Dn
open PySem PySem.SeqAt
open AutoSeq1 (wpAny_loadPart')
open MeetsSeq MeetsSeq2 MeetsSeq3 SeqRoads2
section
variable {prog : Program} {w : World}
end
end Dn
namespace Dn
open PySem PySem.Spec PyProof.Rows L2
section
variable {W : Wd} {X : Cx}
end
end Dn
namespace Dn
open PySem PySem.Spec PyProof.Rows L2
section
variable {prog : Program} {w : World} {A : Around} {E : Value → Shared → Prop} {s : Shared}
end
section
variable {X : Cx} {pos : Pos}
end
section
variable {W : Wd} {M : Md W} {E : WX} {X : Cx}
end
section
variable {W : Wd} {M : Md W} {E : WX} {X : Cx} {tg iter : Expr} {body : List Stmt} {f : DI} {g : DGH} {fb : DS} {pos : Pos}
end
end Dn
namespace Dn
open PySem PySem.Spec PyProof.Rows L2
section
variable {P : Program} {w : World} {mg : Str → Option Value} {base : Heap} {W : Wd} {k n : Nat} {x : Str} {ps : List Str} {F : DF} {bs : Bs}
end
end Dn
namespace Dn
open PySem PySem.Spec PyProof.Rows L2
section
variable {P : Program} {w : World} {mg : Str → Option Value} {base : Heap} {W : Wd} {k n t : Nat} {f : Addr} {fd : FuncData} {ps : List Str} {F : DF} {x : Str} {bs : Bs}
end
section
variable {W : Wd} {M : Md W} {E : WX} {X : Cx} {k j n m q t : Nat} {ps ks : List Str} {F : DF} {x c : Str} {p pos apos kpos : Pos} {e : Expr} {es : List Expr} {kws : List Keyword} {fa fk : DA} {ix : List Nat} {dfl : List AV} {bs : Bs}
end
end Dn
namespace Dn
open PySem PySem.Spec PyProof.Rows L2
end Dn
namespace Dn
open PySem PySem.Spec PyProof.Rows L2
section
variable {W : Wd} {X : Cx}
end
end Dn
namespace Dn
open PySem PySem.Spec PyProof.Rows L2
section
variable {prog : Program} {w : World} {A : Around} {E : Value → Shared → Prop} {s : Shared} {K : PySem.W.Frag} {x y C C2 : Addr} {ox oy : Obj} {od od2 : Option Obj}
end
section
variable {W : Wd} {M : Md W} {E : WX} {X : Cx} {k j n q t : Nat} {ps : List Str} {F : DF} {ct : CT}
end
section
variable {P : Program} {w : World} {mg : Str → Option Value} {base : Heap} {W : Wd} {x qual : Str} {params : Arguments} {body : List Stmt} {scope : Scope} {f : Addr} {fd : FuncData}
end
section
variable {W : Wd} {M : Md W} {E : WX} {X : Cx} {k j n m t : Nat} {ks : List Str} {F : DF} {x : Str} {p pos : Pos} {e : Expr} {es : List Expr} {fa : DA} {f : Addr}
end
end Dn
namespace Dn
open PySem PySem.Spec PyProof.Rows L2
section
variable {W : Wd} {M : Md W} {E : WX} {X : Cx} {o e f : Expr} {fo fk fx : DE} {pos apos cpos : Pos}
end
section
variable {W : Wd} {M : Md W} {E : WX} {X : Cx} {k j n m t : Nat} {F : DF} {x : Str} {p pos p2 : Pos} {e e2 : Expr} {es : List Expr} {fa : DA} {f : Addr}
end
section
variable {W : Wd} {X : Cx}
end
end Dn
namespace Dn
open PySem PySem.Spec PyProof.Rows L2
section
variable {W : Wd} {M : Md W} {E : WX} {X : Cx} {a b : Expr} {es : List Expr} {f g : DE} {pos : Pos}
end
end Dn
namespace Dn
open PySem PySem.Spec PyProof.Rows L2
section
variable {W : Wd} {M : Md W} {E : WX} {X : Cx} {k j n m t : Nat} {F : DF} {x : Str} {p pos p2 p3 : Pos} {e e2 : Expr} {es : List Expr} {fa : DA} {f : Addr} {fe : DE}
open PySem.Calls in
end
end Dn
namespace Dn
open PySem PySem.Spec PyProof.Rows L2

section
variable {W : Wd} {M : Md W} {E : WX} {X : Cx} {st : Stmt} {fd : DE} {f : DS}
end
end Dn
namespace Dn
open PySem PySem.Spec PyProof.Rows L2

section
variable {W : Wd} {X : Cx}
end

end Dn
namespace Dn
open PySem PySem.Spec PyProof.Rows L2

section
variable {M : Model} {A : Around} {E : Value → Shared → Prop} {s : Shared} {K : PySem.W.Frag} {x C L f : Addr} {h₀ : Heap} {m : Str → Option Value} {ox : Obj} {od : Option Obj} {Q : Value → Shared → Prop}
end
section
variable {W : Wd} {M : Md W} {E : WX} {X : Cx} {k j t : Nat} {ps : List Str} {F : DF} {pos : Pos} {o : Expr} {fo : DE}
end
end Dn
namespace Dn
open PySem PySem.Spec PyProof.Rows L2

section
variable {W : Wd} {M : Md W} {E : WX} {X : Cx} {pos : Pos}
end
end Dn
namespace Dn
open PySem
theorem lcL_opt {src : Src} {g : DG} {tt : DT} {te : DE} {s0 : Sl} {h1 : Hep} {xs : List AV} {zs : List (Option AV)} (hl : xs.length = zs.length) (hz : xs.length ≤ 100000) (hs : ∀ (acc : List AV) (i : Nat), src.next i (h1 ++ [AO.lst acc]) = some xs[i]?)
    (step : ∀ (i : Nat) (x : AV) (z : Option AV) (acc : List AV), xs[i]? = some x → zs[i]? = some z → ∃ s1, g x s0 = some s1 ∧ tt s1 (h1 ++ [AO.lst acc]) = .ok z.isSome (h1 ++ [AO.lst acc]) ∧ ∀ y, z = some y → te s1 (h1 ++ [AO.lst acc]) = .ok y (h1 ++ [AO.lst acc])) :
    ∀ (k i : Nat) (acc : List AV), k + i = xs.length → acc.length ≤ i → dLcL src g tt te h1.length s0 (k + 1) i (h1 ++ [AO.lst acc]) = .ok (.ref h1.length) (h1 ++ [AO.lst (acc ++ (zs.drop i).filterMap id)])
  | k, i, acc, e, ha => by
    have hn := hs acc i
    cases z : xs[i]? with
    | none =>
      have hi := List.getElem?_eq_none_iff.mp z
      rw [z] at hn
      rw [List.drop_eq_nil_of_le (by omega), List.filterMap_nil, List.append_nil]
      unfold dLcL
      simp only [hn]
    | some x =>
      obtain ⟨hi, _⟩ := List.getElem?_eq_some_iff.mp z
      obtain ⟨k, rfl⟩ : ∃ m, k = m + 1 := ⟨k - 1, by omega⟩
      rw [z] at hn
      obtain ⟨y, z2⟩ : ∃ p, zs[i]? = some p := ⟨_, List.getElem?_eq_getElem (by omega)⟩
      obtain ⟨s1, e1, t1, e2⟩ := step i x y acc z z2
      have ed : zs.drop i = y :: zs.drop (i + 1) := by
        obtain ⟨l2, z3⟩ := List.getElem?_eq_some_iff.mp z2
        rw [← z3]
        exact List.drop_eq_getElem_cons l2
      rw [ed]
      cases y with
      | none =>
        have r := lcL_opt hl hz hs step k (i + 1) acc (by omega) (by omega)
        rw [List.filterMap_cons_none rfl, ← r]
        conv => lhs; unfold dLcL
        simp only [hn, e1, t1, R.noX_ok, R.bind_ok, Option.isSome_none]
      | some y =>
        have hzz : acc.length < SZ := by
          have : SZ = 1000000 := rfl
          omega
        have e5 : addAt h1.length y (h1 ++ [AO.lst acc]) = some (h1 ++ [AO.lst (acc ++ [y])]) := by
          unfold addAt
          rw [at_last]
          simp only [if_pos hzz, set_last]
        have r := lcL_opt hl hz hs step k (i + 1) (acc ++ [y]) (by omega) (by simp; omega)
        rw [show (some y :: zs.drop (i + 1)).filterMap id = y :: (zs.drop (i + 1)).filterMap id from rfl, show acc ++ y :: (zs.drop (i + 1)).filterMap id = (acc ++ [y]) ++ (zs.drop (i + 1)).filterMap id by simp, ← r]
        conv => lhs; unfold dLcL
        simp only [hn, e1, t1, R.noX_ok, R.bind_ok, Option.isSome_some, e2 y rfl, e5]
/-- a source that gives these values, whatever is made behind -/
structure Sq (f : DI) (s : Sl) (h h1 : Hep) (xs : List AV) : Prop where
  ex : ∃ src, f s h = .ok src h1 ∧ src.len h1 = xs.length ∧ ∀ (o : AO) (i : Nat), src.next i (h1 ++ [o]) = some xs[i]?
theorem app_at0 {h : Hep} {i : Nat} {o a : AO} (e : h[i]? = some o) : (h ++ [a])[i]? = some o := by
  rw [List.getElem?_append_left (List.getElem?_eq_some_iff.mp e).1]
  exact e
theorem Sq.at {f : DE} {s : Sl} {h h1 : Hep} {n : Nat} {xs : List AV} (ef : f s h = .ok (.ref n) h1) (e : h1[n]? = some (.lst xs)) : Sq (dSrc f) s h h1 xs :=
  ⟨.at n, src_ref ef e, len_at e, fun o i => next_at (app_at0 e)⟩
theorem Sq.fix {f : DI} {s : Sl} {h h1 : Hep} {xs : List AV} (ef : f s h = .ok (.fix xs) h1) : Sq f s h h1 xs :=
  ⟨.fix xs, ef, rfl, fun o i => rfl⟩
theorem lc_filt {α : Type} {f : DI} {g : DG} {tt : DT} {te : DE} {vs : List Nat} {s : Sl} {h h1 : Hep} {l : List α} (fx fy : α → AV) (p : α → Bool) (S : Sq f s h h1 (l.map fx)) (hz : l.length ≤ 100000)
    (step : ∀ (x : α) (acc : List AV), x ∈ l → ∃ s1, g (fx x) (wipeS s vs) = some s1 ∧ tt s1 (h1 ++ [AO.lst acc]) = .ok (p x) (h1 ++ [AO.lst acc]) ∧ (p x = true → te s1 (h1 ++ [AO.lst acc]) = .ok (fy x) (h1 ++ [AO.lst acc]))) :
    dLc f g tt te vs s h = .ok (.ref h1.length) (h1 ++ [AO.lst ((l.filter p).map fy)]) := by
  obtain ⟨src, ef, hlen, hs⟩ := S.ex
  have r := lcL_opt (g := g) (tt := tt) (te := te) (s0 := wipeS s vs) (h1 := h1) (xs := l.map fx) (zs := l.map fun x => if p x = true then some (fy x) else none) (by simp) (by simpa using hz) (fun acc i => hs (.lst acc) i)
    (fun i x z acc hx hz => by
      rw [List.getElem?_map] at hx hz
      cases q : l[i]? with
      | none =>
        rw [q] at hx
        cases hx
      | some w =>
        rw [q] at hx hz
        cases hx
        cases hz
        obtain ⟨s1, a, b, c⟩ := step w acc (List.mem_of_getElem? q)
        refine ⟨s1, a, ?_, fun y hy => ?_⟩
        · rw [b]
          by_cases d : p w = true
          · simp [d]
          · simp [d]
        · by_cases d : p w = true
          · have hy2 : some (fy w) = some y := by simpa [d] using hy
            cases hy2
            exact c d
          · have hy2 : (none : Option AV) = some y := by simpa [d] using hy
            cases hy2) (l.map fx).length 0 [] (by omega) (Nat.le_refl _)
  unfold dLc
  rw [ef]
  show dLcL src g tt te h1.length (wipeS s vs) (src.len h1 + 1) 0 (h1 ++ [AO.lst []]) = _
  rw [hlen, r]
  congr 3
  rw [List.drop_zero, List.nil_append, List.filterMap_map]
  have : ∀ l : List α, List.filterMap (id ∘ fun x => if p x = true then some (fy x) else none) l = (l.filter p).map fy := fun l => by
    induction l with
    | nil => rfl
    | cons a l ih =>
      by_cases d : p a = true
      · rw [List.filterMap_cons_some (b := fy a) (by simp [d]), ih, List.filter_cons_of_pos d]
        rfl
      · rw [List.filterMap_cons_none (by simp [d]), ih, List.filter_cons_of_neg d]
  rw [this]
theorem lc_map {α : Type} {f : DI} {g : DG} {te : DE} {vs : List Nat} {s : Sl} {h h1 : Hep} {l : List α} (fx fy : α → AV) (S : Sq f s h h1 (l.map fx)) (hz : l.length ≤ 100000)
    (step : ∀ (x : α) (acc : List AV), x ∈ l → ∃ s1, g (fx x) (wipeS s vs) = some s1 ∧ te s1 (h1 ++ [AO.lst acc]) = .ok (fy x) (h1 ++ [AO.lst acc])) :
    dLc f g dYes te vs s h = .ok (.ref h1.length) (h1 ++ [AO.lst (l.map fy)]) := by
  have r := lc_filt (tt := dYes) (te := te) fx fy (fun _ => true) S hz fun x acc hx => by
    obtain ⟨s1, a, b⟩ := step x acc hx
    exact ⟨s1, a, rfl, fun _ => b⟩
  rw [r, List.filter_eq_self.mpr (fun _ _ => rfl)]
end Dn
namespace Dn
open PySem PySem.Spec PyProof.Rows L2

def okK' (r : R AV) (K : AV → Hep → SR) : SR := match r with
  | .ok a h => K a h
  | _ => .stuck
def puK (s : Sl) (o : Option Hep) : SR := match o with
  | some h => .nx s h
  | none => .stuck
def hI (fo fi : DE) : DGH := fun v s h => okK' (fo s h) fun o h1 => okK' (fi s h1) fun i h2 => puK s (putAV o i v h2)
section
variable {W : Wd} {M : Md W} {E : WX} {X : Cx} {k : Nat}
end
@[simp] theorem okK_ok {a : AV} {h : Hep} {K : AV → Hep → SR} : okK' (.ok a h) K = K a h := rfl
@[simp] theorem puK_some {s : Sl} {h : Hep} : puK s (some h) = .nx s h := rfl
@[simp] theorem xhI {fo fi : DE} {v : AV} {s : Sl} {h : Hep} : hI fo fi v s h = okK' (fo s h) fun o h1 => okK' (fi s h1) fun i h2 => puK s (putAV o i v h2) := rfl
end Dn
namespace Dn
open PySem PySem.Spec PyProof.Rows L2
section
variable {W : Wd} {X : Cx}
end
end Dn
namespace Dn
open PySem PySem.Spec PyProof.Rows L2
section
variable {X : Cx} {W : Wd} {M : Md W} {E : WX} {j k t : Nat} {x : Str} {ps : List Str} {F : DF}
end
end Dn
namespace Dn
open PySem PySem.Spec PyProof.Rows L2
/-- repr(a), a a datum -/
def reprL : DL := fun as h => match as with
  | [a] => match toD DD h a with
    | some d => if d.showable = true ∧ d.hasDict = false ∧ d.shown.length ≤ SZ ∧ d.depth ≤ 60 then some (.str d.shown, h) else none
    | none => none
  | _ => none
section
variable {W : Wd} {M : Md W} {E : WX} {X : Cx}
theorem call_repr_dat (hg : X.A.guards = some []) (hu : X.A.units + 65 < cLine) : CallR X (.builtin "repr") (fun xs H Q => ∃ v d, xs = [v] ∧ Dp X.K H v d ∧ d.showable = true ∧ d.hasDict = false ∧ d.shown.length ≤ sizeLine ∧ d.depth ≤ 60 ∧ Q (.str d.shown) H) := by
  intro pins s σ H xs us Q I r h
  obtain ⟨v, d, rfl, hd, h1, h2, h3, h4, q⟩ := h
  obtain ⟨u, rfl, ru⟩ := vals1 r
  obtain ⟨as, rd⟩ := Dp.reads I d v u hd ru
  have big : ∀ {b : Addr}, u = .ref b → wpAny (model X.prog X.w) X.A (call (.builtin "repr") [.ref b]) (EP X pins σ Q) X.xe s := fun {b} e => by
    subst e
    refine PySem.repr_of_reads' rd h1 (fun z => ?_) hg (by omega) (fun _ _ z => z) (fun h' t tk k => ⟨.str d.shown, H, I.kept k, ⟨t, rfl⟩, q⟩) h3
    rw [h2] at z
    cases z
  cases rd with
  | none =>
    simp only [PyData.shown] at q
    exact PySem.P.repr_of_none ⟨.str _, H, I.tok _, ⟨_, rfl⟩, q⟩
  | bool b =>
    simp only [PyData.shown] at q
    exact PySem.P.repr_of_bool ⟨.str _, H, I.tok _, ⟨_, rfl⟩, q⟩
  | int i t =>
    simp only [PyData.shown] at q
    refine PySem.P.repr_of_int ?_ ⟨.str _, H, I.tok _, ⟨_, rfl⟩, q⟩
    simpa [PyData.showable] using h1
  | str x t =>
    simp only [PyData.shown] at q h3
    exact PySem.P.repr_of_str ⟨.str _, H, I.tok _, ⟨_, rfl⟩, q⟩ h3
  | list _ _ _ _ => exact big rfl
  | tuple _ _ _ _ => exact big rfl
  | dict _ _ _ _ _ => exact big rfl
theorem cRepr (hK : X.K = W.K) (hg : X.A.guards = some []) (hu : X.A.units + 65 < cLine) : CallR X (.builtin "repr") (tl W reprL) := call_imp (call_repr_dat hg hu) fun xs H Q ⟨io, hp, as, rl, ra, P⟩ => by
  match as, ra, P with
  | [a], ra, P =>
    obtain ⟨x, rfl, r⟩ := one_inv ra
    have P' : Pop W (RV W) Q io H (match toD DD hp a with
      | some d => if d.showable = true ∧ d.hasDict = false ∧ d.shown.length ≤ SZ ∧ d.depth ≤ 60 then some (AV.str d.shown, hp) else none
      | none => none) := P
    cases e : toD DD hp a with
    | none =>
      rw [e] at P'
      exact P'.elim
    | some d =>
      rw [e] at P'
      by_cases c : d.showable = true ∧ d.hasDict = false ∧ d.shown.length ≤ SZ ∧ d.depth ≤ 60
      · have P2 : Pop W (RV W) Q io H (if d.showable = true ∧ d.hasDict = false ∧ d.shown.length ≤ SZ ∧ d.depth ≤ 60 then some (AV.str d.shown, hp) else none) := P'
        rw [if_pos c] at P2
        exact ⟨x, d, rfl, by rw [hK]; exact toD_in rl _ _ _ _ e r, c.1, c.2.1, szL c.2.2.1, c.2.2.2, P2.ok rl (.str _)⟩
      · have P2 : Pop W (RV W) Q io H (if d.showable = true ∧ d.hasDict = false ∧ d.shown.length ≤ SZ ∧ d.depth ≤ 60 then some (AV.str d.shown, hp) else none) := P'
        rw [if_neg c] at P2
        exact P2.elim
  | [], ra, P => exact P.elim
  | _ :: _ :: _, ra, P => exact P.elim
end
end Dn
namespace Dn
open PySem PySem.Spec PyProof.Rows L2
section
variable {P : Program} {w : World} {mg : Str → Option Value} {base : Heap} {W : Wd} {x qual : Str} {params : Arguments} {body : List Stmt} {scope : Scope} {dvs : List V} {kws : List (Str × V)} {f : Addr} {fd : FuncData}
theorem fnDG {N ps : List Str} {k n : Nat} {b : DS} (F : FunD W.K x qual params body scope dvs kws f fd) (S : FnScope N ps scope) (hn : ps.length = n)
    (hb : ∀ (cdv : Value) (A : Around) (outer : List Env) (s : Shared) (H : Hp) (E : XK), (A.deeper (envOfC qual scope s.heap.objs.size f cdv)).guards = some [] → Room k (A.deeper (envOfC qual scope s.heap.objs.size f cdv)) →
      Takes (cxD W P w mg base N qual scope f cdv A outer s H E) (wxE E) → PSs (cxD W P w mg base N qual scope f cdv A outer s H E) body (tS W (std W) (wxE E) b)) : FnG P w W.K mg base (L2.CX P w) (k + 1) f fd ps (spD W n (dFun N.length b)) := by
  have lenS : ∀ vs H Q E, spD W n (dFun N.length b) vs H Q E → vs.length = ps.length := fun vs H Q E ⟨io, hp, as, hl, _, r, _⟩ => by
    rw [← r.len, hl, hn]
  obtain ⟨oc, od, dV, kV, doc, pm, an, cdv, ct, osl, rfl, lk, hcd, _, _⟩ := F.ex
  refine ⟨lenS, fun A outer s H args us vs Q E hg hr e0 hbd r hsp => LamX.run_ofS lk hcd S hr e0 hbd r (lenS _ _ _ _ hsp) fun hr' => ⟨_, hb cdv A outer s H E hg hr' (takes_of rfl rfl rfl rfl), ?_⟩⟩
  obtain ⟨io, hp, as, hl, rl, ra, P⟩ := hsp
  refine ⟨io, hp, dStart N.length as, rl, start_rel ra rfl, ?_⟩
  unfold dFun at P
  cases e : b (dStart N.length as) hp with
  | nx s h =>
    rw [e] at P
    exact fun io' H' σ' e' rl' _ => P io' H' .non e' rl' .non
  | rt s h =>
    rw [e] at P
    exact P
  | bk s h =>
    rw [e] at P
    exact P.elim
  | ct s h =>
    rw [e] at P
    exact P.elim
  | exc t fs s h =>
    rw [e] at P
    exact fun io' H' σ' cls d e' rl' _ rx => P io' H' cls d e' rl' rx
  | stuck =>
    rw [e] at P
    exact P
end
section
variable {W : Wd} {M : Md W} {E : WX} {X : Cx} {k j n m q : Nat} {f : Addr} {fd : FuncData} {ps ks : List Str} {F : DF} {x : Str} {p pos : Pos} {e : Expr} {es : List Expr} {kws : List Keyword} {fa fk : DA} {ix : List Nat} {dfl : List AV} {bs : Bs}
theorem run_genG {pins : List (Addr × Obj)} {σ : L2.St} {H : Hp} {s : Shared} {Q : VK} {us ws : List Value} {vs zs : List V} {sp : Sp} {g : List Value → List Value → List Value} {gV : List V → List V → List V}
    (hF : FnG X.prog X.w X.K X.mg X.base (L2.CX X.prog X.w) j f fd ps sp) (hgd : X.A.guards = some []) (hr : Room j X.A) (hb : KBn X.K fd ps n ks g gV) (tk : Takes X E)
    (I : Inv X pins σ H s) (r : Vals vs us) (rz : Vals zs ws) (l1 : vs.length = n) (l2 : zs.length = ks.length) (h : sp (gV vs zs) H Q (WE E σ)) : wpAny (model X.prog X.w) X.A (call (.ref f) us (ks.zip ws)) (EP X pins σ Q) X.xe s := by
  have r2 := hb.rel r rz
  refine wpAny_call (codeAny_mono (hF.2 X.A X.stack s H ⟨us, ks.zip ws⟩ (g us ws) (gV vs zs) Q (WE E σ) hgd hr I.env0 (hb.to s us ws I.kIn (r.length.symm.trans l1) (rz.length.symm.trans l2)) r2 h) fun r s' hq => ?_)
  cases r with
  | error e => exact passAt tk σ pins H s e s' I hq
  | ok fl =>
    cases fl with
    | ret u => exact I.after hq
    | next => exact False.elim hq
    | brk => exact False.elim hq
    | cont => exact False.elim hq
theorem callHG (H : HasG X.prog X.w X.mg X.base W j x ps n F bs) (hgd : X.A.guards = some []) (i : Nat) (hi : bs[i]? = some (m, ks, ix, dfl)) (hq : ks.length = q) (hr : Room k X.A) (hj : j ≤ k) (hK : X.K = W.K) (tk : Takes X E)
    (ha : PA X (e :: es) (tDA W M E fa)) (hkw : PK X kws (tDA W M E fk)) (hg : Gl X x := by rfl) (hall : (backToKw pos (keywordEach kws X.env)).all (·.1.isSome) = true := by rfl) (hks : (backToKw pos (keywordEach kws X.env)).filterMap (·.1) = ks := by rfl)
    (hdb : (x == ("__debug__" : Str)) = false := by decide) (he : starEach (e :: es) X.env = (false, eval e X.env) :: starEach es X.env := by rfl)
    (hpl : ((backTo pos (starEach (e :: es) X.env)).any (·.1) || (backToKw pos (keywordEach kws X.env)).any (·.1.isNone)) = false := by rfl) :
    PE X (.Call (.Name x p) (e :: es) kws pos) (tD W M E (dCallC F m q n ix dfl fa fk)) := by
  subst hq
  obtain ⟨a, fd, h1, hkp, h3, h4⟩ := H
  obtain ⟨g, gV, kb, hg2⟩ := h4 _ (List.mem_of_getElem? hi)
  rw [← hK] at hkp h3 kb
  refine ⟨fun pins s σ H Q I h => ?_⟩
  refine wpAny_Call_Name_kw (ld_glob I hg h1 ?_ hdb)
  refine PySem.W.callWith_KW (h₀ := X.base) I.ok.mod.kin hkp hall (thn (ha.run pos pins s σ H _ I (args_in h)) fun us s1 ⟨vs, H1, I1, r, q⟩ => ?_) hpl he
  refine thn (hkw.run pos pins s1 σ H1 _ I1 q) fun ws s2 ⟨zs, H2, I2, rz, l1, l2, q2⟩ => ⟨I2.kIn, ?_⟩
  rw [hks]
  exact run_genG h3 hgd (hr.mono hj) kb tk I2 r rz l1 l2 (q2 gV hg2)
end
theorem law_spG {W : Wd} {P : Program} {w : World} {mg : Str → Option Value} {base : Heap} {CX : CXT} {k : Nat} {f : Addr} {fd : FuncData} {ps : List Str} {F : DF} (hT : W.T = []) (hF : FnG P w W.K mg base CX k f fd ps (spD W 1 F))
    (law : ∀ ns : List Int, ns.length ≤ 63 → ∃ h, F [.rol (ns.map .int)] [] = .ok (.bl true) h) : FnG P w W.K mg base CX k f fd ps (spL W.K) := hF.imp fun vs H Q E ⟨a, ns, e, hl, hO, hS, hQ⟩ => by
  subst e
  obtain ⟨h, e⟩ := law ns hl
  refine ⟨[], [], [.rol (ns.map .int)], rfl, ⟨rfl, List.nodup_nil, fun i a o hi => by simp at hi, fun p hp => by rw [hT] at hp; cases hp⟩, .cons (.rol ?_ (RVs.ints ns)) .nil, ?_⟩
  · rcases hS with (z | ⟨o, z⟩) | z
    · rcases hO a with q | ⟨o, xs, q⟩
      · rw [q] at z
        cases z
      · rw [q] at z
        cases z
    · exact .inl ⟨o, z⟩
    · exact .inr (.inr z)
  · rw [e]
    intro io' H' x _ _ r
    have e2 : x = .bl true := by
      cases r
      rfl
    subst e2
    exact hQ H'
/-- what is tracked at the beginning: the script, and the tables ts -/
def startH (ts : List Addr) (a : Addr) (ol : Option Obj) (xs : List V) : Hp := fun b =>
  if b ∈ ts then some (.tbl #[]) else if b = a then ol.map fun o => .frz o (.lst xs) else none
theorem law_run {P : Program} {w : World} {K : PySem.W.Frag} {mg mb : Str → Option Value} {CX : CXT} {fa a : Addr} {cs : List (Addr × Addr)} {s₁ : Shared} {vs : List Value} {ns : List Int}
    (KX : K.In s₁.heap) (hns : s₁.heap.Ns mainGlobals mg) (hb : s₁.heap.Ns builtinsNs mb) (hbb : ∀ x : Str, x ≠ "__name__" → mb x = bootBuiltins x) (hlim : s₁.heap.NoLimit) (hg : s₁.gens = #[])
    (hT : ∀ p ∈ cs, s₁.heap.get? p.2 = some { cls := .none, data := .fields #[] }) (nT : ∀ p ∈ cs, K.lookup p.2 = none) (C : ∀ p ∈ cs, PySem.W.CodeHd s₁.heap p.1 p.2)
    (hbm : ∃ (bm : Addr) (ob : Obj), mg "__builtins__" = some (.ref bm) ∧ bm ≠ builtinsNs ∧ s₁.heap.get? bm = some ob ∧ ob.cls = .type "module" ∧ ob.dict = some builtinsNs ∧ ob.data = .plain)
    (ha : s₁.heap.get? a = some { cls := .type "list", data := .seq vs.toArray }) (hi : IntsAre vs ns) (hl : ns.length ≤ sizeLine)
    (run : ∀ (base : Heap) (H : Hp), K.In base → base.Ns mainGlobals mg → (∀ p ∈ cs, LamX.TabB base mg p.1 p.2) → (∀ p ∈ cs, H p.2 = some (.tbl #[])) → (∀ b, H b = none ∨ (b ∈ cs.map (·.2) ∧ H b = some (.tbl #[])) ∨ ∃ o xs, H b = some (.frz o (.lst xs))) → SqL K H a (ns.map V.int) → Env0 P w K mg base callerA [] s₁ H →
      codeAny (model P w) callerA (.call (.ref fa) ⟨[.ref a], []⟩) (CR CX [] P w H s₁ (fun v _ => v = .bl true) fun _ _ _ => False) s₁)
    (hCX : ∀ H e s', CX [] H s₁ (fun _ _ _ => False) e s' → False) :
    codeAny (model P w) callerA (.call (.ref fa) ⟨[.ref a], []⟩) (fun r s' => r = .ok (.ret (.bool true)) ∧ OldK s₁.heap s'.heap ∧ s'.os = s₁.os ∧ AllBare s'.gens) s₁ := by
  have rv := vals_ints hi
  have tabs : ∀ b ∈ cs.map (·.2), s₁.heap.get? b = some { cls := .none, data := .fields #[] } := fun b m => by
    obtain ⟨p, hp, rfl⟩ := List.mem_map.mp m
    exact hT p hp
  have aT : a ∉ cs.map (·.2) := fun m => by
    have z := ha.symm.trans (tabs a m)
    have z2 : Data.seq vs.toArray _ = Data.fields #[] := congrArg Obj.data (Option.some.inj z)
    cases z2
  -- the script's own entry
  obtain ⟨ol, hol, hok0⟩ : ∃ ol : Option Obj, (ol = none → ∃ o, K.lookup a = some o) ∧ (∀ o, ol = some o → o = { cls := .type "list", data := .seq vs.toArray } ∧ K.lookup a = none) := by
    cases e : K.lookup a with
    | none => exact ⟨some { cls := .type "list", data := .seq vs.toArray }, (fun z => by cases z), fun o z => ⟨(Option.some.inj z).symm, rfl⟩⟩
    | some o => exact ⟨none, (fun _ => ⟨o, rfl⟩), fun o z => by cases z⟩
  have at_t : ∀ b ∈ cs.map (·.2), startH (cs.map (·.2)) a ol (ns.map V.int) b = some (.tbl #[]) := fun b m => if_pos m
  have at_n : ∀ b, b ∉ cs.map (·.2) → b ≠ a → startH (cs.map (·.2)) a ol (ns.map V.int) b = none := fun b m n => (if_neg m).trans (if_neg n)
  have at_a : startH (cs.map (·.2)) a ol (ns.map V.int) a = ol.map fun o => .frz o (.lst (ns.map V.int)) := (if_neg aT).trans (if_pos rfl)
  generalize hH : startH (cs.map (·.2)) a ol (ns.map V.int) = H at at_t at_n at_a
  have cases_ : ∀ b u, H b = some u → (b ∈ cs.map (·.2) ∧ u = .tbl #[]) ∨ (b = a ∧ ∃ o, ol = some o ∧ u = .frz o (.lst (ns.map V.int))) := fun b u e => by
    by_cases m : b ∈ cs.map (·.2)
    · exact .inl ⟨m, (Option.some.inj ((at_t b m).symm.trans e)).symm⟩
    · by_cases n : b = a
      · subst n
        rw [at_a] at e
        obtain ⟨o, eo, eu⟩ := Option.map_eq_some_iff.mp e
        exact .inr ⟨rfl, o, eo, eu.symm⟩
      · rw [at_n b m n] at e
        cases e
  have hOk : HOk P w H s₁.heap := fun b u e => by
    rcases cases_ b u e with ⟨m, rfl⟩ | ⟨rfl, o, eo, rfl⟩
    · exact tabs b m
    · obtain ⟨rfl, _⟩ := hok0 o eo
      exact ⟨ha, by rw [List.length_map]; exact hl, vs, _, rv, ha⟩
  have base_of : ∀ {b : Addr} {o : Obj}, s₁.heap.get? b = some o → H b = none → (hidT s₁.heap H).get? b = some o := fun e n => hidT_get e n
  have untr : ∀ {b : Addr} {o : Obj}, s₁.heap.get? b = some o → (∀ ws n, o.data ≠ .seq ws n) → o.data ≠ .fields #[] → H b = none := fun {b o} e h1 h2 => by
    cases q : H b with
    | none => rfl
    | some u =>
      exfalso
      rcases cases_ b u q with ⟨m, _⟩ | ⟨rfl, _⟩
      · have z := e.symm.trans (tabs b m)
        rw [Option.some.inj z] at h2
        exact h2 rfl
      · have z := e.symm.trans ha
        rw [Option.some.inj z] at h1
        exact h1 _ _ rfl
  have nsB : ∀ {b : Addr} {m : Str → Option Value}, s₁.heap.Ns b m → (hidT s₁.heap H).Ns b m := fun {b m} ⟨o, es, ep, e, d, r⟩ =>
    ⟨o, es, ep, base_of e (untr e (by intro ws n z; rw [d] at z; cases z) (by intro z; rw [d] at z; cases z)), d, r⟩
  have kB : K.In (hidT s₁.heap H) := fun b o e => base_of (KX b o e) (by
    cases q : H b with
    | none => rfl
    | some u =>
      exfalso
      rcases cases_ b u q with ⟨m, _⟩ | ⟨rfl, o2, eo, _⟩
      · obtain ⟨p, hp, rfl⟩ := List.mem_map.mp m
        rw [nT p hp] at e
        cases e
      · rw [(hok0 o2 eo).2] at e
        cases e)
  have TB : ∀ p ∈ cs, LamX.TabB (hidT s₁.heap H) mg p.1 p.2 := fun p hp => by
    refine ⟨?_, ?_, fun z => ?_⟩
    · obtain ⟨o, us, file, tf, flags, tg, inF, text, tt, e1, r1, r2, r3, more⟩ := C p hp
      refine ⟨o, us, file, tf, flags, tg, inF, text, tt, base_of e1 (untr e1 (by intro ws n z; rw [r2] at z; cases z) fun z => ?_), r1, r2, r3, more⟩
      rw [r2] at z
      cases z
      simp at r3
    · obtain ⟨bm, ob, b1, b2, b3, b4, b5, b6⟩ := hbm
      have pl : ∀ d, ob.data = d → d = .plain := fun d z => z.symm.trans b6
      refine ⟨bm, ob, b1, b2, fun q => ?_, fun q => ?_, base_of b3 (untr b3 (fun ws n z => by cases pl _ z) fun z => by cases pl _ z), b4, b5, b6⟩
      · obtain ⟨o, es, ep, e, hd, _⟩ := hns
        rw [q] at b3
        rw [Option.some.inj (e.symm.trans b3)] at hd
        cases pl _ hd
      · rw [q] at b3
        rw [Option.some.inj (b3.symm.trans (hT p hp))] at b6
        cases b6
    · obtain ⟨o, es, ep, e, hd, _⟩ := hns
      rw [z] at e
      rw [Option.some.inj (e.symm.trans (hT p hp))] at hd
      cases hd
  have hM : L2.Mod K mg (hidT s₁.heap H) := ⟨kB, nsB hns, ⟨mb, nsB hb, hbb⟩, let ⟨mc, h1, h2⟩ := hlim; ⟨mc, nsB h1, h2⟩⟩
  have env : Env0 P w K mg (hidT s₁.heap H) callerA [] s₁ H := ⟨rfl, hM, fun b o e => of_hidT e, Nat.le_of_eq (hidT_size _ _), trivial, (fun b z => absurd (show b ∈ ([] : List Addr) from z) (by simp)), hOk, .of_eq hg⟩
  have script : SqL K H a (ns.map V.int) := by
    cases eo : ol with
    | none =>
      obtain ⟨o, e⟩ := hol eo
      have z := (KX a o e).symm.trans ha
      rw [Option.some.inj z] at e
      exact .inr ⟨_, vs.toArray, _, e, rfl, rfl, rfl, by rw [List.size_toArray, hi.length]; exact hl, by simpa using rv⟩
    | some o => exact .inl (.inr ⟨o, by rw [at_a, eo]; rfl⟩)
  have only : ∀ b, H b = none ∨ (b ∈ cs.map (·.2) ∧ H b = some (.tbl #[])) ∨ ∃ o xs, H b = some (.frz o (.lst xs)) := fun b => by
    cases q : H b with
    | none => exact .inl rfl
    | some u =>
      rcases cases_ b u q with ⟨m, rfl⟩ | ⟨_, o, _, rfl⟩
      · exact .inr (.inl ⟨m, rfl⟩)
      · exact .inr (.inr ⟨_, _, rfl⟩)
  refine codeAny_mono (run _ H kB (nsB hns) TB (fun p hp => at_t _ (List.mem_map.mpr ⟨p, hp, rfl⟩)) only script env) fun r s' h => ?_
  cases r with
  | error e => exact (hCX H e s' h).elim
  | ok fl =>
    cases fl with
    | next => exact h.elim
    | brk => exact h.elim
    | cont => exact h.elim
    | ret u =>
      obtain ⟨v, H', os, bare, un, hok', r', q⟩ := h
      obtain rfl : v = .bl true := q
      obtain rfl : u = Value.bool true := r'
      have kept : ∀ b o, b ∉ cs.map (·.2) → s₁.heap.get? b = some o → s'.heap.get? b = some o := fun b o nb e => by
        cases q : H b with
        | none => exact un.keep b o e q (fun z => absurd (show b ∈ ([] : List Addr) from z) (by simp)) (by simp)
        | some u =>
          rcases cases_ b u q with ⟨m, _⟩ | ⟨rfl, o2, eo, rfl⟩
          · exact absurd m nb
          · have z1 := (hOk _ _ q).1
            have z2 := (hok' _ _ (un.frzs _ _ _ q)).1
            rw [Option.some.inj (e.symm.trans z1)]
            exact z2
      have more : ∀ p ∈ cs, ∃ us : Array Value, s'.heap.get? p.2 = some { cls := .none, data := .fields us } := fun p hp => by
        obtain ⟨us, z⟩ := un.tbls p.2 #[] (at_t _ (List.mem_map.mpr ⟨p, hp, rfl⟩))
        exact ⟨_, hok' p.2 _ z⟩
      refine ⟨rfl, ⟨fun b o e => ?_, fun b o e => ?_⟩, os, bare⟩
      · by_cases m : b ∈ cs.map (·.2)
        · obtain ⟨p, hp, rfl⟩ := List.mem_map.mp m
          obtain ⟨us, hm⟩ := more p hp
          obtain rfl := Option.some.inj (e.symm.trans (hT p hp))
          exact .inr (.inl ⟨((C p hp).tab (hT p hp)).isCodeTable, rfl, #[], us, rfl, by rw [Array.empty_append]; exact hm⟩)
        · exact .inl (kept b o m e)
      · by_cases m : b ∈ cs.map (·.2)
        · obtain ⟨p, hp, rfl⟩ := List.mem_map.mp m
          obtain ⟨us, hm⟩ := more p hp
          exact ⟨_, hm⟩
        · exact ⟨o, kept b o m e⟩
theorem walk_ofG {l : PySem.W.OpenLaw} {n k : Nat} {q : Program} {loose : List Str} {XP : (Str → Option Value) → Heap → Prop} {YP : World → Heap → Prop} {d : DefRec} {x : Str}
    (hn : l.most = some n) (hn2 : n ≤ sizeLine) (hdf : d.params.defaults = []) (hr : Room k callerA)
    (F : ∀ (w : World) (mg : Str → Option Value) (fa : Addr) (h : Heap), YP w h → h.Ns mainGlobals mg → mg d.name = some (.ref fa) →
      ∃ (K : PySem.W.Frag) (fd : FuncData) (sp : Sp), K.In h ∧ (∀ (s : Shared) (u : Value), BindsTo s fd ⟨[u], []⟩ [(x, u)]) ∧
        (∀ (H : Hp) (a : Addr) (ns : List Int), ns.length ≤ n → Only H → SqL K H a (ns.map V.int) → sp [.ref a] H (fun v _ => v = .bl true) fun _ _ _ => False) ∧
        ∀ base : Heap, K.In base → base.Ns mainGlobals mg → FnG l.prog w K mg base (L2.CX l.prog w) k fa fd [x] sp) :
    PySem.W.WalkO q loose XP YP l.row.toRowW d [] (fun f vs => PySem.call f vs) := by
  refine Att.attach_callB hn hdf fun w s₀ s₁ mg mb fa o pm cd doc a vs ns G Y ho hd hcd hmg hobj hints hlen hbits hg => ?_
  obtain ⟨K, fd, sp, KX, hb, hsp, hF⟩ := F w mg fa _ Y G.T.g hmg
  exact law_run (cs := []) KX G.T.g G.T.b G.T.builtins G.T.nolimit hg (by simp) (by simp) (by simp) G.T.bmain hobj hints (Nat.le_trans hlen hn2) (fun base H k1 k2 _ _ hO hS e0 =>
    (hF base k1 k2).2 callerA [] s₁ H ⟨[.ref a], []⟩ [.ref a] [.ref a] _ _ rfl hr e0 (hb s₁ (.ref a)) (.cons rfl .nil) (hsp H a ns hlen (fun b => by
      rcases hO b with z | z | z
      · exact .inl z
      · exact absurd z.1 (by simp)
      · exact .inr z) hS)) fun H e s' ⟨_, _, _, _, _, _, _, _, _, _, _, _, z⟩ => z
end Dn
namespace Dn
open PySem PySem.Spec PyProof.Rows L2
section
variable {W : Wd} {M : Md W} {E : WX} {X : Cx} {e : Expr} {es : List Expr} {f : DE} {fa : DA}
end
end Dn
namespace Dn
open PySem PySem.Spec PyProof.Rows L2
section
variable {X : Cx} {e o : Expr} {te td ty : TE} {p apos cpos pos : Pos}
end
section
variable {W : Wd} {M : Md W} {E : WX} {X : Cx} {o e : Expr} {fo fe : DE} {p apos cpos pos : Pos}
end
end Dn
namespace Dn
open PySem PySem.Spec PyProof.Rows L2
/-- how many -/
def rgN (i j c : Int) : Nat := (if i < j then (j - i - 1) / c + 1 else 0).toNat
def Rg3 (i j c : Int) : Prop := 0 ≤ i ∧ i < 2 ^ 40 ∧ 0 ≤ j ∧ j < 2 ^ 40 ∧ 0 < c ∧ c < 2 ^ 20 ∧ rgN i j c ≤ SZ
instance (i j c : Int) : Decidable (Rg3 i j c) := by
  unfold Rg3
  infer_instance
section
variable {W : Wd} {M : Md W} {E : WX} {X : Cx} {tg : Expr}
end
end Dn
namespace Dn
open PySem PySem.Spec PyProof.Rows L2

theorem Pfn.st {W : Wd} {E : XK} {Q : VK} {io : List Addr} {H : Hp} {r : R AV} {σ : L2.St} (h : Pfn W E Q io H r) : Pst W (RV W) (wxE E) σ Q io H r := by
  cases r with
  | ok v hp => exact h
  | exc t fs hp => exact h
  | stuck => exact h
section
variable {X : Cx} {pins : List (Addr × Obj)} {σ : L2.St} {H HZ : Hp} {s s1 : Shared} {W : Wd}
open LamX
end
section
variable {X : Cx} {W : Wd} {M : Md W} {E : WX}
open LamX
end
end Dn
namespace Dn
open PySem PySem.Spec PyProof.Rows L2
section
variable {W : Wd} {B : Md W} {X : Cx} {T : XT}
end
section
variable {W : Wd} {B : Md W} {X : Cx} {T : XT} {E : WX} {a : Addr} {oe : Obj} {pn : List (Addr × Obj)} {i j t : Nat} {fs : List (Nat × AV)} {d : Option Addr} {x nm : Str} {p pos : Pos}
def XOk (W : Wd) (T : XT) (c : Nat) : Prop := ∀ t, T.n ≤ t → t < T.m → PySem.W.kitOne W.K (.ref (W.cl t)) (.ref (W.cl c)) = some (T.sub t c)
theorem xoB_ok {cs : List Str} {c : Nat} (hc : W.cl = clOf W.K cs) (h : xoB cs T c W.K = true) : XOk W T c := fun t a b => by
  have z := of_decide_eq_true (allN_ok h (t - T.n) (by omega))
  rw [show T.n + (t - T.n) = t by omega, ← hc] at z
  exact z
end
end Dn
namespace Dn
open PySem PySem.Spec PyProof.Rows L2
end Dn
namespace Dn
open PySem PySem.Spec PyProof.Rows L2
section
variable {W : Wd} {E : WX} {X : Cx} {T : XT} {t i : Nat} {fs : List (Nat × AV)} {a : Addr} {oe : Obj} {d : Option Addr} {pn : List (Addr × Obj)} {x : Str} {p pos : Pos} {B : Md W}
end
end Dn
namespace Dn
open PySem PySem.Spec PyProof.Rows L2
section
variable {P : Program} {w : World} {mg : Str → Option Value} {base : Heap} {W : Wd} {k n t : Nat} {f : Addr} {fd : FuncData} {ps : List Str} {F : DF} {x : Str} {bs : Bs}
end
section
variable {W : Wd} {M : Md W} {E : WX} {X : Cx} {k j n m q t : Nat} {ps : List Str} {F : DF} {x c : Str} {p pos apos : Pos} {e : Expr} {es : List Expr} {fa : DA} {ix : List Nat} {dfl : List AV} {bs : Bs}
end
end Dn
namespace Dn
open PySem PySem.Spec PyProof.Rows L2
end Dn
namespace Dn
open PySem PySem.Spec PyProof.Rows L2
section
variable {W : Wd} {M : Md W} {E : WX} {X : Cx} {x : Str} {p pos : Pos} {e : Expr} {es : List Expr} {kws : List Keyword} {fa fk : DA}
end
end Dn
namespace Dn
open PySem PySem.Spec PyProof.Rows L2
section
variable {W : Wd} {M : Md W} {E : WX} {X : Cx} {k j n m q t i : Nat} {ps ks : List Str} {F : DF} {x y : Str} {p pos : Pos} {e : Expr} {es : List Expr} {kws : List Keyword} {fa fk : DA} {ix : List Nat} {dfl : List AV} {bs : Bs}
end
end Dn
namespace Dn
open PySem PySem.Spec PyProof.Rows L2
section
variable {W : Wd} {M : Md W} {E : WX} {X : Cx} {pos : Pos}
end
end Dn
namespace Dn
open PySem PySem.Spec PyProof.Rows L2
section
variable {h : Hep}
end
end Dn
namespace Dn
open PySem PySem.Spec PyProof.Rows L2
section
variable {W : Wd} {M : Md W} {E : WX} {X : Cx} {x : Str} {l : List (Str × Int)} {e f : Expr} {fk fx : DE} {p apos cpos : Pos}
end
end Dn
namespace Dn
open PySem PySem.Spec PyProof.Rows L2
end Dn
namespace Dn
open PySem PySem.Spec PyProof.Rows L2
end Dn
namespace Dn
open PySem PySem.Spec PyProof.Rows L2
section
variable {P : Program} {w : World} {mg : Str → Option Value} {base : Heap} {W : Wd} {x qual : Str} {params : Arguments} {body : List Stmt} {scope : Scope} {f : Addr} {fd : FuncData}
end
section
variable {W : Wd} {M : Md W} {E : WX} {X : Cx} {k j n i t : Nat} {F : DF} {x : Str} {p pos apos : Pos} {e o : Expr} {fo : DE} {g : Addr}
end
end Dn
namespace Dn
open PySem PySem.Spec PyProof.Rows L2
end Dn
namespace Dn
open PySem PySem.Spec PyProof.Rows L2
end Dn
namespace Dn
open PySem PySem.Spec PyProof.Rows L2
section
variable {X : Cx} {d : Addr} {es : Array DictEntry} {n : Nat} {l : List (Str × List Str)}
end
section
variable {W : Wd} {M : Md W} {E : WX} {X : Cx} {x : Str} {l : List (Str × List Str)} {e : Expr} {fx : DE} {p pos : Pos}
end
end Dn
namespace ZS
open PySem PySem.Spec PyProof.Rows
open PySem.Sem (wp)
section
variable {prog : Program} {w : World} {A : Around} {E : Value → Shared → Prop} {s : Shared}
end
section
variable {prog : Program} {w : World} {A : Around} {E : Value → Shared → Prop} {s : Shared}
end
section
variable {M : Model} {A : Around} {E : Value → Shared → Prop} {s : Shared} {env : Env}
end
open L2
end ZS
namespace Dn
open PySem PySem.Spec PyProof.Rows L2
section
variable {W : Wd} {M : Md W} {E : WX} {X : Cx} {e e2 : Expr} {kws : List Keyword} {fa fk : DA} {p pos tpos : Pos} {elts : List Expr} {kk : Nat}
end
end Dn
namespace Dn
open PySem PySem.Spec PyProof.Rows L2
section
variable {X : Cx} {body : List Stmt} {rest : List MatchCase} {p p1 p2 pos : Pos} {x : Str} {j : Nat} {t : TS} {u : Str → TS} {e : Expr}
end
section
variable {W : Wd} {M : Md W} {E : WX} {X : Cx} {body : List Stmt} {rest : List MatchCase} {p p1 p2 pos : Pos} {x : Str} {j : Nat} {fb d : DS} {cs : List (Str × DS)} {e : Expr} {f : DE}
end
end Dn
namespace Dn
open PySem PySem.Spec PyProof.Rows L2
section
variable {W : Wd} {M : Md W} {E : WX} {X : Cx} {a b : Expr} {es : List Expr} {f g : DE} {pos : Pos}
end
section
variable {W : Wd} {M : Md W} {E : WX} {X : Cx} {k j n q : Nat} {ps ks : List Str} {F : DF} {x : Str} {p pos : Pos} {kws : List Keyword} {fk : DA} {ix : List Nat} {dfl : List AV} {bs : Bs}
end
end Dn
namespace Dn
open PySem PySem.Spec PyProof.Rows L2
section
variable {W : Wd} {M : Md W} {E : WX} {X : Cx} {o e f : Expr} {fo fk fx : DE} {apos cpos : Pos}
end
section
variable {W : Wd} {M : Md W} {E : WX} {X : Cx} {k j n i i1 i2 t : Nat} {F : DF} {x : Str} {p pos apos : Pos} {e ea eb o : Expr} {fo : DE}
end
section
variable {W : Wd} {M : Md W} {E : WX} {X : Cx} {x : Str} {l : List (Str × List Str)} {e : Expr} {fx : DE} {p pos : Pos}
end
end Dn
namespace Dn
open PySem PySem.Spec PyProof.Rows L2
end Dn
namespace Dn
open PySem PySem.Spec PyProof.Rows L2
section
variable {X : Cx} {pins : List (Addr × Obj)} {σ : L2.St} {H : Hp} {s : Shared}
end
section
variable {W : Wd} {io : List Addr} {H : Hp} {hp : Hep}
end
section
variable {W : Wd} {M : Md W} {E : WX} {X : Cx}
end
end Dn
namespace Dn
open PySem PySem.Spec PyProof.Rows L2
end Dn
namespace Dn
open PySem PySem.Spec PyProof.Rows L2
section
variable {W : Wd} {X : Cx}
end
end Dn
namespace Dn
open PySem PySem.Spec PyProof.Rows L2
section
variable {W : Wd} {M : Md W} {E : WX} {X : Cx} {f : DE} {e : Expr} {es : List Expr} {gs : DGs} {pos tpos p : Pos} {kk i n : Nat}
end
end Dn
namespace Dn
open PySem PySem.Spec PyProof.Rows L2
end Dn
namespace Dn
open PySem PySem.Spec PyProof.Rows L2
end Dn
namespace Dn
open PySem PySem.Spec PyProof.Rows L2
end Dn
namespace PySem
namespace DX
open PySem.W PySem.Calls PyProof.Rows
section
variable {md : Model} {ar : Around} {ex : Value → Shared → Prop} {hp : Heap} {gs : Array GenState} {dr : Drawn} {tc : Nat} {ops : OsState}
variable {cn qn : Str} {C N : Addr} {bs bm bmB : List Value} {hd : Bool} {sl : List Str} {sb : List Value} {ab : Bool} {col : Option Bool} {dd : Option Addr} {k0 k1 k2 k3 k5 : Option Value} {O nid : String} {kw : List (Str × Value)}
/-- the check of the call of `__new__`, with keywords -/
theorem newOkK (F : NewF O nid bmB) (same : ∀ X : String, bm.contains (.type X) = bmB.contains (.type X)) {more : List Value} {Q : Unit → Shared → Prop} (cAt : ClsAt hp cn qn C N bs bm hd sl sb ab col dd k0 k1 k2 k3 k5 nid) (z : Q () ⟨hp, gs, dr, tc, ops⟩) :
    wpAny md ar (checkBuiltinCall nid ⟨.ref C :: more, kw⟩) Q ex ⟨hp, gs, dr, tc, ops⟩ := by
  have isO : (Value.ref C :: bm).contains (.type O) = true := (List.contains_cons ..).trans ((congrArg (_ || ·) ((same O).trans F.has)).trans (Bool.or_true _))
  have st := F.sta
  simp only [checkBuiltinCall, F.spl, F.knd, F.sig]
  repeat
    first
      | refine wpAny_loadPart_at cAt ?_
      | (refine wpAny_isSubtype_exc cAt ?_
         rw [isO])
      | refine wpAny_staticBase_exc cAt ?_
      | refine wpAny_madeBy_exc cAt ?_
      | simp only [bne_self_eq_false, if_false, Bool.false_eq_true]
      | wp_step
  exact z
theorem typeOkK {M : Model} {rest : List Value} {Q : Unit → Shared → Prop} (cAt : ClsAt hp cn qn C N bs bm hd sl sb ab col dd k0 k1 k2 k3 k5 nid) (z : Q () ⟨hp, gs, dr, tc, ops⟩) :
    wpAny M ar (checkBuiltinCall "type.__call__" ⟨.ref C :: rest, kw⟩) Q ex ⟨hp, gs, dr, tc, ops⟩ := by
  have f3 := tc_sub
  have hT : (⟨hp, gs, dr, tc, ops⟩ : Shared).TypeIs (.ref C) "type" := ⟨_, cAt, rfl⟩
  simp only [checkBuiltinCall, tc_kind, tc_split]
  repeat (any_goals (first | assumption | with_reducible refine wpAny_loadPart_at cAt ?_ | with_reducible refine wpAny_onRaise ?_ | with_reducible refine wpAny_map ?_ | wp_step))
end
section
variable {prog : Program} {w : World} {ar : Around} {ex : Value → Shared → Prop} {R : Result → Shared → Prop} {hp : Heap} {gs : Array GenState} {dr : Drawn} {tc : Nat} {ops : OsState}
variable {cn qn : Str} {C N : Addr} {bs bm bmB : List Value} {hd : Bool} {sl : List Str} {sb : List Value} {ab : Bool} {col : Option Bool} {dd : Option Addr} {k0 k1 k2 k3 k5 : Option Value} {O nid : String} {kw : List (Str × Value)}
/-- `__new__` itself -/
theorem newRunK (F : NewF O nid bmB) (same : ∀ X : String, bm.contains (.type X) = bmB.contains (.type X)) {more : List Value} (cAt : ClsAt hp cn qn C N bs bm hd sl sb ab col dd k0 k1 k2 k3 k5 nid)
    (z : R (.ok (.ret (.ref (hp.objs.size + 1)))) ⟨(hp.push (W.kdv_tup more)).push (HandSPX.excO C hp.objs.size), gs, dr, tc, ops⟩) (few : more.length ≤ sizeLine) :
    codeAny (model prog w) ar (.builtin nid ⟨.ref C :: more, kw⟩) R ⟨hp, gs, dr, tc, ops⟩ := by
  have en := F.fin
  have isO : (Value.ref C :: bm).contains (.type O) = true := (List.contains_cons ..).trans ((congrArg (_ || ·) ((same O).trans F.has)).trans (Bool.or_true _))
  have noA : (Value.ref C :: bm).contains (.type "AttributeError") = false := (List.contains_cons ..).trans ((congrArg (_ || ·) ((same _).trans F.nat)).trans rfl)
  have noN : (Value.ref C :: bm).contains (.type "NameError") = false := (List.contains_cons ..).trans ((congrArg (_ || ·) ((same _).trans F.nnm)).trans rfl)
  refine codeAny_builtinAt F.ent ?_
  unfold Builtin.«BaseException.__new__»
  refine wpAt_bind (?_ : wpAt _ _ _ (stack >>= _) _ _ _)
  refine wpAt_bind (wpAt_stack fun _ _ => wpAt_of_wpAny ?_)
  wp_walk
  refine wpAt_of_wpAny ?_
  rw [F.own]
  repeat
    first
      | with_reducible refine wpAny_madeHere_exc F.can cAt ?_
      | with_reducible refine wpAny_loadPart_at cAt ?_
      | (with_reducible refine wpAny_isSubtype_exc cAt ?_
         first | rw [isO] | rw [noA] | rw [noN])
      | wp_step
  refine (?_ : R _ _)
  rw [Heap.size_push]
  exact z
/-- type.__call__ -/
theorem typeRunK (F : NewF O nid bmB) (same : ∀ X : String, bm.contains (.type X) = bmB.contains (.type X)) {more : List Value} {fI : Addr} {Q : Fin → Shared → Prop} (cAt : ClsAt hp cn qn C N bs bm hd sl sb ab col dd k0 k1 k2 k3 k5 nid)
    (li : W.Looks (model prog w) hp (typeLookup (.ref C) "__init__") (some (.ref fI))) (lb : ∀ me, W.Looks (model prog w) hp (bindSpecial (.ref fI) me) (.ref fI, [me])) (few : more.length ≤ sizeLine)
    (z : codeAny (model prog w) ar (.call (.ref fI) ⟨.ref (hp.objs.size + 1) :: more, kw⟩)
      (fun r s' => match r with | .ok (.ret v) => v = .none ∧ Q (.done (.ret (.ref (hp.objs.size + 1)))) s' | .ok _ => False | .error e => ex e s') ⟨(hp.push (W.kdv_tup more)).push (HandSPX.excO C hp.objs.size), gs, dr, tc, ops⟩) :
    wpAny (model prog w) ar (Builtin.«type.__call__» ⟨.ref C :: more, kw⟩) Q ex ⟨hp, gs, dr, tc, ops⟩ := by
  repeat
    first
      | with_reducible refine wpAny_loadPart_at cAt ?_
      | with_reducible refine wpAny_madeBy_exc cAt ?_
      | wp_step
  refine codeAny_call_builtin_code (Code.quiet_builtin _ F.qui) (newOkK F same cAt (newRunK F same cAt (?_ : wpAny _ _ _ _ _ _) few))
  have kp : ∀ b o, hp.get? b = some o → ((hp.push (W.kdv_tup more)).push (HandSPX.excO C hp.objs.size)).get? b = some o := fun b o q => Heap.get?_push_of_some _ (Heap.get?_push_of_some _ q)
  have at1 := kp _ _ cAt
  have at2 : ((hp.push (W.kdv_tup more)).push (HandSPX.excO C hp.objs.size)).get? (hp.objs.size + 1) = some (HandSPX.excO C hp.objs.size) := by heap_get
  have self : (Value.ref C :: bm).contains (.ref C) = true := by simp
  have l1 := li.keeps kp
  have l2 := (lb (.ref (hp.objs.size + 1))).keeps kp
  unfold isInstance
  repeat
    first
      | with_reducible refine wpAny_loadPart_at at2 ?_
      | (with_reducible refine wpAny_isSubtype_exc at1 ?_
         rw [self])
      | wp_step
  refine (?_ : wpAny _ _ (typeLookup (.ref C) _) _ _ _)
  refine l1.at (wpAny_holding (wpAny_bind (l2.at (wpAny_bind (wpAny_call (codeAny_mono z fun r s' y => ?_))))))
  cases r with
  | error er => exact y
  | ok fl =>
    cases fl with
    | ret u =>
      obtain ⟨e0, y2⟩ := (show u = .none ∧ Q (.done (.ret (.ref (hp.objs.size + 1)))) s' from y)
      subst e0
      first
        | exact wpAny_pure (wpAny_pure y2)
        | (wp_walk
           exact y2)
    | _ => exact (show False from y).elim
/-- C(.., k = v) -/
theorem makeRunK (F : NewF O nid bmB) (same : ∀ X : String, bm.contains (.type X) = bmB.contains (.type X)) {more : List Value} {fI : Addr} (cAt : ClsAt hp cn qn C N bs bm hd sl sb ab col dd k0 k1 k2 k3 k5 nid)
    (li : W.Looks (model prog w) hp (typeLookup (.ref C) "__init__") (some (.ref fI))) (lb : ∀ me, W.Looks (model prog w) hp (bindSpecial (.ref fI) me) (.ref fI, [me])) (few : more.length ≤ sizeLine)
    (z : codeAny (model prog w) (ar.under (.builtin "type.__call__" ⟨.ref C :: more, kw⟩)) (.call (.ref fI) ⟨.ref (hp.objs.size + 1) :: more, kw⟩) (W.InitBack (hp.objs.size + 1) R) ⟨(hp.push (W.kdv_tup more)).push (HandSPX.excO C hp.objs.size), gs, dr, tc, ops⟩) :
    codeAny (model prog w) ar (.call (.ref C) ⟨more, kw⟩) R ⟨hp, gs, dr, tc, ops⟩ := by
  have t1 := tc_lookup
  have t2 := tc_bind (.ref C)
  have ty : (⟨hp, gs, dr, tc, ops⟩ : Shared).TypeIs (.ref C) "type" := ⟨_, cAt, rfl⟩
  refine codeAny_of_tree (?_ : wpAny _ _ (callAny (.ref C) _) _ _ _)
  repeat
    any_goals
      first
        | assumption
        | with_reducible refine wpAny_loadPart_at cAt ?_
        | wp_step
  refine ⟨rfl, codeAny_call_builtin_at (Code.quiet_builtin _ (by decide +kernel)) entry_typeCall (typeOkK cAt (typeRunK F same cAt li lb few (codeAny_mono z fun r s' y => ?_)))⟩
  rcases r with e | (v | _ | _ | _) <;> exact y
end
end DX
end PySem

namespace Dn
open PySem PySem.Spec PyProof.Rows L2

/-- C(): a class without an own __init__ -/
def dXi (t : Nat) : DE := fun s h => .ok (.exi t) h
/-- C(e) -/
def dXiA (t : Nat) (f : DE) : DE := fun s h => (f s h).bind fun _ h1 => .ok (.exi t) h1
def xiO (T : XT) (c : Nat) (v : AV) (h : Hep) : R AV := match v with
  | .exi t => if T.n ≤ t ∧ t < T.m then .ok (.bl (T.sub t c)) h else .stuck
  | _ => .stuck
def xiT (T : XT) (n : String) (v : AV) (h : Hep) : R AV := match v with
  | .exi t => if T.n ≤ t ∧ t < T.m then (match tyLook T.ty t n with
    | some b => .ok (.bl b) h
    | none => .stuck) else .stuck
  | _ => .stuck
/-- isinstance(e, C), e an exception, C a class of the text -/
def dIsV (T : XT) (c : Nat) (f : DE) : DE := fun s h => (f s h).bind (xiO T c)
/-- isinstance(e, T), T a built-in one -/
def dIsVT (T : XT) (n : String) (f : DE) : DE := fun s h => (f s h).bind (xiT T n)
section
variable {X : Cx} {E : WX} {C : Addr} {nm : Str} {B newId initId : String} {bmB : List Value} {x : Str} {p pos kpos : Pos} {e : Expr}
/-- C(), kept -/
theorem pe_x0v (FB : ExcBaseFacts B newId initId bmB) (q : PySem.W.excIn X.K C bmB newId = true) (gC : X.mg x = some (.ref C)) (kC : PySem.W.keepIn X.K (.ref C) = true) (hg : Gl X x := by rfl) (hdb : (x == ("__debug__" : Str)) = false := by decide)
    (hpl : ((backTo pos (starEach [] X.env)).any (·.1) || (backToKw pos (keywordEach [] X.env)).any (·.1.isNone)) = false := by rfl) (hall : (backToKw pos (keywordEach [] X.env)).all (·.1.isSome) = true := by rfl) (hnil : ((backToKw pos (keywordEach [] X.env)).map (·.2)) = [] := by rfl) (hfm : (backToKw pos (keywordEach [] X.env)).filterMap (·.1) = [] := by rfl) :
    PE X (.Call (.Name x p) [] [] pos) (fun _ H Q => ∀ a, H a = none → Q (.ref a) (upd H a (exo a C none))) := ⟨fun pins s σ H Q I h => by
  refine wpAny_Call_Name_kw (ld_glob I hg gC ?_ hdb)
  refine PySem.W.callWith_KW0 (h₀ := X.base) I.ok.mod.kin kC hall ?_ hpl
  rw [hnil, hfm]
  unfold evalAll
  refine wpAny_pure ⟨I.kIn, ?_⟩
  show wpAny _ _ (call (.ref C) []) _ _ _
  obtain ⟨bm, N, nm, qn, bs, hdct, sn, sub, ab, col, dd, k0, k1, k2, k3, k5, mN, hC, hN, hni, T⟩ := exc_obj I.kIn q
  refine wpAny_call_exc_subT FB T hC hN hni (fun h' e hm => ?_) (by rw [sizeLine_eq]; decide)
  have hn : H e = none := I.hok.gone hm.new
  obtain ⟨t, ht, _, _⟩ := hm.there
  exact ⟨.ref e, upd H e (exo e C none), I.laidN hm.keeps hm.new hn (exo_ok ht), rfl, h e hn⟩⟩
/-- the end of C(e): its own dict, the exception -/
theorem xi_two {H : Hp} {a dx : Addr} {o1 o2 o3 : HO} (n : dx ≠ a) : upd (upd (upd H a o1) dx o2) a o3 = upd (upd H dx o2) a o3 := by
  funext b
  by_cases c : b = a
  · subst c
    rw [upd_same, upd_same]
  · rw [upd_ne c, upd_ne c]
    by_cases c2 : b = dx
    · subst c2
      rw [upd_same, upd_same]
    · rw [upd_ne c2, upd_ne c2, upd_ne c]
/-- C(e) with such an __init__, kept: n values by position, the others by keywords -/
theorem run_xiv {pins : List (Addr × Obj)} {σ : L2.St} {H1 : Hp} {s1 : Shared} {Q : VK} {us ws : List Value} {vs zs : List V} {y : V} {k n : Nat} {ks : List Str} {fI : Addr} {fd : FuncData} {ps : List Str} {g : List Value → List Value → List Value} {gV : List V → List V → List V}
    (FB : PySem.DX.NewF B newId bmB) (T : Xi X.K C bmB newId nm) (iC : PySem.W.findIn X.K (.ref C) "__init__" = some (some (.ref fI))) (tI : PySem.W.typeIn X.K (.ref fI) = some (.type "function"))
    (F : FnOk X.prog X.w X.K X.mg X.base (L2.CX X.prog X.w) k fI fd ps (spXi X.K bmB newId nm)) (hr : Room (k + 1) X.A) (hb : KBn X.K fd ps (n + 1) ks g gV) (tk : Takes X E)
    (I1 : Inv X pins σ H1 s1) (r : Vals vs us) (rz : Vals zs ws) (l1 : vs.length = n) (l2 : zs.length = ks.length) (few : us.length ≤ 9) (hgv : ∀ z, gV (z :: vs) zs = [z, y])
    (fin : ∀ a dx, H1 dx = none → H1 a = none → dx ≠ a → Q (.ref a) (upd (upd H1 dx (exd dx [(nm, y)])) a (exo a C (some dx)))) :
    wpAny (model X.prog X.w) X.A (call (.ref C) us (ks.zip ws)) (EP X pins σ Q) X.xe s1 := by
  obtain ⟨G, gs, dr, tk0, os⟩ := s1
  obtain ⟨nm', N', qn, bs, bm, hdct, sn, sub, ab, col, dd, k0, k1, k2, k3, k5, hC, hT⟩ := PySem.W.excInit_of (I1.kIn) T.ini
  have big : G.objs.size ≤ G.objs.size + 1 := Nat.le_succ _
  have fresh : H1 (G.objs.size + 1) = none := I1.hok.fresh big
  have kp : ∀ b o, G.get? b = some o → ((G.push (PySem.W.kdv_tup us)).push (PySem.HandSPX.excO C G.objs.size)).get? b = some o := fun b o z => Heap.get?_push_of_some _ (Heap.get?_push_of_some _ z)
  have at2 : ((G.push (PySem.W.kdv_tup us)).push (PySem.HandSPX.excO C G.objs.size)).get? (G.objs.size + 1) = some (PySem.HandSPX.excO C G.objs.size) := by heap_get
  have I2 : Inv X pins σ (upd H1 (G.objs.size + 1) (exo (G.objs.size + 1) C none)) ⟨(G.push (PySem.W.kdv_tup us)).push (PySem.HandSPX.excO C G.objs.size), gs, dr, tk0, os⟩ := I1.laid (t' := tk0) kp big (exo_ok at2)
  have one : us.length ≤ sizeLine := by
    rw [sizeLine_eq]
    omega
  have r1 : Vals (V.ref (G.objs.size + 1) :: vs) (Value.ref (G.objs.size + 1) :: us) := .cons rfl r
  have r2 := hb.rel r1 rz
  rw [hgv] at r2
  have n1 : (Value.ref (G.objs.size + 1) :: us).length = n + 1 := by
    rw [List.length_cons, ← r.length, l1]
  have pr : spXi X.K bmB newId nm [V.ref (G.objs.size + 1), y] (upd H1 (G.objs.size + 1) (exo (G.objs.size + 1) C none)) (fun v H2 => v = .non ∧ ∃ dx, H1 dx = none ∧ dx ≠ G.objs.size + 1 ∧ H2 = upd (upd (upd H1 (G.objs.size + 1) (exo (G.objs.size + 1) C none)) dx (exd dx [(nm, y)])) (G.objs.size + 1) (exo (G.objs.size + 1) C (some dx))) (fun _ _ _ => False) :=
    ⟨_, C, y, rfl, T, upd_same, fun dx f n => ⟨rfl, dx, by rw [upd_ne n] at f; exact f, n, rfl⟩⟩
  refine wpAny_call (PySem.DX.makeRunK FB hT hC (PySem.W.looks_findIn I1.kIn iC) (fun self => PySem.W.bind_fn I1.kIn self tI) one
    (codeAny_mono (F.run _ X.stack _ _ ⟨Value.ref (G.objs.size + 1) :: us, ks.zip ws⟩ _ _ _ (fun _ _ _ => False) (hr.make C us (ks.zip ws)) (I2.env0.make C us (ks.zip ws)) (hb.to _ (Value.ref (G.objs.size + 1) :: us) ws I2.kIn n1 (rz.length.symm.trans l2)) r2 pr) fun r s' z => ?_))
  cases r with
  | error er => exact passAt tk σ pins _ _ er s' I2 (by
      obtain ⟨a, B', H', cls, dd', _, _, _, _, _, _, _, w⟩ := z
      exact w.elim)
  | ok fl =>
    cases fl with
    | ret v =>
      obtain ⟨v', H2, I3, rv, rfl, dx, f1, n1, rfl⟩ := I2.after z
      refine ⟨rv, ⟨V.ref (G.objs.size + 1), _, I3, rfl, ?_⟩⟩
      rw [xi_two n1]
      exact fin _ dx f1 fresh n1
    | next => exact z.elim
    | brk => exact z.elim
    | cont => exact z.elim
/-- the field of a kept exception -/
def tXg (C : Addr) (f : Str) (te : TE) : TE := fun σ H Q => te σ H fun x H1 => ∃ (a dd : Addr) (fs : List (Str × V)) (v : V), x = .ref a ∧ H1 a = some (exo a C (some dd)) ∧ H1 dd = some (exd dd fs) ∧ fs.lookup f = some v ∧ Q v H1
theorem pe_xg {te : TE} {n : Str} (T : XfC X.K C) (hno : PySem.W.findIn X.K (.ref C) n = some none)
    (he : PE X e te) (hb : attributeBase e n X.env (eval e X.env) = eval e X.env := by rfl) :
    PE X (.Attribute e n pos) (tXg C n te) := by
  refine ⟨fun pins s σ H Q I h => ?_⟩
  refine attr_of hb (thn (he.run pins s σ H _ I h) fun u s1 hh => ?_)
  obtain ⟨x, H1, I1, rx, a, dd, fs, v, ex, ea, ed, l, q⟩ := hh
  subst ex
  obtain rfl : u = Value.ref a := rx
  obtain ⟨t1, ha⟩ := exo_at I1.hok ea
  obtain ⟨mA, hns, hr⟩ := exd_at I1.hok ed
  obtain ⟨od, ho, hl⟩ := lookIn_ns hns
  obtain ⟨u, hu, ru⟩ := RelO.some_of (v := v) (o := mA n) (by rw [← l]; exact hr n)
  have J : PySem.W.InstAt s1.heap a _ C (some od) := ⟨ha, rfl, rfl, ho⟩
  exact HandSPX.exc_get I1.kIn J T.ga T.gg T.exC (PySem.W.findObj_own T.hdC hno rfl (by rw [hl, hu])) (handed_of ru) ⟨v, H1, I1.tok _, ru, q⟩
end

section
variable {W : Wd} {M : Md W} {E : WX} {X : Cx} {t j k : Nat} {x : Str} {e : Expr} {f : DE} {p p2 pos : Pos}
theorem xi_ext {io : List Addr} {H1 : Hp} {a dx : Addr} {o1 o2 : HO} (f1 : H1 dx = none) (f2 : H1 a = none) (n : dx ≠ a) : Ext W io H1 io (upd (upd H1 dx o1) a o2) :=
  (Ext.new0 f1).trans (Ext.new0 (by rw [upd_ne (Ne.symm n)]; exact f2))
theorem xi_rl {io : List Addr} {hp : Hep} {H1 : Hp} {a dx : Addr} {o1 o2 : HO} (rl : Rl W io hp H1) (f1 : H1 dx = none) (f2 : H1 a = none) (n : dx ≠ a) : Rl W io hp (upd (upd H1 dx o1) a o2) :=
  (rl.other f1).other (by rw [upd_ne (Ne.symm n)]; exact f2)
/-- C() -/
theorem xiV0 (h : HasX0 X.mg W t x) (hK : X.K = W.K) (hg : Gl X x := by rfl) (hdb : (x == ("__debug__" : Str)) = false := by decide)
    (hpl : ((backTo pos (starEach [] X.env)).any (·.1) || (backToKw pos (keywordEach [] X.env)).any (·.1.isNone)) = false := by rfl) (hall : (backToKw pos (keywordEach [] X.env)).all (·.1.isSome) = true := by rfl) (hnil : ((backToKw pos (keywordEach [] X.env)).map (·.2)) = [] := by rfl) (hfm : (backToKw pos (keywordEach [] X.env)).filterMap (·.1) = [] := by rfl) :
    PE X (.Call (.Name x p) [] [] pos) (tD W M E (dXi t)) := by
  obtain ⟨B, newId, initId, bmB, FB, h1, h2, h3, h4, h5⟩ := h
  rw [← hK] at h1 h3 h4 h5
  refine peI (pe_x0v FB h1 h2 h3 hg hdb hpl hall hnil hfm) fun σ H Q ⟨io, hp, as, rl, S, P⟩ a na => ?_
  exact P io _ (.ref a) (Ext.new0 na) (rl.other na) (.exi ⟨none, upd_same, fun _ z => nomatch z⟩)
/-- C(e), kept -/
def tXv (C : Addr) (nm : Str) (ta : TA) : TE := fun σ H Q => ta σ H fun vs H1 => ∃ y, vs = [y] ∧ ∀ a dx, H1 dx = none → H1 a = none → dx ≠ a → Q (.ref a) (upd (upd H1 dx (exd dx [(nm, y)])) a (exo a C (some dx)))
section
variable {C fI : Addr} {nm : Str} {B newId : String} {bmB : List Value} {fd : FuncData} {ps ks : List Str} {kws : List Keyword} {ta : TA} {fk : DA}
theorem pe_xiv (FB : PySem.DX.NewF B newId bmB) (T : Xi X.K C bmB newId nm) (iC : PySem.W.findIn X.K (.ref C) "__init__" = some (some (.ref fI))) (tI : PySem.W.typeIn X.K (.ref fI) = some (.type "function"))
    (F : FnOk X.prog X.w X.K X.mg X.base (L2.CX X.prog X.w) k fI fd ps (spXi X.K bmB newId nm)) (hr : Room (k + 1) X.A) (hb : Binds X.K fd ps []) (tk : Takes X E)
    (hm : X.mg x = some (.ref C)) (ha : PA X [e] ta) (hg : Gl X x := by rfl) (hdb : (x == ("__debug__" : Str)) = false := by decide) (hse : starEach [e] X.env = (false, eval e X.env) :: starEach [] X.env := by rfl) (hpl : (backTo p2 (starEach [] X.env)).any (·.1) = false := by rfl) :
    PE X (.Call (.Name x p) [e] [] p2) (tXv C nm ta) := ⟨fun pins s σ H Q I h => by
  refine wpAny_Call_Name_kw (ld_glob I hg hm ?_ hdb)
  refine PySem.W.callWith_K (h₀ := X.base) I.ok.mod.kin T.kep (thn (ha.run p2 pins s σ H _ I h) fun us s1 q0 => ?_) hse hpl
  obtain ⟨vs, H1, I1, r1, y, rfl, fin⟩ := q0
  refine ⟨I1.kIn, ?_⟩
  have l1 : us.length = 1 := r1.length.symm
  have lps : ps.length = 2 := (F.len [V.ref 0, y] (fun b => if b = 0 then some (exo 0 C none) else none) (fun _ _ => True) (fun _ _ _ => True) ⟨0, C, y, rfl, T, if_pos rfl, fun _ _ _ => True.intro⟩).symm
  have kb : KBn X.K fd ps (1 + 1) [] (fun us _ => us) (fun vs _ => vs) := ⟨fun s us ws X l1 l2 => by
    have z := hb s us X (by rw [List.append_nil]; omega)
    rw [List.append_nil] at z
    exact z, fun r _ => r⟩
  exact run_xiv (ws := []) (zs := []) (n := 1) (ks := []) FB T iC tI F hr kb tk I1 r1 .nil rfl rfl (by show us.length ≤ 9; omega) (fun z => rfl) (fun a dx f1 f2 n => fin a dx f1 f2 n)⟩
/-- an __init__ called by keywords: the first parameter, then the keywords' values -/
theorem kbX {q qual : Str} {params : Arguments} {body : List Stmt} {scope : Scope} {kwd : List (Str × V)} {K : PySem.W.Frag} (F : FunD K q qual params body scope [] kwd fI fd)
    (h : ∀ (kV doc pm : Value) (an : Option Addr) (cdv ct : Value) (us ws : List Value), us.length = 1 → ws.length = ks.length → bindArgs (PySem.W.fnOf q qual params body scope .none kV doc pm an cdv ct) ⟨us, ks.zip ws⟩ = pure (ps.zip (us ++ ws))) :
    KBn K fd ps 1 ks (fun us ws => us ++ ws) (fun vs zs => vs ++ zs) := by
  obtain ⟨oc, od, dV, kV, doc, pm, an, cdv, ct, osl, rfl, lk, hcd, hD, hK⟩ := F.ex
  rcases hD with ⟨_, rfl⟩ | ⟨e, _⟩
  · exact ⟨fun s us ws X l1 l2 => .of_eq (h kV doc pm an cdv ct us ws l1 l2), fun r1 r2 => r1.append r2⟩
  · exact absurd rfl e
theorem pe_xik (FB : PySem.DX.NewF B newId bmB) (T : Xi X.K C bmB newId nm) (iC : PySem.W.findIn X.K (.ref C) "__init__" = some (some (.ref fI))) (tI : PySem.W.typeIn X.K (.ref fI) = some (.type "function"))
    (F : FnOk X.prog X.w X.K X.mg X.base (L2.CX X.prog X.w) k fI fd ps (spXi X.K bmB newId nm)) (hr : Room (k + 1) X.A) (hb : KBn X.K fd ps 1 ks (fun us ws => us ++ ws) (fun vs zs => vs ++ zs)) (tk : Takes X E) (h1 : ks.length = 1)
    (hm : X.mg x = some (.ref C)) (hkw : PK X kws ta) (hg : Gl X x := by rfl) (hall : (backToKw p2 (keywordEach kws X.env)).all (·.1.isSome) = true := by rfl) (hks : (backToKw p2 (keywordEach kws X.env)).filterMap (·.1) = ks := by rfl)
    (hdb : (x == ("__debug__" : Str)) = false := by decide) (hpl : ((backTo p2 (starEach [] X.env)).any (·.1) || (backToKw p2 (keywordEach kws X.env)).any (·.1.isNone)) = false := by rfl) :
    PE X (.Call (.Name x p) [] kws p2) (tXv C nm ta) := ⟨fun pins s σ H Q I h => by
  refine wpAny_Call_Name_kw (ld_glob I hg hm ?_ hdb)
  refine PySem.W.callWith_KW0 (h₀ := X.base) I.ok.mod.kin T.kep hall ?_ hpl
  refine thn (hkw.run p2 pins s σ H _ I h) fun ws s1 q0 => ?_
  obtain ⟨zs, H1, I1, r1, y, rfl, fin⟩ := q0
  refine ⟨I1.kIn, ?_⟩
  rw [hks]
  exact run_xiv (us := []) (vs := []) (n := 0) FB T iC tI F hr hb tk I1 .nil r1 rfl h1.symm (by simp) (fun z => rfl) (fun a dx f1 f2 n => fin a dx f1 f2 n)⟩
end
/-- such a class, called by keywords -/
def HasXK (P : Program) (w : World) (mg : Str → Option Value) (base : Heap) (W : Wd) (t j : Nat) (x : Str) (ks : List Str) : Prop := ∃ (B newId : String) (bmB : List Value) (nm : Str) (fI : Addr) (fd : FuncData) (ps : List Str), PySem.DX.NewF B newId bmB ∧ W.fn[j]? = some nm ∧ Xi W.K (W.cl t) bmB newId nm ∧
  PySem.W.findIn W.K (.ref (W.cl t)) "__init__" = some (some (.ref fI)) ∧ PySem.W.typeIn W.K (.ref fI) = some (.type "function") ∧ FnOk P w W.K mg base (L2.CX P w) 1 fI fd ps (spXi W.K bmB newId nm) ∧ KBn W.K fd ps 1 ks (fun us ws => us ++ ws) (fun vs zs => vs ++ zs) ∧ mg x = some (.ref (W.cl t))
theorem xkB_ok {P : Program} {w : World} {mg : Str → Option Value} {base : Heap} {W : Wd} {t j : Nat} {x nm : Str} {p : Pth} {B newId : String} {bmB : List Value} {fd : FuncData} {ps ks : List Str} (F : PySem.DX.NewF B newId bmB) (hc : W.cl t = He.ga W.K x) (hm : mg x = some (.ref (He.ga W.K x))) (hj : W.fn[j]? = some nm)
    (h : xiB x nm p bmB newId W.K = true) (fo : FnOk P w W.K mg base (L2.CX P w) 1 (p W.K) fd ps (spXi W.K bmB newId nm)) (kb : KBn W.K fd ps 1 ks (fun us ws => us ++ ws) (fun vs zs => vs ++ zs)) : HasXK P w mg base W t j x ks := by
  obtain ⟨h1, h⟩ := He.ba h
  obtain ⟨h2, h⟩ := He.ba h
  obtain ⟨h3, h⟩ := He.ba h
  obtain ⟨h4, h⟩ := He.ba h
  obtain ⟨h5, h⟩ := He.ba h
  obtain ⟨h6, h⟩ := He.ba h
  obtain ⟨h7, h⟩ := He.ba h
  obtain ⟨h8, h⟩ := He.ba h
  obtain ⟨h9, h10⟩ := He.ba h
  refine ⟨B, newId, bmB, nm, p W.K, fd, ps, F, hj, ⟨?_, ?_, ?_, ?_, ?_, ?_, ?_, ?_⟩, by rw [hc]; exact He.eqO_ok h6, of_decide_eq_true h7, fo, kb, by rw [hc]; exact hm⟩
  · rw [hc]; exact h1
  · rw [hc]; exact h2
  · rw [hc]; exact He.eqO_ok h3
  · rw [hc]; exact h4
  · rw [hc]; exact He.eqO_ok h5
  · rw [hc]; exact of_decide_eq_true h8
  · rw [hc]; exact of_decide_eq_true h9
  · rw [hc]; exact h10
theorem xi_args {σ : L2.St} {H : Hp} {Q : VK} {nm : Str} (h : tD W M E (dXiA t f) σ H Q) : tXv (W.cl t) nm (tDA W M E (dCons f dNil)) σ H Q := by
  obtain ⟨io, hp, as, rl, S, P⟩ := h
  refine ⟨io, hp, as, rl, S, ?_⟩
  have P' : Pst W (RV W) E σ Q io H ((f as hp).bind fun _ h1 => .ok (.exi t) h1) := P
  unfold dCons dNil
  cases z : f as hp with
  | stuck =>
    rw [z] at P'
    exact P'
  | exc t' fs hp1 =>
    rw [z] at P'
    exact P'
  | ok a hp1 =>
    rw [z] at P'
    intro io' H' xs e' rl' rxs
    match xs, rxs with
    | [y], .cons ry .nil =>
      exact ⟨y, rfl, fun a dx f1 f2 n => P' io' _ (.ref a) (e'.trans (xi_ext f1 f2 n)) (xi_rl rl' f1 f2 n) (.exi ⟨some dx, upd_same, fun dd z => by
        cases z
        exact ⟨_, by rw [upd_ne n]; exact upd_same⟩⟩)⟩
theorem xi_argsG {σ : L2.St} {H : Hp} {Q : VK} {nm : Str} (h : tD W M E f σ H Q) : tXg (W.cl t) nm (tXv (W.cl t) nm (tDA W M E (dCons f dNil))) σ H Q := by
  obtain ⟨io, hp, as, rl, S, P⟩ := h
  refine ⟨io, hp, as, rl, S, ?_⟩
  unfold dCons dNil
  cases z : f as hp with
  | stuck =>
    rw [z] at P
    exact P
  | exc t' fs hp1 =>
    rw [z] at P
    exact P
  | ok a hp1 =>
    rw [z] at P
    intro io' H' xs e' rl' rxs
    match xs, rxs with
    | [y], .cons ry .nil =>
      exact ⟨y, rfl, fun a dx f1 f2 n => ⟨a, dx, [(nm, y)], y, rfl, upd_same, by rw [upd_ne n]; exact upd_same, by simp [List.lookup], P io' _ y (e'.trans (xi_ext f1 f2 n)) (xi_rl rl' f1 f2 n) (ry.mono (xi_ext f1 f2 n))⟩⟩
/-- C(e) -/
theorem xiV1 (h : HasXI X.prog X.w X.mg X.base W t j x) (hr : Room k X.A) (hk : 2 ≤ k) (hK : X.K = W.K) (tk : Takes X E) (he : PE X e (tD W M E f)) (hg : Gl X x := by rfl) (hdb : (x == ("__debug__" : Str)) = false := by decide)
    (hse : starEach [e] X.env = (false, eval e X.env) :: starEach [] X.env := by rfl) (hpl : (backTo p2 (starEach [] X.env)).any (·.1) = false := by rfl) :
    PE X (.Call (.Name x p) [e] [] p2) (tD W M E (dXiA t f)) := by
  obtain ⟨B, newId, bmB, nm, fI, fd, ps, FB, hn, T, iC, tI, F, hb, hm⟩ := h
  rw [← hK] at T iC tI F hb
  exact peI (pe_xiv FB T iC tI F (hr.mono hk) hb tk hm (aD (M := M) (E := E) he nD hse) hg hdb hse hpl) fun σ H Q h => xi_args h
/-- C(e).nm -/
theorem xiG1 {T' : XT} {nm : Str} (w : XWd W T') (t1 : T'.n ≤ t) (t2 : t < T'.m) (h : HasXI X.prog X.w X.mg X.base W t j x) (hj : W.fn[j]? = some nm) (hr : Room k X.A) (hk : 2 ≤ k) (hK : X.K = W.K) (tk : Takes X E) (he : PE X e (tD W M E f)) (hg : Gl X x := by rfl) (hdb : (x == ("__debug__" : Str)) = false := by decide)
    (hse : starEach [e] X.env = (false, eval e X.env) :: starEach [] X.env := by rfl) (hpl : (backTo p2 (starEach [] X.env)).any (·.1) = false := by rfl)
    (hab : attributeBase (.Call (.Name x p) [e] [] p2) nm X.env (eval (.Call (.Name x p) [e] [] p2) X.env) = eval (.Call (.Name x p) [e] [] p2) X.env := by rfl) :
    PE X (.Attribute (.Call (.Name x p) [e] [] p2) nm pos) (tD W M E f) := by
  have xf := w.xf t t1 t2
  have no := w.no t nm t1 t2 (List.mem_of_getElem? hj)
  obtain ⟨B, newId, bmB, nm', fI, fd, ps, FB, hn, T, iC, tI, F, hb, hm⟩ := h
  rw [hj] at hn
  cases hn
  rw [← hK] at T iC tI F hb xf no
  exact peI (pe_xg xf no (pe_xiv FB T iC tI F (hr.mono hk) hb tk hm (aD (M := M) (E := E) he nD hse) hg hdb hse hpl) hab) fun σ H Q h => xi_argsG h
/-- C(nm = e).nm -/
theorem xiGK {T' : XT} {nm : Str} {ks : List Str} {kws : List Keyword} (w : XWd W T') (t1 : T'.n ≤ t) (t2 : t < T'.m) (h : HasXK X.prog X.w X.mg X.base W t j x ks) (hj : W.fn[j]? = some nm) (hr : Room k X.A) (hk : 2 ≤ k) (hK : X.K = W.K) (tk : Takes X E) (hkw : PK X kws (tDA W M E (dCons f dNil))) (h1 : ks.length = 1 := by rfl) (hg : Gl X x := by rfl) (hdb : (x == ("__debug__" : Str)) = false := by decide)
    (hall : (backToKw p2 (keywordEach kws X.env)).all (·.1.isSome) = true := by rfl) (hks : (backToKw p2 (keywordEach kws X.env)).filterMap (·.1) = ks := by rfl)
    (hpl : ((backTo p2 (starEach [] X.env)).any (·.1) || (backToKw p2 (keywordEach kws X.env)).any (·.1.isNone)) = false := by rfl)
    (hab : attributeBase (.Call (.Name x p) [] kws p2) nm X.env (eval (.Call (.Name x p) [] kws p2) X.env) = eval (.Call (.Name x p) [] kws p2) X.env := by rfl) :
    PE X (.Attribute (.Call (.Name x p) [] kws p2) nm pos) (tD W M E f) := by
  have xf := w.xf t t1 t2
  have no := w.no t nm t1 t2 (List.mem_of_getElem? hj)
  obtain ⟨B, newId, bmB, nm', fI, fd, ps, FB, hn, T, iC, tI, F, hb, hm⟩ := h
  rw [hj] at hn
  cases hn
  rw [← hK] at T iC tI F hb xf no
  exact peI (pe_xg xf no (pe_xik FB T iC tI F (hr.mono hk) hb tk h1 hm hkw hg hall hks hdb hpl) hab) fun σ H Q h => xi_argsG h
end

section
variable {W : Wd} {M : Md W} {E : WX} {X : Cx} {T : XT} {e : Expr} {f : DE} {pos p2 p3 : Pos} {xc : Str}
/-- isinstance(e, c), e a kept exception -/
theorem call_iv {c : V} {cv : Value} (w : XWd W T) (hK : X.K = W.K) (hc : ∀ u, RelV c u → u = cv) : CallR X (.builtin "isinstance") (fun xs H Q => ∃ (a : Addr) (t : Nat) (b : Bool), xs = [.ref a, c] ∧ T.n ≤ t ∧ t < T.m ∧ XiO (W.cl t) H a ∧ PySem.W.kitOne X.K (.ref (W.cl t)) cv = some b ∧ Q (.bl b) H) := by
  intro pins s σ H xs us Q I r h
  obtain ⟨a, t, b, rfl, h1, h2, ⟨d, ea, hd⟩, e, q⟩ := h
  cases r with
  | cons rx rr =>
    cases rr with
    | cons rt rr =>
      cases rr
      cases rx
      have ec' := hc _ rt
      subst ec'
      have ec := w.ec t h1 h2
      rw [← hK] at ec
      have hcl : (PySem.W.clsIn X.K (W.cl t)).isSome = true := by
        obtain ⟨cd, hc, _⟩ := PySem.W.any_some ec.hd
        rw [hc]
        rfl
      obtain ⟨t1, ha⟩ := exo_at I.hok ea
      obtain ⟨ox, od, J⟩ : ∃ ox od, PySem.W.InstAt s.heap a ox (W.cl t) od := by
        cases d with
        | none => exact ⟨_, none, ha, rfl, rfl, trivial⟩
        | some dd =>
          obtain ⟨fs, hdd⟩ := hd dd rfl
          obtain ⟨mA, hns, _⟩ := exd_at I.hok hdd
          obtain ⟨o, ho, _⟩ := lookIn_ns hns
          exact ⟨_, some o, ha, rfl, rfl, ho⟩
      exact PySem.W.kia_one (PySem.W.kitx_exc hcl ec.hg ec.hk ec.hs ec.ha ec.hn ec.ht ec.hm) I.kIn J e (fun z => nomatch z) fun tk => ⟨.bl b, H, I.kept (t' := tk) fun _ _ z => z, rfl, q⟩
theorem isVT {n : String} (w : XWd W T) (hK : X.K = W.K) (hm : X.mg "isinstance" = none) (he : PE X e (tD W M E f)) (hm2 : X.mg xc = none) (hv : bootBuiltins xc = some (.type n))
    (hg : Gl X "isinstance" := by rfl) (hg2 : Gl X xc := by rfl) (hn : xc ≠ "__name__" := by decide) (hdb : (xc == ("__debug__" : Str)) = false := by decide)
    (hs : starEach [e, .Name xc p2] X.env = (false, eval e X.env) :: starEach [.Name xc p2] X.env := by rfl) (hs2 : starEach [.Name xc p2] X.env = (false, eval (.Name xc p2) X.env) :: starEach [] X.env := by rfl) (hpl : (backTo pos (starEach [.Name xc p2] X.env)).any (·.1) = false := by rfl) :
    PE X (.Call (.Name "isinstance" p3) [e, .Name xc p2] [] pos) (tD W M E (dIsVT T n f)) := by
  have cr := call_iv (X := X) (W := W) (T := T) (c := .ty n) (cv := .type n) w hK fun u r => r
  have ta : PA X [e, .Name xc p2] (tCons (tD W M E f) (tCons (tC (.ty n)) tNil)) := pa_cons he (pa_cons (pe_bltn hg2 hm2 hv (v := .ty n) rfl hn hdb) pa_nil (by exact hs2)) (by exact hs)
  refine peI (pe_callB cr hg hm PyProof.Rows.Boot.«isinstance» ta (by decide) (by decide) (by exact hs) (by exact hpl)) fun σ H Q ⟨io, hp, as, rl, S, P⟩ => ?_
  refine ⟨io, hp, as, rl, S, ?_⟩
  have P' : Pst W (RV W) E σ Q io H ((f as hp).bind (xiT T n)) := P
  cases z : f as hp with
  | stuck =>
    rw [z] at P'
    exact P'
  | exc t' fs hp1 =>
    rw [z] at P'
    exact P'
  | ok v hp1 =>
    rw [z] at P'
    intro io' H' x e' rl' rv
    have P2 := Pst.later P' e'
    cases rv with
    | @exi t a xo =>
      have P3 : Pst W (RV W) E σ Q io' H' (if T.n ≤ t ∧ t < T.m then (match tyLook T.ty t n with
        | some b => .ok (.bl b) hp1
        | none => .stuck) else .stuck) := P2
      by_cases ht : T.n ≤ t ∧ t < T.m
      · rw [if_pos ht] at P3
        cases z2 : tyLook T.ty t n with
        | none =>
          rw [z2] at P3
          exact P3.elim
        | some b =>
          rw [z2] at P3
          have e2 := w.ty _ (tyLook_in z2)
          rw [← hK] at e2
          exact ⟨a, t, b, rfl, ht.1, ht.2, xo, e2, P3.ok rl' (.bl b)⟩
      · rw [if_neg ht] at P3
        exact P3.elim
    | _ => exact P2.elim
theorem isVO {cc : Nat} (ho : XOk W T cc) (w : XWd W T) (hK : X.K = W.K) (hm : X.mg "isinstance" = none) (he : PE X e (tD W M E f)) (hm2 : X.mg xc = some (.ref (W.cl cc)))
    (hg : Gl X "isinstance" := by rfl) (hg2 : Gl X xc := by rfl) (hdb : (xc == ("__debug__" : Str)) = false := by decide)
    (hs : starEach [e, .Name xc p2] X.env = (false, eval e X.env) :: starEach [.Name xc p2] X.env := by rfl) (hs2 : starEach [.Name xc p2] X.env = (false, eval (.Name xc p2) X.env) :: starEach [] X.env := by rfl) (hpl : (backTo pos (starEach [.Name xc p2] X.env)).any (·.1) = false := by rfl) :
    PE X (.Call (.Name "isinstance" p3) [e, .Name xc p2] [] pos) (tD W M E (dIsV T cc f)) := by
  have cr := call_iv (X := X) (W := W) (T := T) (c := .ref (W.cl cc)) (cv := .ref (W.cl cc)) w hK fun u r => r
  have ta : PA X [e, .Name xc p2] (tCons (tD W M E f) (tCons (tC (.ref (W.cl cc))) tNil)) := pa_cons he (pa_cons (pe_glob hg2 hm2 (v := .ref (W.cl cc)) rfl hdb) pa_nil (by exact hs2)) (by exact hs)
  refine peI (pe_callB cr hg hm PyProof.Rows.Boot.«isinstance» ta (by decide) (by decide) (by exact hs) (by exact hpl)) fun σ H Q ⟨io, hp, as, rl, S, P⟩ => ?_
  refine ⟨io, hp, as, rl, S, ?_⟩
  have P' : Pst W (RV W) E σ Q io H ((f as hp).bind (xiO T cc)) := P
  cases z : f as hp with
  | stuck =>
    rw [z] at P'
    exact P'
  | exc t' fs hp1 =>
    rw [z] at P'
    exact P'
  | ok v hp1 =>
    rw [z] at P'
    intro io' H' x e' rl' rv
    have P2 := Pst.later P' e'
    cases rv with
    | @exi t a xo =>
      have P3 : Pst W (RV W) E σ Q io' H' (if T.n ≤ t ∧ t < T.m then .ok (.bl (T.sub t cc)) hp1 else .stuck) := P2
      by_cases ht : T.n ≤ t ∧ t < T.m
      · rw [if_pos ht] at P3
        have e2 := ho t ht.1 ht.2
        rw [← hK] at e2
        exact ⟨a, t, _, rfl, ht.1, ht.2, xo, e2, P3.ok rl' (.bl _)⟩
      · rw [if_neg ht] at P3
        exact P3.elim
    | _ => exact P2.elim
end
end Dn
namespace Q
open PySem Dn
def p__law_source : DS := (dSeq (dSet 2 (dC (.int 0))) (dSeq (dIfS (dTst (dOp ltAV (dVar 1) (dCB lenL (dCons (dVar 0) dNil))))
  (dSet 2 (dOp idxAV (dVar 0) (dVar 1)))
  dSkip) (dRet (dLst (dCons (dOp mulAV (dCB absL (dCons (dVar 2) dNil)) (dCB intL (dCons (dOp geAV (dCB absL (dCons (dVar 2) dNil)) (dOp powAV (dC (.int 10)) (dC (.int 18)))) dNil))) (dCons (dOp addAV (dOp mulAV (dOp addAV (dOp addAV (dOp modAV (dVar 2) (dC (.int 2305843009213693951))) (dOp mulAV (dC (.int 9341)) (dVar 1))) (dC (.int 29))) (dC (.int 16807))) (dVar 1)) (dCons (dC (.int 0)) dNil)))))))
def f__law_source : DF := dFun 3 p__law_source
def p__law_fields_right : DS := (dSeq (dSet 1 (dLst (dCons (dVar 0) (dCons (dVar 0) (dCons (dVar 0) (dCons (dVar 0) (dCons (dVar 0) dNil))))))) (dSeq (dSet 1 (dOp addAV (dVar 1) (dLst (dCons (dVar 0) (dCons (dVar 0) (dCons (dVar 0) (dCons (dVar 0) dNil))))))) (dSeq (dSet 1 (dOp addAV (dVar 1) (dLst (dCons (dVar 0) (dCons (dVar 0) (dCons (dVar 0) dNil)))))) (dSeq (dDrop (dMt "list" mAppend (dVar 1) (dCons (dVar 0) dNil))) (dSeq (dDrop (dMt "list" mAppend (dVar 1) (dCons (dVar 0) dNil))) (dRet (dOp eqAV (dCB reprL (dCons (dVar 1) dNil)) (dCB reprL (dCons (dOp mulAV (dLst (dCons (dVar 0) dNil)) (dC (.int 14))) dNil)))))))))
def f__law_fields_right : DF := dFun 2 p__law_fields_right
def p__law_draw : DS := (dSeq (dIfS (dTst (dOp gtAV (dOp idxAV (dVar 0) (dC (.int 0))) (dC (.int 0))))
  (dSeq (dSet 2 (dOp modAV (dOp idxAV (dVar 0) (dC (.int 0))) (dVar 1))) (dSeq (dPut (dVar 0) (dC (.int 0)) (dOp fdivAV (dOp idxAV (dVar 0) (dC (.int 0))) (dVar 1))) (dRet (dVar 2))))
  dSkip) (dSeq (dPut (dVar 0) (dC (.int 2)) (dOp addAV (dOp idxAV (dVar 0) (dC (.int 2))) (dC (.int 1)))) (dSeq (dSet 3 (dOp modAV (dOp powAV (dOp addAV (dOp idxAV (dVar 0) (dC (.int 1))) (dOp mulAV (dC (.int 1000033)) (dOp idxAV (dVar 0) (dC (.int 2))))) (dC (.int 3))) (dC (.int 2305843009213693921)))) (dSeq (dSet 3 (dOp modAV (dOp powAV (dOp addAV (dOp fdivAV (dVar 3) (dC (.int 256))) (dOp mulAV (dC (.int 11)) (dOp idxAV (dVar 0) (dC (.int 2))))) (dC (.int 2))) (dC (.int 2147483629)))) (dRet (dOp modAV (dOp fdivAV (dVar 3) (dC (.int 64))) (dVar 1)))))))
def f__law_draw : DF := dFun 4 p__law_draw
def p__law_odd : DS := (dSeq (dSet 1 (dLst (dCons (dC .non) (dCons (dC (.bl true)) (dCons (dC (.bl false)) (dCons (dC (.str "")) (dCons (dC (.str "A")) (dCons (dC (.str "a b")) (dCons (dC (.str "abcdefg")) (dCons (dOp powAV (dC (.int 10)) (dC (.int 12))) (dCons (dUn negAV (dOp powAV (dC (.int 10)) (dC (.int 13)))) (dCons (dLst dNil) (dCons (dTup dNil) (dCons (dLst (dCons (dC (.int 1)) dNil)) (dCons (dTup (dCons (dC (.str "a")) dNil)) (dCons (dTup (dCons (dC (.int 1)) (dCons (dC (.int 2)) dNil))) dNil)))))))))))))))) (dRet (dOp idxAV (dOp addAV (dVar 1) (dLst (dCons (dC (.str "a1")) (dCons (dLst (dCons (dC .non) dNil)) dNil)))) (dCallC f__law_draw 2 0 2 [0, 1] [] (dCons (dVar 0) (dCons (dC (.int 16)) dNil)) dNil))))
def f__law_odd : DF := dFun 2 p__law_odd
def p__law_bases : DS := (dSeq (dSet 1 (dLst (dCons (dIsV xt0 0 (dVar 0)) (dCons (dIsVT xt0 "ValueError" (dVar 0)) (dCons (dIsVT xt0 "LookupError" (dVar 0)) dNil))))) (dSeq (dSet 1 (dOp addAV (dVar 1) (dLst (dCons (dIsVT xt0 "KeyError" (dVar 0)) (dCons (dIsVT xt0 "IndexError" (dVar 0)) dNil))))) (dRet (dOp addAV (dVar 1) (dLst (dCons (dIsVT xt0 "RuntimeError" (dVar 0)) dNil))))))
def f__law_bases : DF := dFun 2 p__law_bases
def p__law_classes : DS := (dSeq (dSet 1 (dLst (dCons (dIsV xt0 1 (dVar 0)) (dCons (dIsV xt0 2 (dVar 0)) (dCons (dIsV xt0 3 (dVar 0)) dNil))))) (dSeq (dSet 1 (dOp addAV (dVar 1) (dLst (dCons (dIsV xt0 4 (dVar 0)) (dCons (dIsV xt0 5 (dVar 0)) dNil))))) (dSeq (dSet 1 (dOp addAV (dVar 1) (dLst (dCons (dIsV xt0 6 (dVar 0)) (dCons (dIsV xt0 7 (dVar 0)) (dCons (dIsV xt0 8 (dVar 0)) dNil)))))) (dSeq (dSet 1 (dOp addAV (dVar 1) (dLst (dCons (dIsV xt0 9 (dVar 0)) (dCons (dIsV xt0 10 (dVar 0)) (dCons (dIsV xt0 11 (dVar 0)) dNil)))))) (dSeq (dSet 1 (dOp addAV (dVar 1) (dLst (dCons (dIsV xt0 12 (dVar 0)) (dCons (dIsV xt0 13 (dVar 0)) (dCons (dIsV xt0 14 (dVar 0)) dNil)))))) (dRet (dOp addAV (dVar 1) (dLst (dCons (dIsV xt0 15 (dVar 0)) (dCons (dIsV xt0 16 (dVar 0)) (dCons (dIsV xt0 17 (dVar 0)) dNil)))))))))))
def f__law_classes : DF := dFun 2 p__law_classes
def e__law_bases_right_1 : DE := (dOp eqAV (dVar 10) (dVar 7))
def b__law_bases_right_1 : DS := (dSeq (dSet 9 (dLc (dRg1 (dCons (dC (.int 17)) dNil)) (dgN 10) dYes e__law_bases_right_1 [10])) (dIfS (dOr (dTst (dOp neAV (dCallC f__law_bases 1 0 1 [0] [] (dCons (dVar 8) dNil) dNil) (dOp idxAV (dVar 6) (dVar 7)))) (dTst (dOp neAV (dCallC f__law_classes 1 0 1 [0] [] (dCons (dVar 8) dNil) dNil) (dVar 9))))
  (dRet (dC (.bl false)))
  dSkip))
def p__law_bases_right : DS := (dSeq (dSet 1 (dLst (dCons (dXiA 1 (dVar 0)) (dCons (dXiA 2 (dVar 0)) (dCons (dXi 3) (dCons (dXi 4) (dCons (dXi 5) (dCons (dXiA 6 (dVar 0)) (dCons (dXi 7) (dCons (dXi 8) (dCons (dXi 9) dNil))))))))))) (dSeq (dSet 1 (dOp addAV (dVar 1) (dLst (dCons (dXiA 10 (dVar 0)) (dCons (dXiA 11 (dVar 0)) (dCons (dXiA 12 (dVar 0)) (dCons (dXiA 13 (dVar 0)) (dCons (dXi 14) (dCons (dXi 15) (dCons (dXi 16) (dCons (dXi 17) dNil))))))))))) (dSeq (dPar2 2 3 (dCons (dOp addAV (dLst (dCons (dC (.bl true)) (dCons (dC (.bl true)) dNil))) (dOp mulAV (dLst (dCons (dC (.bl false)) dNil)) (dC (.int 4)))) (dCons (dLst (dCons (dC (.bl false)) (dCons (dC (.bl false)) (dCons (dC (.bl true)) (dCons (dC (.bl false)) (dCons (dC (.bl true)) (dCons (dC (.bl false)) dNil))))))) dNil))) (dSeq (dPar2 4 5 (dCons (dLst (dCons (dC (.bl false)) (dCons (dC (.bl false)) (dCons (dC (.bl true)) (dCons (dC (.bl true)) (dCons (dC (.bl false)) (dCons (dC (.bl false)) dNil))))))) (dCons (dOp addAV (dLst (dCons (dC (.bl false)) (dCons (dC (.bl false)) (dCons (dC (.bl true)) dNil)))) (dOp mulAV (dLst (dCons (dC (.bl false)) dNil)) (dC (.int 3)))) dNil))) (dSeq (dSet 6 (dOp addAV (dOp addAV (dOp addAV (dOp addAV (dOp mulAV (dLst (dCons (dVar 2) dNil)) (dC (.int 7))) (dOp mulAV (dLst (dCons (dVar 3) dNil)) (dC (.int 3)))) (dOp mulAV (dLst (dCons (dVar 4) dNil)) (dC (.int 2)))) (dOp mulAV (dLst (dCons (dVar 5) dNil)) (dC (.int 4)))) (dLst (dCons (dOp addAV (dOp mulAV (dLst (dCons (dC (.bl false)) dNil)) (dC (.int 5))) (dLst (dCons (dC (.bl true)) dNil))) dNil)))) (dSeq (dFor (dEnm (dVar 1)) (dgT (dgC (dgN 7) (dgC (dgN 8) dg0))) b__law_bases_right_1) (dRet (dC (.bl true)))))))))
def f__law_bases_right : DF := dFun 11 p__law_bases_right
def b_law_1 : DS := (dSeq (dSet 2 (dCallC f__law_source 2 0 2 [0, 1] [] (dCons (dVar 0) (dCons (dVar 1) dNil)) dNil)) (dIfS (dOr (dNot (dTst (dCallC f__law_fields_right 1 0 1 [0] [] (dCons (dCallC f__law_odd 1 0 1 [0] [] (dCons (dVar 2) dNil) dNil) dNil) dNil))) (dNot (dTst (dCallC f__law_bases_right 1 0 1 [0] [] (dCons (dCallC f__law_odd 1 0 1 [0] [] (dCons (dVar 2) dNil) dNil) dNil) dNil))))
  (dRet (dC (.bl false)))
  dSkip))
def p_law : DS := (dSeq (dFor (dRg1 (dCons (dCB maxL (dCons (dC (.int 1)) (dCons (dCB minL (dCons (dC (.int 4)) (dCons (dCB lenL (dCons (dVar 0) dNil)) dNil))) dNil))) dNil)) (dgN 1) b_law_1) (dRet (dC (.bl true))))
def f_law : DF := dFun 3 p_law
end Q
namespace Q
open PySem Dn
structure Sr (h : Hep) (s : Nat) (y : Int) (k : Nat) : Prop where
  ex : ∃ x z, h[s]? = some (.lst [.int x, .int y, .int z]) ∧ 0 ≤ x ∧ 0 ≤ z ∧ z ≤ k
  y0 : 0 ≤ y
  y1 : y < 40000000000000000000000
theorem Sr.frx {h h' : Hep} {s k k' : Nat} {y : Int} {ex : List Nat} (S : Sr h s y k) (f : Fr ex h h') (hs : s ∉ ex) (hk : k ≤ k') : Sr h' s y k' := by
  obtain ⟨⟨x, z, e, a, b, c⟩, y0, y1⟩ := S
  exact ⟨⟨x, z, f.at e hs, a, b, by omega⟩, y0, y1⟩
theorem Sr.fr {h h' : Hep} {s k k' : Nat} {y : Int} (S : Sr h s y k) (f : Fr [] h h') (hk : k ≤ k') : Sr h' s y k' := S.frx f (by simp) hk
theorem Sr.lt {h : Hep} {s k : Nat} {y : Int} (S : Sr h s y k) : s < h.length := by
  obtain ⟨⟨x, z, e, _⟩, _⟩ := S
  exact lt_of e
theorem at3_0 {a b c : AV} : L2.atI [a, b, c] 0 = some a := rfl
theorem at3_1 {a b c : AV} : L2.atI [a, b, c] 1 = some b := rfl
theorem at3_2 {a b c : AV} : L2.atI [a, b, c] 2 = some c := rfl
theorem draw_ok {h : Hep} {s k : Nat} {y m : Int} (S : Sr h s y k) (hm : 0 < m) (hm2 : m < 1000000) (hk : k < 100000) :
    ∃ d h', 0 ≤ d ∧ d < m ∧ f__law_draw [.ref s, .int m] h = .ok (.int d) h' ∧ Fr [s] h h' ∧ h'.length = h.length ∧ Sr h' s y (k + 1) := by
  obtain ⟨⟨x, z, e, hx, hz, hz2⟩, hy, hy2⟩ := S
  have hl := (List.getElem?_eq_some_iff.mp e).1
  have fin : ∀ d x' z' : Int, 0 ≤ d → d < m → 0 ≤ x' → 0 ≤ z' → z' ≤ z + 1 → f__law_draw [.ref s, .int m] h = .ok (.int d) (h.set s (.lst [.int x', .int y, .int z'])) →
      ∃ d h', 0 ≤ d ∧ d < m ∧ f__law_draw [.ref s, .int m] h = .ok (.int d) h' ∧ Fr [s] h h' ∧ h'.length = h.length ∧ Sr h' s y (k + 1) := fun d x' z' h1 h2 h3 h4 h5 he =>
    ⟨d, _, h1, h2, he, Fr.set (by simp), by simp, ⟨x', z', by simp [hl], h3, h4, by omega⟩, hy, hy2⟩
  by_cases h0 : 0 < x
  · refine fin (x % m) (x / m) z (Int.emod_nonneg _ (by omega)) (Int.emod_lt_of_pos _ hm) (Int.ediv_nonneg hx (by omega)) hz (by omega) ?_
    have hm3 : m < 1073741824 := by omega
    simp [f__law_draw, dFun, dStart, p__law_draw, idxAV, seqOf, tupOf, lstOf, e, putAV, at3_0, at3_1, at3_2, L2.ixN, h0, hm, hm3]
  · have hb : (y + 1000033 * (z + 1)).natAbs < 2 ^ 200 := by omega
    have m1 : ∀ j, mulOk 1000033 j = true := fun j => mulOk_l (by omega) (by omega)
    have m2 : ∀ j, mulOk 11 j = true := fun j => mulOk_l (by omega) (by omega)
    generalize hB : y + 1000033 * (z + 1) = B at hb
    have f0 : 0 ≤ B ^ 3 % 2305843009213693921 := Int.emod_nonneg _ (by decide)
    have f1 : B ^ 3 % 2305843009213693921 < 2305843009213693921 := Int.emod_lt_of_pos _ (by decide)
    have pw : ∀ h, powAV (.int B) (.int 3) h = some (.int (B ^ 3), h) := fun h => pow_ii (by omega) (by omega) hb
    generalize hA : B ^ 3 % 2305843009213693921 = A at f0 f1
    have hc : (A / 256 + 11 * (z + 1)).natAbs < 2 ^ 200 := by omega
    generalize hC : A / 256 + 11 * (z + 1) = C at hc
    have g0 : 0 ≤ C ^ 2 % 2147483629 := Int.emod_nonneg _ (by decide)
    have pw2 : ∀ h, powAV (.int C) (.int 2) h = some (.int (C ^ 2), h) := fun h => pow_ii (by omega) (by omega) hc
    generalize hG : C ^ 2 % 2147483629 = G at g0
    have hm3 : m < 1073741824 := by omega
    refine fin (G / 64 % m) x (z + 1) (Int.emod_nonneg _ (by omega)) (Int.emod_lt_of_pos _ hm) hx (by omega) (by omega) ?_
    have i0 : idxAV (.ref s) (.int 0) h = some (.int x, h) := idx_lst e rfl
    have i2 : idxAV (.ref s) (.int 2) h = some (.int z, h) := idx_lst e rfl
    have pz : putAV (.ref s) (.int 2) (.int (z + 1)) h = some (h.set s (.lst [.int x, .int y, .int (z + 1)])) := put_lst (j := 2) e (by simp)
    have e3 : (h.set s (.lst [.int x, .int y, .int (z + 1)]))[s]? = some (.lst [.int x, .int y, .int (z + 1)]) := by simp [hl]
    generalize h.set s (.lst [.int x, .int y, .int (z + 1)]) = g at pz e3 ⊢
    have j1 : idxAV (.ref s) (.int 1) g = some (.int y, g) := idx_lst e3 rfl
    have j2 : idxAV (.ref s) (.int 2) g = some (.int (z + 1), g) := idx_lst e3 rfl
    simp [f__law_draw, dFun, dStart, p__law_draw, i0, i2, pz, j1, j2, h0, m1, m2, hB, pw, hA, hC, pw2, hG, hm, hm3]
theorem source_ok (ns : List Int) (p : Nat) (hp : p < 4) (h : Hep) : ∃ m g, f__law_source [.rol (ns.map .int), .int p] h = .ok (.ref m) g ∧ Fr [] h g ∧ ∃ y, Sr g m y 0 := by
  have fin : ∀ c : Int, (f__law_source [.rol (ns.map .int), .int p] h = .ok (.ref h.length) (h ++ [AO.lst [.int ((c.natAbs : Int) * (if (10 : Int) ^ 18 ≤ c.natAbs then 1 else 0)), .int ((c % 2305843009213693951 + 9341 * p + 29) * 16807 + p), .int 0]])) → ∃ m g, f__law_source [.rol (ns.map .int), .int p] h = .ok (.ref m) g ∧ Fr [] h g ∧ ∃ y, Sr g m y 0 := fun c e => by
    have hc0 : 0 ≤ c % 2305843009213693951 := Int.emod_nonneg _ (by decide)
    have hc1 : c % 2305843009213693951 < 2305843009213693951 := Int.emod_lt_of_pos _ (by decide)
    have hpp : (p : Int) = 0 ∨ (p : Int) = 1 ∨ (p : Int) = 2 ∨ (p : Int) = 3 := by omega
    refine ⟨_, _, e, Fr.app, _, ⟨⟨_, _, new_at, ?_, Int.le_refl 0, by simp⟩, ?_, ?_⟩⟩
    · split <;> omega
    · rcases hpp with z | z | z | z <;> rw [z] <;> omega
    · rcases hpp with z | z | z | z <;> rw [z] <;> omega
  have m1 : ∀ j, mulOk 9341 j = true := fun j => mulOk_l (by omega) (by omega)
  have m2 : ∀ j, mulOk j 16807 = true := fun j => mulOk_r (by omega) (by omega)
  have m3 : ∀ (j : Int) (b : Prop) [Decidable b], mulOk j (if b then 1 else 0) = true := fun j b _ => mulOk_r (by split <;> omega) (by split <;> omega)
  have pw : ∀ h, powAV (.int 10) (.int 18) h = some (.int ((10 : Int) ^ 18), h) := fun h => pow_ii (by omega) (by omega) (by decide)
  have ln : ∀ h, lenL [.rol (ns.map .int)] h = some (.int (ns.length : Nat), h) := fun h => by simp [lenL, lenA]
  by_cases hl : p < ns.length
  · refine fin ns[p] ?_
    have ix : ∀ h, idxAV (.rol (ns.map .int)) (.int p) h = some (.int ns[p], h) := fun h => idx_rol (atI_nat (by simp [hl]))
    have hl' : (p : Int) < (ns.length : Int) := by omega
    simp -implicitDefEqProofs [f__law_source, dFun, dStart, p__law_source, ln, hl', ix, absL, pw, intL, m1, m2, m3, mkL, -Int.reducePow]
  · refine fin 0 ?_
    have hl' : ¬ (p : Int) < (ns.length : Int) := by omega
    simp -implicitDefEqProofs [f__law_source, dFun, dStart, p__law_source, ln, hl', absL, pw, intL, m1, m2, m3, mkL, -Int.reducePow]
def shB (d : PyData) : Bool := d.showable && !d.hasDict && decide (d.shown.length ≤ 1000) && decide (d.depth ≤ 60) && PyData.strOk d.shown
def enX (xs : List AV) : List AV := xs.zipIdx.map fun z => .tup [.int (z.2 : Nat), z.1]
theorem enX_at (xs : List AV) (i : Nat) : (enX xs)[i]? = xs[i]?.map fun x => .tup [.int (i : Nat), x] := by
  simp only [enX, List.getElem?_map, List.getElem?_zipIdx, Option.map_map, Nat.zero_add]
  rfl
theorem enX_len (xs : List AV) : (enX xs).length = xs.length := by simp [enX]
theorem next_en {n i : Nat} {xs : List AV} {h : Hep} (e : h[n]? = some (.lst xs)) : (Src.enA n).next i h = some (enX xs)[i]? := by
  rw [enX_at]
  simp [Src.next, e]
theorem len_en {n : Nat} {xs : List AV} {h : Hep} (e : h[n]? = some (.lst xs)) : (Src.enA n).len h = (enX xs).length := by
  rw [enX_len]
  simp [Src.len, e]
theorem src_en {f : DE} {s : Sl} {h h1 : Hep} {n : Nat} {xs : List AV} (ef : f s h = .ok (.ref n) h1) (e : h1[n]? = some (.lst xs)) : dEnm f s h = .ok (.enA n) h1 := by
  simp [dEnm, ef, e]
/-! k01: values that are no items, shown, also many of them in a list -/
structure Od1 (h : Hep) (v : AV) : Prop where
  nx : v.nx = true
  sh : ∃ d : PyData, (∀ g, Fr [] h g → toD 49 g v = some d) ∧ shB (.list (List.replicate 14 d)) = true
theorem odd_ok {h : Hep} {s k : Nat} {y : Int} (S : Sr h s y k) (hk : k < 80000) : ∃ v h', f__law_odd [.ref s] h = .ok v h' ∧ Fr [s] h h' ∧ Od1 h' v ∧ Sr h' s y (k + 1) := by
  have hs := S.lt
  have pw : ∀ h, powAV (.int 10) (.int 12) h = some (.int ((10 : Int) ^ 12), h) := fun h => pow_ii (by omega) (by omega) (by decide)
  have pw2 : ∀ h, powAV (.int 10) (.int 13) h = some (.int ((10 : Int) ^ 13), h) := fun h => pow_ii (by omega) (by omega) (by decide)
  obtain ⟨n1, g1, e1, f1, hn1, a1⟩ := mk_new [] h (by simp)
  obtain ⟨n2, g2, e2, f2, hn2, a2⟩ := mk_new [.int 1] g1 (by simp)
  obtain ⟨n3, g3, e3, f3, hn3, a3⟩ := mk_new [.non, .bl true, .bl false, .str "", .str "A", .str "a b", .str "abcdefg", .int ((10 : Int) ^ 12), .int (-(10 : Int) ^ 13), .ref n1, .tup [], .ref n2, .tup [.str "a"], .tup [.int 1, .int 2]] g2 (by simp)
  obtain ⟨n4, g4, e4, f4, hn4, a4⟩ := mk_new [.non] g3 (by simp)
  obtain ⟨n5, g5, e5, f5, hn5, a5⟩ := mk_new [.str "a1", .ref n4] g4 (by simp)
  obtain ⟨n6, g6, e6, f6, hn6, a6⟩ := add_ll ((f4.trans f5).at a3 (by simp)) a5 (by simp)
  have l1 := f1.1
  have l2 := f2.1
  have l3 := f3.1
  have l4 := f4.1
  have l5 := f5.1
  have l6 := f6.1
  have ff : Fr [] h g6 := f1.trans (f2.trans (f3.trans (f4.trans (f5.trans f6))))
  obtain ⟨w, g7, w0, w1, e7, f7, l7, S7⟩ := draw_ok (m := 16) (S.fr ff (Nat.le_refl _)) (by omega) (by omega) (by omega)
  have b6 := f7.at a6 (by simp; omega)
  have b1 := f7.at ((f2.trans (f3.trans (f4.trans (f5.trans f6)))).at a1 (by simp)) (by simp; omega)
  have b2 := f7.at ((f3.trans (f4.trans (f5.trans f6))).at a2 (by simp)) (by simp; omega)
  have b4 := f7.at ((f5.trans f6).at a4 (by simp)) (by simp; omega)
  obtain ⟨v, iv, O⟩ : ∃ v, idxAV (.ref n6) (.int w) g7 = some (v, g7) ∧ Od1 g7 v := by
    obtain ⟨i, rfl⟩ : ∃ i : Nat, w = i := ⟨w.toNat, by omega⟩
    have hi : i < 16 := by omega
    have ix : ∀ v, ([AV.non, .bl true, .bl false, .str "", .str "A", .str "a b", .str "abcdefg", .int ((10 : Int) ^ 12), .int (-(10 : Int) ^ 13), .ref n1, .tup [], .ref n2, .tup [.str "a"], .tup [.int 1, .int 2]] ++ [.str "a1", .ref n4])[i]? = some v → idxAV (.ref n6) (.int (i : Nat)) g7 = some (v, g7) := fun v hv => idx_lst b6 (atI_nat hv)
    have st : ∀ {v : AV} {d : PyData}, v.nx = true → (∀ g, toD 49 g v = some d) → shB (.list (List.replicate 14 d)) = true → Od1 g7 v := fun n e c => ⟨n, _, fun g _ => e g, c⟩
    rcases i with _ | _ | _ | _ | _ | _ | _ | _ | _ | _ | _ | _ | _ | _ | _ | _ | i
    · exact ⟨_, ix _ rfl, st rfl (fun _ => rfl) (by decide +kernel)⟩
    · exact ⟨_, ix _ rfl, st rfl (fun _ => rfl) (by decide +kernel)⟩
    · exact ⟨_, ix _ rfl, st rfl (fun _ => rfl) (by decide +kernel)⟩
    · exact ⟨_, ix _ rfl, st rfl (fun _ => rfl) (by decide +kernel)⟩
    · exact ⟨_, ix _ rfl, st rfl (fun _ => rfl) (by decide +kernel)⟩
    · exact ⟨_, ix _ rfl, st rfl (fun _ => rfl) (by decide +kernel)⟩
    · exact ⟨_, ix _ rfl, st rfl (fun _ => rfl) (by decide +kernel)⟩
    · exact ⟨_, ix _ rfl, st rfl (fun _ => rfl) (by decide +kernel)⟩
    · exact ⟨_, ix _ rfl, st rfl (fun _ => rfl) (by decide +kernel)⟩
    · exact ⟨_, ix _ rfl, rfl, .list [], fun g f => by simp [toD, f.at b1 (by simp)], by decide +kernel⟩
    · exact ⟨_, ix _ rfl, st (d := .tuple []) rfl (fun _ => rfl) (by decide +kernel)⟩
    · exact ⟨_, ix _ rfl, rfl, .list [.int 1], fun g f => by simp [toD, f.at b2 (by simp)], by decide +kernel⟩
    · exact ⟨_, ix _ rfl, st (d := .tuple [.str "a"]) rfl (fun _ => rfl) (by decide +kernel)⟩
    · exact ⟨_, ix _ rfl, st (d := .tuple [.int 1, .int 2]) rfl (fun _ => rfl) (by decide +kernel)⟩
    · exact ⟨_, ix _ rfl, st rfl (fun _ => rfl) (by decide +kernel)⟩
    · exact ⟨_, ix _ rfl, rfl, .list [.none], fun g f => by simp [toD, f.at b4 (by simp)], by decide +kernel⟩
    · omega
  have vn := O.nx
  refine ⟨v, g7, ?_, ff.nil.trans f7, O, S7⟩
  simp -implicitDefEqProofs [f__law_odd, dFun, dStart, p__law_odd, e1, e2, e3, e4, e5, e6, e7, iv, pw, pw2, mkT, SZ, vn, -Int.reducePow, -Int.reduceNeg]
theorem repr_of {v : AV} {g : Hep} {d : PyData} (e : toD DD g v = some d) (c : shB d = true) : reprL [v] g = some (.str d.shown, g) ∧ PyData.strOk d.shown = true := by
  simp only [shB, Bool.and_eq_true, Bool.not_eq_true', decide_eq_true_eq] at c
  obtain ⟨⟨⟨⟨c1, c2⟩, c3⟩, c4⟩, c5⟩ := c
  have q : d.shown.length ≤ SZ := Nat.le_trans c3 (by decide)
  refine ⟨?_, c5⟩
  simp only [reprL, e]
  exact if_pos ⟨c1, c2, q, c4⟩
theorem toD_14 {g : Hep} {n : Nat} {v : AV} {d : PyData} (e : g[n]? = some (.lst [v, v, v, v, v, v, v, v, v, v, v, v, v, v])) (k : toD 49 g v = some d) : toD DD g (.ref n) = some (.list (List.replicate 14 d)) := by
  show toD (49 + 1) g (.ref n) = _
  simp [toD, e, k, List.replicate]
theorem fields_ok {h : Hep} {v : AV} (O : Od1 h v) : ∃ g, f__law_fields_right [v] h = .ok (.bl true) g ∧ Fr [] h g := by
  have vn := O.nx
  obtain ⟨d, hd, hc⟩ := O.sh
  obtain ⟨n1, g1, e1, f1, q1, a1⟩ := mk_new [v, v, v, v, v] h (by simp)
  obtain ⟨n2, g2, e2, f2, q2, a2⟩ := mk_new [v, v, v, v] g1 (by simp)
  obtain ⟨n3, g3, e3, f3, q3, a3⟩ := add_ll (f2.at a1 (by simp)) a2 (by simp)
  obtain ⟨n4, g4, e4, f4, q4, a4⟩ := mk_new [v, v, v] g3 (by simp)
  obtain ⟨n5, g5, e5, f5, q5, a5⟩ := add_ll (f4.at a3 (by simp)) a4 (by simp)
  have l1 := f1.1
  have l2 := f2.1
  have l3 := f3.1
  have l4 := f4.1
  have l5 := f5.1
  have lt5 := lt_of a5
  have p1 := app_ok (x := v) a5 (by simp)
  have t1 := tyA_lst a5
  have a6 : (g5.set n5 (.lst ([v, v, v, v, v] ++ [v, v, v, v] ++ [v, v, v] ++ [v])))[n5]? = some (.lst ([v, v, v, v, v] ++ [v, v, v, v] ++ [v, v, v] ++ [v])) := by simp [lt5]
  have f6 : Fr [] h (g5.set n5 (.lst ([v, v, v, v, v] ++ [v, v, v, v] ++ [v, v, v] ++ [v]))) := Fr.set_new (f1.trans (f2.trans (f3.trans (f4.trans f5)))) (by omega)
  have l6 : (g5.set n5 (.lst ([v, v, v, v, v] ++ [v, v, v, v] ++ [v, v, v] ++ [v]))).length = g5.length := by simp
  generalize g5.set n5 (.lst ([v, v, v, v, v] ++ [v, v, v, v] ++ [v, v, v] ++ [v])) = g6 at p1 a6 f6 l6
  have p2 := app_ok (x := v) a6 (by simp)
  have t2 := tyA_lst a6
  have a7 : (g6.set n5 (.lst ([v, v, v, v, v] ++ [v, v, v, v] ++ [v, v, v] ++ [v] ++ [v])))[n5]? = some (.lst [v, v, v, v, v, v, v, v, v, v, v, v, v, v]) := by
    have := lt_of a6
    simp [this]
  have f7 : Fr [] h (g6.set n5 (.lst ([v, v, v, v, v] ++ [v, v, v, v] ++ [v, v, v] ++ [v] ++ [v]))) := Fr.set_new f6 (by omega)
  generalize g6.set n5 (.lst ([v, v, v, v, v] ++ [v, v, v, v] ++ [v, v, v] ++ [v] ++ [v])) = g7 at p2 a7 f7
  obtain ⟨r1, ok1⟩ := repr_of (toD_14 a7 (hd _ f7)) hc
  obtain ⟨n8, g8, e8, f8, q8, a8⟩ := mk_new [v] g7 (by simp)
  obtain ⟨n9, g9, e9, f9, q9, a9⟩ := mul_ref (k := 14) a8 (by omega) (by simp)
  obtain ⟨r2, ok2⟩ := repr_of (toD_14 a9 (hd _ (f7.trans (f8.trans f9)))) hc
  have eq := eq_st (h := g9) (b := true) ok1 ok1 (by simp)
  generalize (PyData.list (List.replicate 14 d)).shown = X at r1 r2 eq
  refine ⟨g9, ?_, f7.trans (f8.trans f9)⟩
  have e9' : mulAV (.ref n8) (.int 14) g8 = some (.ref n9, g9) := e9
  simp -implicitDefEqProofs [f__law_fields_right, dFun, dStart, p__law_fields_right, e1, e2, e3, e4, e5, p1, p2, t1, t2, r1, e8, e9', r2, eq, vn]
/-! k01: which bases and classes an error has -/
theorem iv_ok {t : Nat} (ht : t < 18) (c : Nat) (s : Sl) (h : Hep) : dIsV xt0 c (dVar 0) (some (.exi t) :: s) h = .ok (.bl (xt0.sub t c)) h := by
  have e : dVar 0 (some (.exi t) :: s) h = .ok (.exi t) h := rfl
  unfold dIsV
  rw [e]
  exact if_pos ⟨Nat.zero_le _, ht⟩
theorem ivt_ok {t : Nat} {n : String} {b : Bool} (ht : t < 18) (k : tyLook xt0.ty t n = some b) (s : Sl) (h : Hep) : dIsVT xt0 n (dVar 0) (some (.exi t) :: s) h = .ok (.bl b) h := by
  have e : dVar 0 (some (.exi t) :: s) h = .ok (.exi t) h := rfl
  unfold dIsVT
  rw [e]
  have z : xiT xt0 n (.exi t) h = .ok (.bl b) h := by
    unfold xiT
    dsimp only
    rw [if_pos ⟨Nat.zero_le _, ht⟩, k]
  exact z
theorem bas_ok {t : Nat} (ht : t < 18) {b1 b2 b3 b4 b5 : Bool} (k1 : tyLook xt0.ty t "ValueError" = some b1) (k2 : tyLook xt0.ty t "LookupError" = some b2) (k3 : tyLook xt0.ty t "KeyError" = some b3) (k4 : tyLook xt0.ty t "IndexError" = some b4) (k5 : tyLook xt0.ty t "RuntimeError" = some b5) (h : Hep) :
    ∃ n g, f__law_bases [.exi t] h = .ok (.ref n) g ∧ Fr [] h g ∧ h.length ≤ n ∧ g[n]? = some (.lst ([xt0.sub t 0, b1, b2, b3, b4, b5].map .bl)) := by
  have i0 := iv_ok ht 0
  have i1 := ivt_ok ht k1
  have i2 := ivt_ok ht k2
  have i3 := ivt_ok ht k3
  have i4 := ivt_ok ht k4
  have i5 := ivt_ok ht k5
  obtain ⟨n1, g1, e1, f1, q1, a1⟩ := mk_new [.bl (xt0.sub t 0), .bl b1, .bl b2] h (by simp)
  obtain ⟨n2, g2, e2, f2, q2, a2⟩ := mk_new [.bl b3, .bl b4] g1 (by simp)
  obtain ⟨n3, g3, e3, f3, q3, a3⟩ := add_ll (f2.at a1 (by simp)) a2 (by simp)
  obtain ⟨n4, g4, e4, f4, q4, a4⟩ := mk_new [.bl b5] g3 (by simp)
  obtain ⟨n5, g5, e5, f5, q5, a5⟩ := add_ll (f4.at a3 (by simp)) a4 (by simp)
  have l1 := f1.1
  have l2 := f2.1
  have l3 := f3.1
  have l4 := f4.1
  refine ⟨n5, g5, ?_, f1.trans (f2.trans (f3.trans (f4.trans f5))), by omega, a5⟩
  simp -implicitDefEqProofs [f__law_bases, dFun, dStart, p__law_bases, i0, i1, i2, i3, i4, i5, e1, e2, e3, e4, e5]
theorem cls_ok {t : Nat} (ht : t < 18) (h : Hep) : ∃ n g, f__law_classes [.exi t] h = .ok (.ref n) g ∧ Fr [] h g ∧ h.length ≤ n ∧ g[n]? = some (.lst (((List.range 17).map fun c => xt0.sub t (c + 1)).map .bl)) := by
  have i := iv_ok ht
  let b := fun c => AV.bl (xt0.sub t c)
  obtain ⟨n1, g1, e1, f1, q1, a1⟩ := mk_new [b 1, b 2, b 3] h (by simp)
  obtain ⟨n2, g2, e2, f2, q2, a2⟩ := mk_new [b 4, b 5] g1 (by simp)
  obtain ⟨n3, g3, e3, f3, q3, a3⟩ := add_ll (f2.at a1 (by simp)) a2 (by simp)
  obtain ⟨n4, g4, e4, f4, q4, a4⟩ := mk_new [b 6, b 7, b 8] g3 (by simp)
  obtain ⟨n5, g5, e5, f5, q5, a5⟩ := add_ll (f4.at a3 (by simp)) a4 (by simp)
  obtain ⟨n6, g6, e6, f6, q6, a6⟩ := mk_new [b 9, b 10, b 11] g5 (by simp)
  obtain ⟨n7, g7, e7, f7, q7, a7⟩ := add_ll (f6.at a5 (by simp)) a6 (by simp)
  obtain ⟨n8, g8, e8, f8, q8, a8⟩ := mk_new [b 12, b 13, b 14] g7 (by simp)
  obtain ⟨n9, g9, e9, f9, q9, a9⟩ := add_ll (f8.at a7 (by simp)) a8 (by simp)
  obtain ⟨nA, gA, eA, fA, qA, aA⟩ := mk_new [b 15, b 16, b 17] g9 (by simp)
  obtain ⟨nB, gB, eB, fB, qB, aB⟩ := add_ll (fA.at a9 (by simp)) aA (by simp)
  have l1 := f1.1
  have l2 := f2.1
  have l3 := f3.1
  have l4 := f4.1
  have l5 := f5.1
  have l6 := f6.1
  have l7 := f7.1
  have l8 := f8.1
  have l9 := f9.1
  have lA := fA.1
  refine ⟨nB, gB, ?_, f1.trans (f2.trans (f3.trans (f4.trans (f5.trans (f6.trans (f7.trans (f8.trans (f9.trans (fA.trans fB))))))))), by omega, aB⟩
  simp only [b] at e1 e2 e4 e6 e8 eA
  simp -implicitDefEqProofs [f__law_classes, dFun, dStart, p__law_classes, i, e1, e2, e3, e4, e5, e6, e7, e8, e9, eA, eB]
/-- the bases that are due -/
def dueB (i : Nat) : List Bool := if i < 7 then [true, true, false, false, false, false] else if i < 10 then [false, false, true, false, true, false] else if i < 12 then [false, false, true, true, false, false] else if i < 16 then [false, false, true, false, false, false] else [false, false, false, false, false, true]
theorem due_tab : ∀ i, i < 17 → tyLook xt0.ty (i + 1) "ValueError" = some ((dueB i).getD 1 false) ∧ tyLook xt0.ty (i + 1) "LookupError" = some ((dueB i).getD 2 false) ∧ tyLook xt0.ty (i + 1) "KeyError" = some ((dueB i).getD 3 false) ∧ tyLook xt0.ty (i + 1) "IndexError" = some ((dueB i).getD 4 false) ∧ tyLook xt0.ty (i + 1) "RuntimeError" = some ((dueB i).getD 5 false) ∧
    [xt0.sub (i + 1) 0, (dueB i).getD 1 false, (dueB i).getD 2 false, (dueB i).getD 3 false, (dueB i).getD 4 false, (dueB i).getD 5 false] = dueB i := by decide +kernel
theorem cls_tab : ∀ i, i < 17 → ((List.range 17).map fun c => xt0.sub (i + 1) (c + 1)) = (List.range 17).map fun c => decide (c = i) := by decide +kernel
theorem ne_bls {h : Hep} {m n : Nat} {bs cs : List Bool} (e1 : h[m]? = some (.lst (bs.map .bl))) (e2 : h[n]? = some (.lst (cs.map .bl))) (hb : bs = cs) : neAV (.ref m) (.ref n) h = some (.bl false, h) := by
  subst hb
  have k1 : ∀ b, (PyData.bool b).canLay0 = true := fun b => by rw [PyData.canLay0]
  have k2 : ∀ b, (PyData.bool b).depth ≤ 1 := fun b => by
    rw [PyData.depth]
    decide
  have k : ∀ x y : Bool, PyData.eqv (.bool x) (.bool y) = decide (x = y) := by
    intro x y
    cases x <;> cases y <;> simp [PyData.eqv]
  have o := dOk_list (g := PyData.bool) k1 k2 (by decide) bs
  rw [neAV_dr (.ref e1 (drA_map (g := PyData.bool) (fun b => .bl b) bs)) (.ref e2 (drA_map (g := PyData.bool) (fun b => .bl b) bs)) o o, PyData.eqv, eqvAll_map k]
  simp
/-- the lists of the bases that are due -/
structure Due (h : Hep) (m : Nat) : Prop where
  ex : ∃ ds, h[m]? = some (.lst ds) ∧ ∀ i, i < 17 → ∃ n, ds[i]? = some (.ref n) ∧ h[n]? = some (.lst ((dueB i).map .bl))
theorem Due.fr {h g : Hep} {m : Nat} (D : Due h m) (f : Fr [] h g) : Due g m := by
  obtain ⟨ds, e, k⟩ := D.ex
  refine ⟨ds, f.at e (by simp), fun i hi => ?_⟩
  obtain ⟨n, e1, e2⟩ := k i hi
  exact ⟨n, e1, f.at e2 (by simp)⟩
theorem turn_ok {i : Nat} (hi : i < 17) {h : Hep} {m : Nat} (D : Due h m) (a0 a1 a2 a3 a4 a5 u9 u10 : Option AV) :
    ∃ c9 g, b__law_bases_right_1 [a0, a1, a2, a3, a4, a5, some (.ref m), some (.int (i : Nat)), some (.exi (i + 1)), u9, u10] h = .nx [a0, a1, a2, a3, a4, a5, some (.ref m), some (.int (i : Nat)), some (.exi (i + 1)), c9, u10] g ∧ Fr [] h g := by
  obtain ⟨k1, k2, k3, k4, k5, kk⟩ := due_tab i hi
  have kc := cls_tab i hi
  have r := lc_map (f := dRg1 (dCons (dC (.int 17)) dNil)) (te := e__law_bases_right_1) (g := dgN 10) (vs := [10]) (s := [a0, a1, a2, a3, a4, a5, some (.ref m), some (.int (i : Nat)), some (.exi (i + 1)), u9, u10]) (h := h) (h1 := h) (l := List.range 17) (fun c => AV.int (0 + (c : Nat))) (fun c => AV.bl (decide (c = i))) (Sq.fix (rg1_ok (n := 17) (j := 17) rfl rfl (by omega))) (by simp) fun c acc hc => ⟨_, rfl, by
    have z : ((c : Int) = (i : Int)) = (c = i) := propext ⟨fun h => by omega, fun h => by omega⟩
    simp [wipeS, e__law_bases_right_1, eq_ii, z]⟩
  have r2 : ((List.range 17).map fun c => AV.bl (decide (c = i))) = ((List.range 17).map fun c => decide (c = i)).map .bl := by
    rw [List.map_map]
    rfl
  rw [r2] at r
  have aR : (h ++ [AO.lst (((List.range 17).map fun c => decide (c = i)).map .bl)])[h.length]? = some (.lst (((List.range 17).map fun c => decide (c = i)).map .bl)) := new_at
  have fR : Fr [] h (h ++ [AO.lst (((List.range 17).map fun c => decide (c = i)).map .bl)]) := Fr.app
  generalize h ++ [AO.lst (((List.range 17).map fun c => decide (c = i)).map .bl)] = h1 at r aR fR
  obtain ⟨n1, g1, e1, f1, q1, a1'⟩ := bas_ok (t := i + 1) (by omega) k1 k2 k3 k4 k5 h1
  rw [kk] at a1'
  obtain ⟨ds, d1, d2⟩ := D.ex
  obtain ⟨n, d3, d4⟩ := d2 i hi
  have ix : idxAV (.ref m) (.int (i : Nat)) g1 = some (.ref n, g1) := idx_lst ((fR.trans f1).at d1 (by simp)) (atI_nat d3)
  have ne1 := ne_bls a1' ((fR.trans f1).at d4 (by simp)) rfl
  obtain ⟨n2, g2, e2, f2, q2, a2'⟩ := cls_ok (t := i + 1) (by omega) g1
  have ne2 := ne_bls a2' ((f1.trans f2).at aR (by simp)) kc
  refine ⟨some (.ref h.length), g2, ?_, fR.trans (f1.trans f2)⟩
  simp -implicitDefEqProofs [b__law_bases_right_1, r, e1, ix, ne1, e2, ne2]
/-! k01: all errors, one behind the other -/
theorem xiA_ok {t : Nat} {v : AV} {f : DE} {s : Sl} {h h1 : Hep} (e : f s h = .ok v h1) : dXiA t f s h = .ok (.exi t) h1 := by
  unfold dXiA
  rw [e]
  rfl
def ownL : List AV := [.exi 1, .exi 2, .exi 3, .exi 4, .exi 5, .exi 6, .exi 7, .exi 8, .exi 9, .exi 10, .exi 11, .exi 12, .exi 13, .exi 14, .exi 15, .exi 16, .exi 17]
theorem own_at : ∀ i, i < 17 → ownL[i]? = some (.exi (i + 1)) := by
  intro i hi
  rcases i with _ | _ | _ | _ | _ | _ | _ | _ | _ | _ | _ | _ | _ | _ | _ | _ | _ | i <;> first | rfl | omega
theorem head_ok {h : Hep} {v : AV} (vn : v.nx = true) : ∃ u2 u3 u4 u5 m1 m2 g, (∀ k : DS, (dSeq (dSet 1 (dLst (dCons (dXiA 1 (dVar 0)) (dCons (dXiA 2 (dVar 0)) (dCons (dXi 3) (dCons (dXi 4) (dCons (dXi 5) (dCons (dXiA 6 (dVar 0)) (dCons (dXi 7) (dCons (dXi 8) (dCons (dXi 9) dNil))))))))))) (dSeq (dSet 1 (dOp addAV (dVar 1) (dLst (dCons (dXiA 10 (dVar 0)) (dCons (dXiA 11 (dVar 0)) (dCons (dXiA 12 (dVar 0)) (dCons (dXiA 13 (dVar 0)) (dCons (dXi 14) (dCons (dXi 15) (dCons (dXi 16) (dCons (dXi 17) dNil))))))))))) (dSeq (dPar2 2 3 (dCons (dOp addAV (dLst (dCons (dC (.bl true)) (dCons (dC (.bl true)) dNil))) (dOp mulAV (dLst (dCons (dC (.bl false)) dNil)) (dC (.int 4)))) (dCons (dLst (dCons (dC (.bl false)) (dCons (dC (.bl false)) (dCons (dC (.bl true)) (dCons (dC (.bl false)) (dCons (dC (.bl true)) (dCons (dC (.bl false)) dNil))))))) dNil))) (dSeq (dPar2 4 5 (dCons (dLst (dCons (dC (.bl false)) (dCons (dC (.bl false)) (dCons (dC (.bl true)) (dCons (dC (.bl true)) (dCons (dC (.bl false)) (dCons (dC (.bl false)) dNil))))))) (dCons (dOp addAV (dLst (dCons (dC (.bl false)) (dCons (dC (.bl false)) (dCons (dC (.bl true)) dNil)))) (dOp mulAV (dLst (dCons (dC (.bl false)) dNil)) (dC (.int 3)))) dNil))) (dSeq (dSet 6 (dOp addAV (dOp addAV (dOp addAV (dOp addAV (dOp mulAV (dLst (dCons (dVar 2) dNil)) (dC (.int 7))) (dOp mulAV (dLst (dCons (dVar 3) dNil)) (dC (.int 3)))) (dOp mulAV (dLst (dCons (dVar 4) dNil)) (dC (.int 2)))) (dOp mulAV (dLst (dCons (dVar 5) dNil)) (dC (.int 4)))) (dLst (dCons (dOp addAV (dOp mulAV (dLst (dCons (dC (.bl false)) dNil)) (dC (.int 5))) (dLst (dCons (dC (.bl true)) dNil))) dNil)))) k))))) [some v, none, none, none, none, none, none, none, none, none, none] h = k [some v, some (.ref m1), u2, u3, u4, u5, some (.ref m2), none, none, none, none] g) ∧ Fr [] h g ∧ g[m1]? = some (.lst ownL) ∧ Due g m2 := by
  obtain ⟨n1, g1, e1, f1, q1, a1⟩ := mk_new [.exi 1, .exi 2, .exi 3, .exi 4, .exi 5, .exi 6, .exi 7, .exi 8, .exi 9] h (by simp)
  obtain ⟨n2, g2, e2, f2, q2, a2⟩ := mk_new [.exi 10, .exi 11, .exi 12, .exi 13, .exi 14, .exi 15, .exi 16, .exi 17] g1 (by simp)
  obtain ⟨n3, g3, e3, f3, q3, a3⟩ := add_ll ((f2).at a1 (by simp)) a2 (by simp)
  obtain ⟨n4, g4, e4, f4, q4, a4⟩ := mk_new [.bl true, .bl true] g3 (by simp)
  obtain ⟨n5, g5, e5, f5, q5, a5⟩ := mk_new [.bl false] g4 (by simp)
  obtain ⟨n6, g6, e6, f6, q6, a6⟩ := mul_ref (k := 4) a5 (by omega) (by simp)
  have e6 : mulAV (.ref n5) (.int 4) g5 = some (.ref n6, g6) := e6
  obtain ⟨n7, g7, e7, f7, q7, a7⟩ := add_ll ((f5.trans f6).at a4 (by simp)) a6 (by simp)
  obtain ⟨n8, g8, e8, f8, q8, a8⟩ := mk_new [.bl false, .bl false, .bl true, .bl false, .bl true, .bl false] g7 (by simp)
  obtain ⟨n9, g9, e9, f9, q9, a9⟩ := mk_new [.bl false, .bl false, .bl true, .bl true, .bl false, .bl false] g8 (by simp)
  obtain ⟨n10, g10, e10, f10, q10, a10⟩ := mk_new [.bl false, .bl false, .bl true] g9 (by simp)
  obtain ⟨n11, g11, e11, f11, q11, a11⟩ := mk_new [.bl false] g10 (by simp)
  obtain ⟨n12, g12, e12, f12, q12, a12⟩ := mul_ref (k := 3) a11 (by omega) (by simp)
  have e12 : mulAV (.ref n11) (.int 3) g11 = some (.ref n12, g12) := e12
  obtain ⟨n13, g13, e13, f13, q13, a13⟩ := add_ll ((f11.trans f12).at a10 (by simp)) a12 (by simp)
  obtain ⟨n14, g14, e14, f14, q14, a14⟩ := mk_new [.ref n7] g13 (by simp)
  obtain ⟨n15, g15, e15, f15, q15, a15⟩ := mul_ref (k := 7) a14 (by omega) (by simp)
  have e15 : mulAV (.ref n14) (.int 7) g14 = some (.ref n15, g15) := e15
  obtain ⟨n16, g16, e16, f16, q16, a16⟩ := mk_new [.ref n8] g15 (by simp)
  obtain ⟨n17, g17, e17, f17, q17, a17⟩ := mul_ref (k := 3) a16 (by omega) (by simp)
  have e17 : mulAV (.ref n16) (.int 3) g16 = some (.ref n17, g17) := e17
  obtain ⟨n18, g18, e18, f18, q18, a18⟩ := add_ll ((f16.trans f17).at a15 (by simp)) a17 (by simp)
  obtain ⟨n19, g19, e19, f19, q19, a19⟩ := mk_new [.ref n9] g18 (by simp)
  obtain ⟨n20, g20, e20, f20, q20, a20⟩ := mul_ref (k := 2) a19 (by omega) (by simp)
  have e20 : mulAV (.ref n19) (.int 2) g19 = some (.ref n20, g20) := e20
  obtain ⟨n21, g21, e21, f21, q21, a21⟩ := add_ll ((f19.trans f20).at a18 (by simp)) a20 (by simp)
  obtain ⟨n22, g22, e22, f22, q22, a22⟩ := mk_new [.ref n13] g21 (by simp)
  obtain ⟨n23, g23, e23, f23, q23, a23⟩ := mul_ref (k := 4) a22 (by omega) (by simp)
  have e23 : mulAV (.ref n22) (.int 4) g22 = some (.ref n23, g23) := e23
  obtain ⟨n24, g24, e24, f24, q24, a24⟩ := add_ll ((f22.trans f23).at a21 (by simp)) a23 (by simp)
  obtain ⟨n25, g25, e25, f25, q25, a25⟩ := mk_new [.bl false] g24 (by simp)
  obtain ⟨n26, g26, e26, f26, q26, a26⟩ := mul_ref (k := 5) a25 (by omega) (by simp)
  have e26 : mulAV (.ref n25) (.int 5) g25 = some (.ref n26, g26) := e26
  obtain ⟨n27, g27, e27, f27, q27, a27⟩ := mk_new [.bl true] g26 (by simp)
  obtain ⟨n28, g28, e28, f28, q28, a28⟩ := add_ll ((f27).at a26 (by simp)) a27 (by simp)
  obtain ⟨n29, g29, e29, f29, q29, a29⟩ := mk_new [.ref n28] g28 (by simp)
  obtain ⟨n30, g30, e30, f30, q30, a30⟩ := add_ll ((f25.trans (f26.trans (f27.trans (f28.trans f29)))).at a24 (by simp)) a29 (by simp)
  refine ⟨some (.ref n7), some (.ref n8), some (.ref n9), some (.ref n13), n3, n30, g30, fun k => ?_, f1.trans (f2.trans (f3.trans (f4.trans (f5.trans (f6.trans (f7.trans (f8.trans (f9.trans (f10.trans (f11.trans (f12.trans (f13.trans (f14.trans (f15.trans (f16.trans (f17.trans (f18.trans (f19.trans (f20.trans (f21.trans (f22.trans (f23.trans (f24.trans (f25.trans (f26.trans (f27.trans (f28.trans (f29.trans f30)))))))))))))))))))))))))))), ((f4.trans (f5.trans (f6.trans (f7.trans (f8.trans (f9.trans (f10.trans (f11.trans (f12.trans (f13.trans (f14.trans (f15.trans (f16.trans (f17.trans (f18.trans (f19.trans (f20.trans (f21.trans (f22.trans (f23.trans (f24.trans (f25.trans (f26.trans (f27.trans (f28.trans (f29.trans f30)))))))))))))))))))))))))).at a3 (by simp)), ⟨⟨_, a30, fun i hi => ?_⟩⟩⟩
  · have x : ∀ t s h1, dXiA t (dVar 0) (some v :: s) h1 = .ok (.exi t) h1 := fun t s h1 => xiA_ok (v := v) (by simp [vn])
    have y : ∀ t s h1, dXi t s h1 = .ok (.exi t) h1 := fun t s h1 => rfl
    simp -implicitDefEqProofs [x, y, vn, e1, e2, e3, e4, e5, e6, e7, e8, e9, e10, e11, e12, e13, e14, e15, e16, e17, e18, e19, e20, e21, e22, e23, e24, e25, e26, e27, e28, e29, e30]
  · rcases i with _ | _ | _ | _ | _ | _ | _ | _ | _ | _ | _ | _ | _ | _ | _ | _ | _ | i
    · exact ⟨n7, rfl, ((f8.trans (f9.trans (f10.trans (f11.trans (f12.trans (f13.trans (f14.trans (f15.trans (f16.trans (f17.trans (f18.trans (f19.trans (f20.trans (f21.trans (f22.trans (f23.trans (f24.trans (f25.trans (f26.trans (f27.trans (f28.trans (f29.trans f30)))))))))))))))))))))).at a7 (by simp))⟩
    · exact ⟨n7, rfl, ((f8.trans (f9.trans (f10.trans (f11.trans (f12.trans (f13.trans (f14.trans (f15.trans (f16.trans (f17.trans (f18.trans (f19.trans (f20.trans (f21.trans (f22.trans (f23.trans (f24.trans (f25.trans (f26.trans (f27.trans (f28.trans (f29.trans f30)))))))))))))))))))))).at a7 (by simp))⟩
    · exact ⟨n7, rfl, ((f8.trans (f9.trans (f10.trans (f11.trans (f12.trans (f13.trans (f14.trans (f15.trans (f16.trans (f17.trans (f18.trans (f19.trans (f20.trans (f21.trans (f22.trans (f23.trans (f24.trans (f25.trans (f26.trans (f27.trans (f28.trans (f29.trans f30)))))))))))))))))))))).at a7 (by simp))⟩
    · exact ⟨n7, rfl, ((f8.trans (f9.trans (f10.trans (f11.trans (f12.trans (f13.trans (f14.trans (f15.trans (f16.trans (f17.trans (f18.trans (f19.trans (f20.trans (f21.trans (f22.trans (f23.trans (f24.trans (f25.trans (f26.trans (f27.trans (f28.trans (f29.trans f30)))))))))))))))))))))).at a7 (by simp))⟩
    · exact ⟨n7, rfl, ((f8.trans (f9.trans (f10.trans (f11.trans (f12.trans (f13.trans (f14.trans (f15.trans (f16.trans (f17.trans (f18.trans (f19.trans (f20.trans (f21.trans (f22.trans (f23.trans (f24.trans (f25.trans (f26.trans (f27.trans (f28.trans (f29.trans f30)))))))))))))))))))))).at a7 (by simp))⟩
    · exact ⟨n7, rfl, ((f8.trans (f9.trans (f10.trans (f11.trans (f12.trans (f13.trans (f14.trans (f15.trans (f16.trans (f17.trans (f18.trans (f19.trans (f20.trans (f21.trans (f22.trans (f23.trans (f24.trans (f25.trans (f26.trans (f27.trans (f28.trans (f29.trans f30)))))))))))))))))))))).at a7 (by simp))⟩
    · exact ⟨n7, rfl, ((f8.trans (f9.trans (f10.trans (f11.trans (f12.trans (f13.trans (f14.trans (f15.trans (f16.trans (f17.trans (f18.trans (f19.trans (f20.trans (f21.trans (f22.trans (f23.trans (f24.trans (f25.trans (f26.trans (f27.trans (f28.trans (f29.trans f30)))))))))))))))))))))).at a7 (by simp))⟩
    · exact ⟨n8, rfl, ((f9.trans (f10.trans (f11.trans (f12.trans (f13.trans (f14.trans (f15.trans (f16.trans (f17.trans (f18.trans (f19.trans (f20.trans (f21.trans (f22.trans (f23.trans (f24.trans (f25.trans (f26.trans (f27.trans (f28.trans (f29.trans f30))))))))))))))))))))).at a8 (by simp))⟩
    · exact ⟨n8, rfl, ((f9.trans (f10.trans (f11.trans (f12.trans (f13.trans (f14.trans (f15.trans (f16.trans (f17.trans (f18.trans (f19.trans (f20.trans (f21.trans (f22.trans (f23.trans (f24.trans (f25.trans (f26.trans (f27.trans (f28.trans (f29.trans f30))))))))))))))))))))).at a8 (by simp))⟩
    · exact ⟨n8, rfl, ((f9.trans (f10.trans (f11.trans (f12.trans (f13.trans (f14.trans (f15.trans (f16.trans (f17.trans (f18.trans (f19.trans (f20.trans (f21.trans (f22.trans (f23.trans (f24.trans (f25.trans (f26.trans (f27.trans (f28.trans (f29.trans f30))))))))))))))))))))).at a8 (by simp))⟩
    · exact ⟨n9, rfl, ((f10.trans (f11.trans (f12.trans (f13.trans (f14.trans (f15.trans (f16.trans (f17.trans (f18.trans (f19.trans (f20.trans (f21.trans (f22.trans (f23.trans (f24.trans (f25.trans (f26.trans (f27.trans (f28.trans (f29.trans f30)))))))))))))))))))).at a9 (by simp))⟩
    · exact ⟨n9, rfl, ((f10.trans (f11.trans (f12.trans (f13.trans (f14.trans (f15.trans (f16.trans (f17.trans (f18.trans (f19.trans (f20.trans (f21.trans (f22.trans (f23.trans (f24.trans (f25.trans (f26.trans (f27.trans (f28.trans (f29.trans f30)))))))))))))))))))).at a9 (by simp))⟩
    · exact ⟨n13, rfl, ((f14.trans (f15.trans (f16.trans (f17.trans (f18.trans (f19.trans (f20.trans (f21.trans (f22.trans (f23.trans (f24.trans (f25.trans (f26.trans (f27.trans (f28.trans (f29.trans f30)))))))))))))))).at a13 (by simp))⟩
    · exact ⟨n13, rfl, ((f14.trans (f15.trans (f16.trans (f17.trans (f18.trans (f19.trans (f20.trans (f21.trans (f22.trans (f23.trans (f24.trans (f25.trans (f26.trans (f27.trans (f28.trans (f29.trans f30)))))))))))))))).at a13 (by simp))⟩
    · exact ⟨n13, rfl, ((f14.trans (f15.trans (f16.trans (f17.trans (f18.trans (f19.trans (f20.trans (f21.trans (f22.trans (f23.trans (f24.trans (f25.trans (f26.trans (f27.trans (f28.trans (f29.trans f30)))))))))))))))).at a13 (by simp))⟩
    · exact ⟨n13, rfl, ((f14.trans (f15.trans (f16.trans (f17.trans (f18.trans (f19.trans (f20.trans (f21.trans (f22.trans (f23.trans (f24.trans (f25.trans (f26.trans (f27.trans (f28.trans (f29.trans f30)))))))))))))))).at a13 (by simp))⟩
    · exact ⟨n28, rfl, ((f29.trans f30).at a28 (by simp))⟩
    · omega
theorem bases_right_ok {h : Hep} {v : AV} (vn : v.nx = true) : ∃ g, f__law_bases_right [v] h = .ok (.bl true) g ∧ Fr [] h g := by
  obtain ⟨u2, u3, u4, u5, m1, m2, g1, e1, f1, a1, D⟩ := head_ok (h := h) vn
  have ef : dVar 1 [some v, some (.ref m1), u2, u3, u4, u5, some (.ref m2), none, none, none, none] g1 = .ok (.ref m1) g1 := rfl
  have sr := src_en ef a1
  rcases for_ret (f := dEnm (dVar 1)) (src := .enA m1) (xs := enX ownL) (g := dgT (dgC (dgN 7) (dgC (dgN 8) dg0))) (body := b__law_bases_right_1) (h := g1) (h1 := g1) (s := [some v, some (.ref m1), u2, u3, u4, u5, some (.ref m2), none, none, none, none])
    (fun i s g => (∃ c7 c8 c9, s = [some v, some (.ref m1), u2, u3, u4, u5, some (.ref m2), c7, c8, c9, none]) ∧ Fr [] g1 g) (fun _ _ _ => False) sr (len_en a1) (fun i s g ⟨_, f⟩ => next_en (f.at a1 (by simp))) ⟨⟨none, none, none, rfl⟩, Fr.refl⟩
    (fun i s g x hx ⟨⟨c7, c8, c9, es⟩, f⟩ => by
      have hi : i < 17 := by
        have := (List.getElem?_eq_some_iff.mp hx).1
        rw [enX_len] at this
        exact this
      rw [enX_at, own_at i hi] at hx
      cases hx
      obtain ⟨d9, g', e, f'⟩ := turn_ok hi (D.fr f) (some v) (some (.ref m1)) u2 u3 u4 u5 c9 none
      subst es
      exact ⟨_, rfl, .inl ⟨_, _, .inl e, ⟨⟨_, _, _, rfl⟩, f.trans f'⟩⟩⟩) with ⟨s', h', e, _, f⟩ | ⟨_, _, _, _, t, _⟩
  · refine ⟨h', ?_, f1.trans f⟩
    have r : p__law_bases_right [some v, none, none, none, none, none, none, none, none, none, none] h = .rt (.bl true) h' := by
      refine (e1 _).trans ?_
      simp [e]
    simp [f__law_bases_right, dFun, dStart, r]
  · exact t.elim
/-! k01: the law -/
theorem place_ok01 (ns : List Int) (p : Nat) (hp : p < 4) (h : Hep) (u2 : Option AV) : ∃ c2 g, b_law_1 [some (.rol (ns.map .int)), some (.int p), u2] h = .nx [some (.rol (ns.map .int)), some (.int p), c2] g := by
  obtain ⟨s, g1, e1, f1, y, S1⟩ := source_ok ns p hp h
  obtain ⟨v, g2, e2, f2, O2, S2⟩ := odd_ok S1 (by omega)
  obtain ⟨g3, e3, f3⟩ := fields_ok O2
  obtain ⟨v', g4, e4, f4, O4, S4⟩ := odd_ok (S2.fr f3 (Nat.le_refl _)) (by omega)
  obtain ⟨g5, e5, f5⟩ := bases_right_ok (h := g4) O4.nx
  exact ⟨some (.ref s), g5, by simp -implicitDefEqProofs [b_law_1, e1, e2, e3, e4, e5]⟩
theorem law_true (ns : List Int) (hn : ns.length ≤ 63) : ∃ h, f_law [.rol (ns.map .int)] [] = .ok (.bl true) h := by
  have ef : dRg1 (dCons (dCB maxL (dCons (dC (.int 1)) (dCons (dCB minL (dCons (dC (.int 4)) (dCons (dCB lenL (dCons (dVar 0) dNil)) dNil))) dNil))) dNil) [some (.rol (ns.map .int)), none, none] [] = .ok (.fix (rngL 0 (max 1 (min 4 ns.length)))) [] := rg1_ok (j := ((max 1 (min 4 ns.length) : Nat) : Int)) (by
    simp -implicitDefEqProofs [lenL, lenA, maxL, minL]
    omega) rfl (by omega)
  obtain ⟨s', h', e, c1, c2, es⟩ := for_fix (body := b_law_1) (g := dgN 1) (fun i s' g => ∃ c1 c2, s' = [some (.rol (ns.map .int)), c1, c2]) ef ⟨none, none, rfl⟩
    (fun i s' g x hx ⟨c1, c2, es⟩ => by
      have hi : i < max 1 (min 4 ns.length) := by
        have := (List.getElem?_eq_some_iff.mp hx).1
        simpa using this
      have xi : x = .int (i : Nat) := by
        unfold rngL at hx
        rw [List.getElem?_map, List.getElem?_range hi] at hx
        simpa using hx.symm
      subst xi
      obtain ⟨d2, g', r2⟩ := place_ok01 ns i (by omega) g c2
      subst es
      exact ⟨_, _, g', rfl, .inl r2, _, _, rfl⟩)
  exact ⟨h', by simp -implicitDefEqProofs [f_law, dFun, dStart, p_law, e]⟩
end Q
namespace Q
open PySem PySem.Spec PyProof.Rows L2 Dn
set_option maxHeartbeats 0
theorem alN {α : Type} {p : α → Prop} : ∀ b ∈ ([] : List α), p b := fun b h => by cases h
theorem alC {α : Type} {p : α → Prop} {a : α} {l : List α} (h : p a) (t : ∀ b ∈ l, p b) : ∀ b ∈ a :: l, p b := fun b m => by
  rcases List.mem_cons.mp m with rfl | m
  · exact h
  · exact t b m
theorem okE {P : Program} {w : World} {K : PySem.W.Frag} {mg : Str → Option Value} {base : Heap} {k : Nat} {f : Addr} {fd : FuncData} {ps : List Str} {W : Wd} {n : Nat} {G G2 : DF} (r : FnOk P w K mg base (L2.CX P w) k f fd ps (spD W n G2)) (h : G = G2) : FnOk P w K mg base (L2.CX P w) k f fd ps (spD W n G) := by
  rw [h]
  exact r
theorem okGE {P : Program} {w : World} {K : PySem.W.Frag} {mg : Str → Option Value} {base : Heap} {k : Nat} {f : Addr} {fd : FuncData} {ps : List Str} {W : Wd} {n : Nat} {G G2 : DF} (r : FnG P w K mg base (L2.CX P w) k f fd ps (spD W n G2)) (h : G = G2) : FnG P w K mg base (L2.CX P w) k f fd ps (spD W n G) := by
  rw [h]
  exact r
section
local macro_rules | `(tactic| trivial) => `(tactic| first | exact .inl rfl | exact .inr rfl)
variable {P : Program} {w : World} {mg : Str → Option Value} {base : Heap} {W : Wd} {f : Addr} {fd : FuncData}
abbrev FnP (W : Wd) (st : Stmt) (x q : Str) (dvs : List V) (kws : List (Str × V)) (f : Addr) (fd : FuncData) : Prop := FunD W.K x q (defArgs st) (defBody st) (defScope st) dvs kws f fd
theorem sc__law_source : FnScope ["_law_script", "_law_at", "_law_whole"] ["_law_script", "_law_at"] (defScope (top 20)) := ⟨rfl, rfl, rfl, by decide +kernel, rfl, by decide +kernel, by decide +kernel⟩
theorem ok__law_source (hW : W.ct = ct0) (hN : W.fn = fn0) (F : FnP W (top 20) "_law_source" "_law_source" [] [] f fd) (b_len : mg "len" = none) (b_abs : mg "abs" = none) (b_int : mg "int" = none) : FnB P w mg base W 2 f fd ["_law_script", "_law_at"] 2 f__law_source [(2, [], [0, 1], [])] := by
  have nd : (["_law_script", "_law_at", "_law_whole"] : List Str).Nodup := sc__law_source.nd
  refine ⟨F.kp, okE (fnD F sc__law_source rfl fun cdv A outer s H E hr tk => ?_) rfl, alC (bnN F 2 [] [0, 1] fun _ _ _ _ _ _ us ws h1 h2 => match us, h1, ws, h2 with | [_, _], _, [], _ => by kernel_rfl) alN⟩
  exact (ssC (sSet nd (i := 2) rfl (by trivial) iD trivial) (ssC (sIf (cmT oLt (vv 1) (bD (cLen rfl) b_len bt_len (aD (vv 0) nD)) (nomark _))
  (ss1 (sSet nd (i := 2) rfl (by trivial) (ixD (xIdx rfl (ru1 hr)) (vv 0) (vv 1) fun _ _ => rfl) trivial))
  ss0) (ss1 (sRet (lstD (aD (opD (oMul rfl) (bD cAbs b_abs bt_abs (aD (vv 2) nD)) (yD cInt b_int bt_int (aD (cmD oGe (bD cAbs b_abs bt_abs (aD (vv 2) nD)) (opD oPow iD iD) (nomark _)) nD))) (aD (opD (oAdd rfl) (opD (oMul rfl) (opD (oAdd rfl) (opD (oAdd rfl) (opD oMod (vv 2) iD) (opD (oMul rfl) iD (vv 1))) iD) iD) (vv 1)) (aD iD nD))))))))
theorem sc__law_fields_right : FnScope ["_law_a", "_law_found"] ["_law_a"] (defScope (top 25)) := ⟨rfl, rfl, rfl, by decide +kernel, rfl, by decide +kernel, by decide +kernel⟩
theorem ok__law_fields_right (hW : W.ct = ct0) (hN : W.fn = fn0) (F : FnP W (top 25) "_law_fields_right" "_law_fields_right" [] [] f fd) (b_repr : mg "repr" = none) (XW : XWd W xt0) (XI_NoKey : HasXI P w mg base W 11 0 "NoKey") (XI_BadIndex : HasXI P w mg base W 10 0 "BadIndex") (XI_BadDeed : HasXI P w mg base W 6 0 "BadDeed") (XI_BadBound : HasXI P w mg base W 2 0 "BadBound") (XI_BadItem : HasXI P w mg base W 1 0 "BadItem") (XK_BadBound : HasXK P w mg base W 2 0 "BadBound" ["given"]) (XK_BadItem : HasXK P w mg base W 1 0 "BadItem" ["given"]) (XI_NotFound : HasXI P w mg base W 13 0 "NotFound") (XI_NoName : HasXI P w mg base W 12 0 "NoName") (XK_NoKey : HasXK P w mg base W 11 0 "NoKey" ["given"]) (XK_BadIndex : HasXK P w mg base W 10 0 "BadIndex" ["given"]) (XK_BadDeed : HasXK P w mg base W 6 0 "BadDeed" ["given"]) (XK_NoName : HasXK P w mg base W 12 0 "NoName" ["given"]) (XK_NotFound : HasXK P w mg base W 13 0 "NotFound" ["given"]) : FnBG P w mg base W 3 f fd ["_law_a"] 1 f__law_fields_right [(1, [], [0], [])] := by
  have nd : (["_law_a", "_law_found"] : List Str).Nodup := sc__law_fields_right.nd
  refine ⟨F.kp, okGE (fnDG F sc__law_fields_right rfl fun cdv A outer s H E hgd hr tk => ?_) rfl, alC (bnN F 1 [] [0] fun _ _ _ _ _ _ us ws h1 h2 => match us, h1, ws, h2 with | [_], _, [], _ => by kernel_rfl) alN⟩
  exact (ssC (sSet nd (i := 1) rfl (by trivial) (lstD (aD (xiG1 XW (by decide) (by decide) XI_BadItem (fnx hN (i := 0) rfl) hr (by decide) rfl tk (vv 0)) (aD (xiG1 XW (by decide) (by decide) XI_BadBound (fnx hN (i := 0) rfl) hr (by decide) rfl tk (vv 0)) (aD (xiG1 XW (by decide) (by decide) XI_BadDeed (fnx hN (i := 0) rfl) hr (by decide) rfl tk (vv 0)) (aD (xiG1 XW (by decide) (by decide) XI_BadIndex (fnx hN (i := 0) rfl) hr (by decide) rfl tk (vv 0)) (aD (xiG1 XW (by decide) (by decide) XI_NoKey (fnx hN (i := 0) rfl) hr (by decide) rfl tk (vv 0)) nD)))))) trivial) (ssC (sSet nd (i := 1) rfl (by trivial) (opD (oAdd rfl) (vv 1) (lstD (aD (xiG1 XW (by decide) (by decide) XI_NoName (fnx hN (i := 0) rfl) hr (by decide) rfl tk (vv 0)) (aD (xiG1 XW (by decide) (by decide) XI_NotFound (fnx hN (i := 0) rfl) hr (by decide) rfl tk (vv 0)) (aD (xiGK XW (by decide) (by decide) XK_BadItem (fnx hN (i := 0) rfl) hr (by decide) rfl tk (kCons (vv 0) kNil)) (aD (xiGK XW (by decide) (by decide) XK_BadBound (fnx hN (i := 0) rfl) hr (by decide) rfl tk (kCons (vv 0) kNil)) nD)))))) trivial) (ssC (sSet nd (i := 1) rfl (by trivial) (opD (oAdd rfl) (vv 1) (lstD (aD (xiGK XW (by decide) (by decide) XK_BadDeed (fnx hN (i := 0) rfl) hr (by decide) rfl tk (kCons (vv 0) kNil)) (aD (xiGK XW (by decide) (by decide) XK_BadIndex (fnx hN (i := 0) rfl) hr (by decide) rfl tk (kCons (vv 0) kNil)) (aD (xiGK XW (by decide) (by decide) XK_NoKey (fnx hN (i := 0) rfl) hr (by decide) rfl tk (kCons (vv 0) kNil)) nD))))) trivial) (ssC (sExpr (mD rfl PySem.F.plainAttrs_list PySem.F.slot_list_append meAppend (vv 1) (aD (xiGK XW (by decide) (by decide) XK_NoName (fnx hN (i := 0) rfl) hr (by decide) rfl tk (kCons (vv 0) kNil)) nD))) (ssC (sExpr (mD rfl PySem.F.plainAttrs_list PySem.F.slot_list_append meAppend (vv 1) (aD (xiGK XW (by decide) (by decide) XK_NotFound (fnx hN (i := 0) rfl) hr (by decide) rfl tk (kCons (vv 0) kNil)) nD))) (ss1 (sRet (cmD (oEq rfl (ru hr)) (bD (cRepr rfl hgd (ru5 hr)) b_repr bt_repr (aD (vv 1) nD)) (bD (cRepr rfl hgd (ru5 hr)) b_repr bt_repr (aD (opD (oMul rfl) (lstD (aD (vv 0) nD)) iD) nD)) (nomark _)))))))))
theorem sc__law_draw : FnScope ["_law_source_here", "_law_many", "_law_digit", "_law_mixed"] ["_law_source_here", "_law_many"] (defScope (top 21)) := ⟨rfl, rfl, rfl, by decide +kernel, rfl, by decide +kernel, by decide +kernel⟩
theorem ok__law_draw (hW : W.ct = ct0) (hN : W.fn = fn0) (F : FnP W (top 21) "_law_draw" "_law_draw" [] [] f fd)  : FnB P w mg base W 2 f fd ["_law_source_here", "_law_many"] 2 f__law_draw [(2, [], [0, 1], [])] := by
  have nd : (["_law_source_here", "_law_many", "_law_digit", "_law_mixed"] : List Str).Nodup := sc__law_draw.nd
  refine ⟨F.kp, okE (fnD F sc__law_draw rfl fun cdv A outer s H E hr tk => ?_) rfl, alC (bnN F 2 [] [0, 1] fun _ _ _ _ _ _ us ws h1 h2 => match us, h1, ws, h2 with | [_, _], _, [], _ => by kernel_rfl) alN⟩
  exact (ssC (sIf (cmT oGt (ixD (xIdx rfl (ru1 hr)) (vv 0) iD fun _ _ => rfl) iD (nomark _))
  (ssC (sSet nd (i := 2) rfl (by trivial) (opD oMod (ixD (xIdx rfl (ru1 hr)) (vv 0) iD fun _ _ => rfl) (vv 1)) trivial) (ssC (sPut hr (vv 0) iD (opD oFdiv (ixD (xIdx rfl (ru1 hr)) (vv 0) iD fun _ _ => rfl) (vv 1))) (ss1 (sRet (vv 2)))))
  ss0) (ssC (sPut hr (vv 0) iD (opD (oAdd rfl) (ixD (xIdx rfl (ru1 hr)) (vv 0) iD fun _ _ => rfl) iD)) (ssC (sSet nd (i := 3) rfl (by trivial) (opD oMod (opD oPow (opD (oAdd rfl) (ixD (xIdx rfl (ru1 hr)) (vv 0) iD fun _ _ => rfl) (opD (oMul rfl) iD (ixD (xIdx rfl (ru1 hr)) (vv 0) iD fun _ _ => rfl))) iD) iD) trivial) (ssC (sSet nd (i := 3) rfl (by trivial) (opD oMod (opD oPow (opD (oAdd rfl) (opD oFdiv (vv 3) iD) (opD (oMul rfl) iD (ixD (xIdx rfl (ru1 hr)) (vv 0) iD fun _ _ => rfl))) iD) iD) trivial) (ss1 (sRet (opD oMod (opD oFdiv (vv 3) iD) (vv 1))))))))
theorem sc__law_odd : FnScope ["_law_source_here", "_law_things"] ["_law_source_here"] (defScope (top 22)) := ⟨rfl, rfl, rfl, by decide +kernel, rfl, by decide +kernel, by decide +kernel⟩
theorem ok__law_odd (hW : W.ct = ct0) (hN : W.fn = fn0) (F : FnP W (top 22) "_law_odd" "_law_odd" [] [] f fd) (H__law_draw : Has P w mg base W 2 "_law_draw" ["_law_source_here", "_law_many"] 2 f__law_draw [(2, [], [0, 1], [])]) : FnB P w mg base W 4 f fd ["_law_source_here"] 1 f__law_odd [(1, [], [0], [])] := by
  have nd : (["_law_source_here", "_law_things"] : List Str).Nodup := sc__law_odd.nd
  refine ⟨F.kp, okE (fnD F sc__law_odd rfl fun cdv A outer s H E hr tk => ?_) rfl, alC (bnN F 1 [] [0] fun _ _ _ _ _ _ us ws h1 h2 => match us, h1, ws, h2 with | [_], _, [], _ => by kernel_rfl) alN⟩
  exact (ssC (sSet nd (i := 1) rfl (by trivial) (lstD (aD nD0 (aD bD0 (aD bD0 (aD sD (aD sD (aD sD (aD sD (aD (opD oPow iD iD) (aD (unD uNeg (opD oPow iD iD)) (aD (lstD nD) (aD (tupD nD) (aD (lstD (aD iD nD)) (aD (tupD (aD sD nD)) (aD (tupD (aD iD (aD iD nD))) nD))))))))))))))) trivial) (ss1 (sRet (ixD (xIdx rfl (ru1 hr)) (opD (oAdd rfl) (vv 1) (lstD (aD sD (aD (lstD (aD nD0 nD)) nD)))) (callH H__law_draw 0 rfl rfl hr (by decide) rfl tk (aD (vv 0) (aD iD nD)) kNil) fun _ _ => rfl))))
theorem sc__law_bases : FnScope ["_law_error", "_law_found"] ["_law_error"] (defScope (top 23)) := ⟨rfl, rfl, rfl, by decide +kernel, rfl, by decide +kernel, by decide +kernel⟩
theorem ok__law_bases (hW : W.ct = ct0) (hN : W.fn = fn0) (F : FnP W (top 23) "_law_bases" "_law_bases" [] [] f fd) (b_isinstance : mg "isinstance" = none) (b_LookupError : mg "LookupError" = none) (b_ValueError : mg "ValueError" = none) (k_CountError : mg "CountError" = some (.ref (W.cl 0))) (b_IndexError : mg "IndexError" = none) (b_KeyError : mg "KeyError" = none) (b_RuntimeError : mg "RuntimeError" = none) (XW : XWd W xt0) (XO_CountError : XOk W xt0 0) : FnB P w mg base W 2 f fd ["_law_error"] 1 f__law_bases [(1, [], [0], [])] := by
  have nd : (["_law_error", "_law_found"] : List Str).Nodup := sc__law_bases.nd
  refine ⟨F.kp, okE (fnD F sc__law_bases rfl fun cdv A outer s H E hr tk => ?_) rfl, alC (bnN F 1 [] [0] fun _ _ _ _ _ _ us ws h1 h2 => match us, h1, ws, h2 with | [_], _, [], _ => by kernel_rfl) alN⟩
  exact (ssC (sSet nd (i := 1) rfl (by trivial) (lstD (aD (isVO XO_CountError XW rfl b_isinstance (vv 0) k_CountError) (aD (isVT XW rfl b_isinstance (vv 0) b_ValueError bt_ValueError) (aD (isVT XW rfl b_isinstance (vv 0) b_LookupError bt_LookupError) nD)))) trivial) (ssC (sSet nd (i := 1) rfl (by trivial) (opD (oAdd rfl) (vv 1) (lstD (aD (isVT XW rfl b_isinstance (vv 0) b_KeyError bt_KeyError) (aD (isVT XW rfl b_isinstance (vv 0) b_IndexError bt_IndexError) nD)))) trivial) (ss1 (sRet (opD (oAdd rfl) (vv 1) (lstD (aD (isVT XW rfl b_isinstance (vv 0) b_RuntimeError bt_RuntimeError) nD)))))))
theorem sc__law_classes : FnScope ["_law_error", "_law_found"] ["_law_error"] (defScope (top 24)) := ⟨rfl, rfl, rfl, by decide +kernel, rfl, by decide +kernel, by decide +kernel⟩
theorem ok__law_classes (hW : W.ct = ct0) (hN : W.fn = fn0) (F : FnP W (top 24) "_law_classes" "_law_classes" [] [] f fd) (b_isinstance : mg "isinstance" = none) (k_BadPairs : mg "BadPairs" = some (.ref (W.cl 3))) (k_BadBound : mg "BadBound" = some (.ref (W.cl 2))) (k_BadItem : mg "BadItem" = some (.ref (W.cl 1))) (k_BadExpression : mg "BadExpression" = some (.ref (W.cl 5))) (k_BadRow : mg "BadRow" = some (.ref (W.cl 4))) (k_Empty : mg "Empty" = some (.ref (W.cl 8))) (k_Unlike : mg "Unlike" = some (.ref (W.cl 7))) (k_BadDeed : mg "BadDeed" = some (.ref (W.cl 6))) (k_NoKey : mg "NoKey" = some (.ref (W.cl 11))) (k_BadIndex : mg "BadIndex" = some (.ref (W.cl 10))) (k_Full : mg "Full" = some (.ref (W.cl 9))) (k_NoLayer : mg "NoLayer" = some (.ref (W.cl 14))) (k_NotFound : mg "NotFound" = some (.ref (W.cl 13))) (k_NoName : mg "NoName" = some (.ref (W.cl 12))) (k_Changed : mg "Changed" = some (.ref (W.cl 17))) (k_NothingDone : mg "NothingDone" = some (.ref (W.cl 16))) (k_Done : mg "Done" = some (.ref (W.cl 15))) (XW : XWd W xt0) (XO_BadPairs : XOk W xt0 3) (XO_BadBound : XOk W xt0 2) (XO_BadItem : XOk W xt0 1) (XO_BadExpression : XOk W xt0 5) (XO_BadRow : XOk W xt0 4) (XO_Empty : XOk W xt0 8) (XO_Unlike : XOk W xt0 7) (XO_BadDeed : XOk W xt0 6) (XO_NoKey : XOk W xt0 11) (XO_BadIndex : XOk W xt0 10) (XO_Full : XOk W xt0 9) (XO_NoLayer : XOk W xt0 14) (XO_NotFound : XOk W xt0 13) (XO_NoName : XOk W xt0 12) (XO_Changed : XOk W xt0 17) (XO_NothingDone : XOk W xt0 16) (XO_Done : XOk W xt0 15) : FnB P w mg base W 2 f fd ["_law_error"] 1 f__law_classes [(1, [], [0], [])] := by
  have nd : (["_law_error", "_law_found"] : List Str).Nodup := sc__law_classes.nd
  refine ⟨F.kp, okE (fnD F sc__law_classes rfl fun cdv A outer s H E hr tk => ?_) rfl, alC (bnN F 1 [] [0] fun _ _ _ _ _ _ us ws h1 h2 => match us, h1, ws, h2 with | [_], _, [], _ => by kernel_rfl) alN⟩
  exact (ssC (sSet nd (i := 1) rfl (by trivial) (lstD (aD (isVO XO_BadItem XW rfl b_isinstance (vv 0) k_BadItem) (aD (isVO XO_BadBound XW rfl b_isinstance (vv 0) k_BadBound) (aD (isVO XO_BadPairs XW rfl b_isinstance (vv 0) k_BadPairs) nD)))) trivial) (ssC (sSet nd (i := 1) rfl (by trivial) (opD (oAdd rfl) (vv 1) (lstD (aD (isVO XO_BadRow XW rfl b_isinstance (vv 0) k_BadRow) (aD (isVO XO_BadExpression XW rfl b_isinstance (vv 0) k_BadExpression) nD)))) trivial) (ssC (sSet nd (i := 1) rfl (by trivial) (opD (oAdd rfl) (vv 1) (lstD (aD (isVO XO_BadDeed XW rfl b_isinstance (vv 0) k_BadDeed) (aD (isVO XO_Unlike XW rfl b_isinstance (vv 0) k_Unlike) (aD (isVO XO_Empty XW rfl b_isinstance (vv 0) k_Empty) nD))))) trivial) (ssC (sSet nd (i := 1) rfl (by trivial) (opD (oAdd rfl) (vv 1) (lstD (aD (isVO XO_Full XW rfl b_isinstance (vv 0) k_Full) (aD (isVO XO_BadIndex XW rfl b_isinstance (vv 0) k_BadIndex) (aD (isVO XO_NoKey XW rfl b_isinstance (vv 0) k_NoKey) nD))))) trivial) (ssC (sSet nd (i := 1) rfl (by trivial) (opD (oAdd rfl) (vv 1) (lstD (aD (isVO XO_NoName XW rfl b_isinstance (vv 0) k_NoName) (aD (isVO XO_NotFound XW rfl b_isinstance (vv 0) k_NotFound) (aD (isVO XO_NoLayer XW rfl b_isinstance (vv 0) k_NoLayer) nD))))) trivial) (ss1 (sRet (opD (oAdd rfl) (vv 1) (lstD (aD (isVO XO_Done XW rfl b_isinstance (vv 0) k_Done) (aD (isVO XO_NothingDone XW rfl b_isinstance (vv 0) k_NothingDone) (aD (isVO XO_Changed XW rfl b_isinstance (vv 0) k_Changed) nD))))))))))))
theorem sc__law_bases_right : FnScope ["_law_a", "_law_own", "_law_worth", "_law_index", "_law_key", "_law_look", "_law_due", "_law_at", "_law_error", "_law_classes_here", "_law_spot"] ["_law_a"] (defScope (top 26)) := ⟨rfl, rfl, rfl, by decide +kernel, rfl, by decide +kernel, by decide +kernel⟩
theorem ok__law_bases_right (hW : W.ct = ct0) (hN : W.fn = fn0) (F : FnP W (top 26) "_law_bases_right" "_law_bases_right" [] [] f fd) (b_enumerate : mg "enumerate" = none) (b_range : mg "range" = none) (X0_Full : HasX0 mg W 9 "Full") (X0_Empty : HasX0 mg W 8 "Empty") (X0_Unlike : HasX0 mg W 7 "Unlike") (XI_BadDeed : HasXI P w mg base W 6 0 "BadDeed") (X0_BadExpression : HasX0 mg W 5 "BadExpression") (X0_BadRow : HasX0 mg W 4 "BadRow") (X0_BadPairs : HasX0 mg W 3 "BadPairs") (XI_BadBound : HasXI P w mg base W 2 0 "BadBound") (XI_BadItem : HasXI P w mg base W 1 0 "BadItem") (X0_Changed : HasX0 mg W 17 "Changed") (X0_NothingDone : HasX0 mg W 16 "NothingDone") (X0_Done : HasX0 mg W 15 "Done") (X0_NoLayer : HasX0 mg W 14 "NoLayer") (XI_NotFound : HasXI P w mg base W 13 0 "NotFound") (XI_NoName : HasXI P w mg base W 12 0 "NoName") (XI_NoKey : HasXI P w mg base W 11 0 "NoKey") (XI_BadIndex : HasXI P w mg base W 10 0 "BadIndex") (H__law_bases : Has P w mg base W 2 "_law_bases" ["_law_error"] 1 f__law_bases [(1, [], [0], [])]) (H__law_classes : Has P w mg base W 2 "_law_classes" ["_law_error"] 1 f__law_classes [(1, [], [0], [])]) : FnB P w mg base W 4 f fd ["_law_a"] 1 f__law_bases_right [(1, [], [0], [])] := by
  have nd : (["_law_a", "_law_own", "_law_worth", "_law_index", "_law_key", "_law_look", "_law_due", "_law_at", "_law_error", "_law_classes_here", "_law_spot"] : List Str).Nodup := sc__law_bases_right.nd
  refine ⟨F.kp, okE (fnD F sc__law_bases_right rfl fun cdv A outer s H E hr tk => ?_) rfl, alC (bnN F 1 [] [0] fun _ _ _ _ _ _ us ws h1 h2 => match us, h1, ws, h2 with | [_], _, [], _ => by kernel_rfl) alN⟩
  exact (ssC (sSet nd (i := 1) rfl (by trivial) (lstD (aD (xiV1 XI_BadItem hr (by decide) rfl tk (vv 0)) (aD (xiV1 XI_BadBound hr (by decide) rfl tk (vv 0)) (aD (xiV0 X0_BadPairs rfl) (aD (xiV0 X0_BadRow rfl) (aD (xiV0 X0_BadExpression rfl) (aD (xiV1 XI_BadDeed hr (by decide) rfl tk (vv 0)) (aD (xiV0 X0_Unlike rfl) (aD (xiV0 X0_Empty rfl) (aD (xiV0 X0_Full rfl) nD)))))))))) trivial) (ssC (sSet nd (i := 1) rfl (by trivial) (opD (oAdd rfl) (vv 1) (lstD (aD (xiV1 XI_BadIndex hr (by decide) rfl tk (vv 0)) (aD (xiV1 XI_NoKey hr (by decide) rfl tk (vv 0)) (aD (xiV1 XI_NoName hr (by decide) rfl tk (vv 0)) (aD (xiV1 XI_NotFound hr (by decide) rfl tk (vv 0)) (aD (xiV0 X0_NoLayer rfl) (aD (xiV0 X0_Done rfl) (aD (xiV0 X0_NothingDone rfl) (aD (xiV0 X0_Changed rfl) nD)))))))))) trivial) (ssC (sPar2 rfl nd rfl rfl (by decide) rfl rfl (aD (opD (oAdd rfl) (lstD (aD bD0 (aD bD0 nD))) (opD (oMul rfl) (lstD (aD bD0 nD)) iD)) (aD (lstD (aD bD0 (aD bD0 (aD bD0 (aD bD0 (aD bD0 (aD bD0 nD))))))) nD)) trivial trivial) (ssC (sPar2 rfl nd rfl rfl (by decide) rfl rfl (aD (lstD (aD bD0 (aD bD0 (aD bD0 (aD bD0 (aD bD0 (aD bD0 nD))))))) (aD (opD (oAdd rfl) (lstD (aD bD0 (aD bD0 (aD bD0 nD)))) (opD (oMul rfl) (lstD (aD bD0 nD)) iD)) nD)) trivial trivial) (ssC (sSet nd (i := 6) rfl (by trivial) (opD (oAdd rfl) (opD (oAdd rfl) (opD (oAdd rfl) (opD (oAdd rfl) (opD (oMul rfl) (lstD (aD (vv 2) nD)) iD) (opD (oMul rfl) (lstD (aD (vv 3) nD)) iD)) (opD (oMul rfl) (lstD (aD (vv 4) nD)) iD)) (opD (oMul rfl) (lstD (aD (vv 5) nD)) iD)) (lstD (aD (opD (oAdd rfl) (opD (oMul rfl) (lstD (aD bD0 nD)) iD) (lstD (aD bD0 nD))) nD))) trivial) (ssC (sFor (passes_of rfl) rfl (enmD rfl (vv 1) b_enumerate) (gT rfl rfl (gsC anyC_ok (gN nd rfl (by trivial) trivial (fun _ _ => trivial)) (gsC anyC_ok (gN nd rfl (by trivial) trivial (fun _ _ => trivial)) (gs0 anyC_ok))) (dgC_len (dgC_len dg0_len)))
  (ssC (sSetLc (own := [("_law_spot", 10)]) rfl nd (i := 9) rfl rfl rfl (rg1D rfl b_range (aD iD nD)) (blkOk (by kernel_rfl)) (fun _ _ _ _ _ => (gN nd rfl (by trivial) trivial (fun σ v => wipe_set σ (by decide)))) (fun _ _ _ _ _ => yesD) (fun _ _ _ _ _ => (cmD (oEq rfl (ru hr)) (vv 10) (vv 7) (nomark _))) (fun _ _ => trivial) trivial) (ss1 (sIf (ptW (orD (cmT (oNe rfl (ru hr)) (callH H__law_bases 0 rfl rfl hr (by decide) rfl tk (aD (vv 8) nD) kNil) (ixD (xIdx rfl (ru1 hr)) (vv 6) (vv 7) fun _ _ => rfl) (nomark _)) (or1D (cmT (oNe rfl (ru hr)) (callH H__law_classes 0 rfl rfl hr (by decide) rfl tk (aD (vv 8) nD) kNil) (vv 9) (nomark _)))))
  (ss1 (sRet bD0))
  ss0)))) (ss1 (sRet bD0))))))))
theorem sc_law : FnScope ["_law_script", "_law_at", "_law_source_here"] ["_law_script"] (defScope (top 27)) := ⟨rfl, rfl, rfl, by decide +kernel, rfl, by decide +kernel, by decide +kernel⟩
theorem ok_law (hW : W.ct = ct0) (hN : W.fn = fn0) (F : FnP W (top 27) "law" "law" [] [] f fd) (b_range : mg "range" = none) (b_max : mg "max" = none) (b_min : mg "min" = none) (b_len : mg "len" = none) (H__law_source : Has P w mg base W 2 "_law_source" ["_law_script", "_law_at"] 2 f__law_source [(2, [], [0, 1], [])]) (H__law_fields_right : HasG P w mg base W 3 "_law_fields_right" ["_law_a"] 1 f__law_fields_right [(1, [], [0], [])]) (H__law_odd : Has P w mg base W 4 "_law_odd" ["_law_source_here"] 1 f__law_odd [(1, [], [0], [])]) (H__law_bases_right : Has P w mg base W 4 "_law_bases_right" ["_law_a"] 1 f__law_bases_right [(1, [], [0], [])]) : FnG P w W.K mg base (L2.CX P w) 6 f fd ["_law_script"] (spD W 1 f_law) := by
  have nd : (["_law_script", "_law_at", "_law_source_here"] : List Str).Nodup := sc_law.nd
  refine okGE (fnDG F sc_law rfl fun cdv A outer s H E hgd hr tk => ?_) rfl
  exact (ssC (sFor (passes_of rfl) rfl (rg1D rfl b_range (aD (bD (cMax rfl) b_max bt_max (aD iD (aD (bD (cMin rfl) b_min bt_min (aD iD (aD (bD (cLen rfl) b_len bt_len (aD (vv 0) nD)) nD))) nD))) nD)) (gN nd rfl (by trivial) trivial (fun _ _ => trivial))
  (ssC (sSet nd (i := 2) rfl (by trivial) (callH H__law_source 0 rfl rfl hr (by decide) rfl tk (aD (vv 0) (aD (vv 1) nD)) kNil) trivial) (ss1 (sIf (ptW (orD (notD (tstD (callHG H__law_fields_right hgd 0 rfl rfl hr (by decide) rfl tk (aD (callH H__law_odd 0 rfl rfl hr (by decide) rfl tk (aD (vv 2) nD) kNil) nD) kNil))) (or1D (notD (tstD (callH H__law_bases_right 0 rfl rfl hr (by decide) rfl tk (aD (callH H__law_odd 0 rfl rfl hr (by decide) rfl tk (aD (vv 2) nD) kNil) nD) kNil))))))
  (ss1 (sRet bD0))
  ss0)))) (ss1 (sRet bD0)))
end
theorem facts {P : Program} {w : World} {K : PySem.W.Frag} {h : Heap} {mg : Str → Option Value} {f : Addr} (X : K.In h) (G : h.Ns mainGlobals mg) (hfa : mg "law" = some (.ref f)) (c : SaysF fa fn xt K) :
    ∃ fd : FuncData, (∀ (s : Shared) (v : Value), BindsTo s fd ⟨[v], []⟩ [("_law_script", v)]) ∧ ∀ base : Heap, K.In base → base.Ns mainGlobals mg → FnG P w K mg base (L2.CX P w) 6 f fd ["_law_script"] (spL K) := by
  obtain ⟨fd_I_NoKey, F_I_NoKey⟩ := c.def_ 8 (d := d_I_NoKey) rfl
  obtain ⟨fd_I_BadIndex, F_I_BadIndex⟩ := c.def_ 9 (d := d_I_BadIndex) rfl
  obtain ⟨fd_I_BadDeed, F_I_BadDeed⟩ := c.def_ 10 (d := d_I_BadDeed) rfl
  obtain ⟨fd_I_BadBound, F_I_BadBound⟩ := c.def_ 11 (d := d_I_BadBound) rfl
  obtain ⟨fd_I_BadItem, F_I_BadItem⟩ := c.def_ 12 (d := d_I_BadItem) rfl
  obtain ⟨fd_I_NotFound, F_I_NotFound⟩ := c.def_ 13 (d := d_I_NotFound) rfl
  obtain ⟨fd_I_NoName, F_I_NoName⟩ := c.def_ 14 (d := d_I_NoName) rfl
  obtain ⟨fd__law_source, F__law_source⟩ := c.def_ 0 (d := d__law_source) rfl
  obtain ⟨fd__law_fields_right, F__law_fields_right⟩ := c.def_ 1 (d := d__law_fields_right) rfl
  obtain ⟨fd__law_draw, F__law_draw⟩ := c.def_ 2 (d := d__law_draw) rfl
  obtain ⟨fd__law_odd, F__law_odd⟩ := c.def_ 3 (d := d__law_odd) rfl
  obtain ⟨fd__law_bases, F__law_bases⟩ := c.def_ 4 (d := d__law_bases) rfl
  obtain ⟨fd__law_classes, F__law_classes⟩ := c.def_ 5 (d := d__law_classes) rfl
  obtain ⟨fd__law_bases_right, F__law_bases_right⟩ := c.def_ 6 (d := d__law_bases_right) rfl
  obtain ⟨fd_law, F_law⟩ := c.def_ 7 (d := d_law) rfl
  have e := hfa.symm.trans (He.glo_ok X G (c.fact 0 (f := .glo "law") rfl))
  cases e
  have bl := FunD.bindsA (ps := ["_law_script"]) F_law fun _ _ _ _ _ _ us hl => match us, hl with | [_], _ => rfl
  refine ⟨fd_law, fun s v => bl s [v] rfl, fun base _ _ => ?_⟩
  obtain ⟨W, hWe⟩ : ∃ W : Wd, W = (mkWX K cs0 xs0 fn0 subs0 (by decide) (c.x 2 (f := wdXB cs0 xs0 fn0 subs0) rfl) (cdB_ok (c.x 0 (f := cdB) rfl)) (ckB_ok (c.x 1 (f := ckB) rfl))) := ⟨_, rfl⟩
  have hW : W.ct = ct0 := by rw [hWe] <;> rfl
  have hN : W.fn = fn0 := by rw [hWe] <;> rfl
  have hKW : W.K = K := by rw [hWe] <;> rfl
  have hT : W.T = [] := by rw [hWe] <;> rfl
  have hc_CountError : W.cl 0 = He.ga K "CountError" := by rw [hWe] <;> rfl
  have hc_BadItem : W.cl 1 = He.ga K "BadItem" := by rw [hWe] <;> rfl
  have hc_BadBound : W.cl 2 = He.ga K "BadBound" := by rw [hWe] <;> rfl
  have hc_BadPairs : W.cl 3 = He.ga K "BadPairs" := by rw [hWe] <;> rfl
  have hc_BadRow : W.cl 4 = He.ga K "BadRow" := by rw [hWe] <;> rfl
  have hc_BadExpression : W.cl 5 = He.ga K "BadExpression" := by rw [hWe] <;> rfl
  have hc_BadDeed : W.cl 6 = He.ga K "BadDeed" := by rw [hWe] <;> rfl
  have hc_Unlike : W.cl 7 = He.ga K "Unlike" := by rw [hWe] <;> rfl
  have hc_Empty : W.cl 8 = He.ga K "Empty" := by rw [hWe] <;> rfl
  have hc_Full : W.cl 9 = He.ga K "Full" := by rw [hWe] <;> rfl
  have hc_BadIndex : W.cl 10 = He.ga K "BadIndex" := by rw [hWe] <;> rfl
  have hc_NoKey : W.cl 11 = He.ga K "NoKey" := by rw [hWe] <;> rfl
  have hc_NoName : W.cl 12 = He.ga K "NoName" := by rw [hWe] <;> rfl
  have hc_NotFound : W.cl 13 = He.ga K "NotFound" := by rw [hWe] <;> rfl
  have hc_NoLayer : W.cl 14 = He.ga K "NoLayer" := by rw [hWe] <;> rfl
  have hc_Done : W.cl 15 = He.ga K "Done" := by rw [hWe] <;> rfl
  have hc_NothingDone : W.cl 16 = He.ga K "NothingDone" := by rw [hWe] <;> rfl
  have hc_Changed : W.cl 17 = He.ga K "Changed" := by rw [hWe] <;> rfl
  have hcl : W.cl = clOf K (cs0 ++ xs0) := by rw [hWe] <;> rfl
  clear hWe
  subst hKW
  have XW : XWd W xt0 := xwB_ok hcl (by rw [hN]; exact (c.x 3 (f := xwB (cs0 ++ xs0) fn0 xt0) rfl))
  have X0_Full : HasX0 mg W 9 "Full" := x0B_ok PySem.F.excBase_IndexError hc_Full (He.glo_ok X G (c.fact 1 (f := .glo "Full") rfl)) (c.x 4 (f := x0B "Full" [.type "IndexError", .type "LookupError", .type "Exception", .type "BaseException", .type "object"] "IndexError.__new__") rfl)
  have X0_Empty : HasX0 mg W 8 "Empty" := x0B_ok PySem.F.excBase_IndexError hc_Empty (He.glo_ok X G (c.fact 2 (f := .glo "Empty") rfl)) (c.x 5 (f := x0B "Empty" [.type "IndexError", .type "LookupError", .type "Exception", .type "BaseException", .type "object"] "IndexError.__new__") rfl)
  have X0_Unlike : HasX0 mg W 7 "Unlike" := x0B_ok PySem.F.excBase_ValueError hc_Unlike (He.glo_ok X G (c.fact 3 (f := .glo "Unlike") rfl)) (c.x 6 (f := x0B "Unlike" [.type "ValueError", .type "Exception", .type "BaseException", .type "object"] "ValueError.__new__") rfl)
  have X0_BadExpression : HasX0 mg W 5 "BadExpression" := x0B_ok PySem.F.excBase_ValueError hc_BadExpression (He.glo_ok X G (c.fact 4 (f := .glo "BadExpression") rfl)) (c.x 7 (f := x0B "BadExpression" [.type "ValueError", .type "Exception", .type "BaseException", .type "object"] "ValueError.__new__") rfl)
  have X0_BadRow : HasX0 mg W 4 "BadRow" := x0B_ok PySem.F.excBase_ValueError hc_BadRow (He.glo_ok X G (c.fact 5 (f := .glo "BadRow") rfl)) (c.x 8 (f := x0B "BadRow" [.type "ValueError", .type "Exception", .type "BaseException", .type "object"] "ValueError.__new__") rfl)
  have X0_BadPairs : HasX0 mg W 3 "BadPairs" := x0B_ok PySem.F.excBase_ValueError hc_BadPairs (He.glo_ok X G (c.fact 6 (f := .glo "BadPairs") rfl)) (c.x 9 (f := x0B "BadPairs" [.type "ValueError", .type "Exception", .type "BaseException", .type "object"] "ValueError.__new__") rfl)
  have X0_Changed : HasX0 mg W 17 "Changed" := x0B_ok PySem.F.excBase_RuntimeError hc_Changed (He.glo_ok X G (c.fact 7 (f := .glo "Changed") rfl)) (c.x 10 (f := x0B "Changed" [.type "RuntimeError", .type "Exception", .type "BaseException", .type "object"] "RuntimeError.__new__") rfl)
  have X0_NothingDone : HasX0 mg W 16 "NothingDone" := x0B_ok PySem.F.excBase_LookupError hc_NothingDone (He.glo_ok X G (c.fact 8 (f := .glo "NothingDone") rfl)) (c.x 11 (f := x0B "NothingDone" [.type "LookupError", .type "Exception", .type "BaseException", .type "object"] "LookupError.__new__") rfl)
  have X0_Done : HasX0 mg W 15 "Done" := x0B_ok PySem.F.excBase_LookupError hc_Done (He.glo_ok X G (c.fact 9 (f := .glo "Done") rfl)) (c.x 12 (f := x0B "Done" [.type "LookupError", .type "Exception", .type "BaseException", .type "object"] "LookupError.__new__") rfl)
  have X0_NoLayer : HasX0 mg W 14 "NoLayer" := x0B_ok PySem.F.excBase_LookupError hc_NoLayer (He.glo_ok X G (c.fact 10 (f := .glo "NoLayer") rfl)) (c.x 13 (f := x0B "NoLayer" [.type "LookupError", .type "Exception", .type "BaseException", .type "object"] "LookupError.__new__") rfl)
  have XI_NoKey : HasXI P w mg base W 11 0 "NoKey" := xiB_ok PySem.DX.newF_KeyError hc_NoKey (He.glo_ok X G (c.fact 11 (f := .glo "NoKey") rfl)) (fnx hN rfl) (c.x 14 (f := xiB "NoKey" "given" (pMeth "NoKey" "__init__") PySem.DX.bmKey "LookupError.__new__") rfl) (xi_init PySem.DX.keyStore F_I_NoKey sc_I_NoKey (fun cdv A outer s H E => ps_xiS PySem.DX.keyStore (vt 0) (vt 1))) (FunD.bindsA (ps := ["self", "given"]) F_I_NoKey fun _ _ _ _ _ _ us hl => match us, hl with | [_, _], _ => rfl)
  have XI_BadIndex : HasXI P w mg base W 10 0 "BadIndex" := xiB_ok PySem.DX.newF_IndexError hc_BadIndex (He.glo_ok X G (c.fact 12 (f := .glo "BadIndex") rfl)) (fnx hN rfl) (c.x 15 (f := xiB "BadIndex" "given" (pMeth "BadIndex" "__init__") [.type "IndexError", .type "LookupError", .type "Exception", .type "BaseException", .type "object"] "IndexError.__new__") rfl) (xi_init PySem.F.store_IndexError F_I_BadIndex sc_I_BadIndex (fun cdv A outer s H E => ps_xiS PySem.F.store_IndexError (vt 0) (vt 1))) (FunD.bindsA (ps := ["self", "given"]) F_I_BadIndex fun _ _ _ _ _ _ us hl => match us, hl with | [_, _], _ => rfl)
  have XI_BadDeed : HasXI P w mg base W 6 0 "BadDeed" := xiB_ok PySem.DX.newF_ValueError hc_BadDeed (He.glo_ok X G (c.fact 13 (f := .glo "BadDeed") rfl)) (fnx hN rfl) (c.x 16 (f := xiB "BadDeed" "given" (pMeth "BadDeed" "__init__") [.type "ValueError", .type "Exception", .type "BaseException", .type "object"] "ValueError.__new__") rfl) (xi_init PySem.F.store_ValueError F_I_BadDeed sc_I_BadDeed (fun cdv A outer s H E => ps_xiS PySem.F.store_ValueError (vt 0) (vt 1))) (FunD.bindsA (ps := ["self", "given"]) F_I_BadDeed fun _ _ _ _ _ _ us hl => match us, hl with | [_, _], _ => rfl)
  have XI_BadBound : HasXI P w mg base W 2 0 "BadBound" := xiB_ok PySem.DX.newF_ValueError hc_BadBound (He.glo_ok X G (c.fact 14 (f := .glo "BadBound") rfl)) (fnx hN rfl) (c.x 17 (f := xiB "BadBound" "given" (pMeth "BadBound" "__init__") [.type "ValueError", .type "Exception", .type "BaseException", .type "object"] "ValueError.__new__") rfl) (xi_init PySem.F.store_ValueError F_I_BadBound sc_I_BadBound (fun cdv A outer s H E => ps_xiS PySem.F.store_ValueError (vt 0) (vt 1))) (FunD.bindsA (ps := ["self", "given"]) F_I_BadBound fun _ _ _ _ _ _ us hl => match us, hl with | [_, _], _ => rfl)
  have XI_BadItem : HasXI P w mg base W 1 0 "BadItem" := xiB_ok PySem.DX.newF_ValueError hc_BadItem (He.glo_ok X G (c.fact 15 (f := .glo "BadItem") rfl)) (fnx hN rfl) (c.x 18 (f := xiB "BadItem" "given" (pMeth "BadItem" "__init__") [.type "ValueError", .type "Exception", .type "BaseException", .type "object"] "ValueError.__new__") rfl) (xi_init PySem.F.store_ValueError F_I_BadItem sc_I_BadItem (fun cdv A outer s H E => ps_xiS PySem.F.store_ValueError (vt 0) (vt 1))) (FunD.bindsA (ps := ["self", "given"]) F_I_BadItem fun _ _ _ _ _ _ us hl => match us, hl with | [_, _], _ => rfl)
  have XI_NotFound : HasXI P w mg base W 13 0 "NotFound" := xiB_ok PySem.DX.newF_LookupError hc_NotFound (He.glo_ok X G (c.fact 16 (f := .glo "NotFound") rfl)) (fnx hN rfl) (c.x 19 (f := xiB "NotFound" "given" (pMeth "NotFound" "__init__") [.type "LookupError", .type "Exception", .type "BaseException", .type "object"] "LookupError.__new__") rfl) (xi_init PySem.F.store_LookupError F_I_NotFound sc_I_NotFound (fun cdv A outer s H E => ps_xiS PySem.F.store_LookupError (vt 0) (vt 1))) (FunD.bindsA (ps := ["self", "given"]) F_I_NotFound fun _ _ _ _ _ _ us hl => match us, hl with | [_, _], _ => rfl)
  have XI_NoName : HasXI P w mg base W 12 0 "NoName" := xiB_ok PySem.DX.newF_KeyError hc_NoName (He.glo_ok X G (c.fact 17 (f := .glo "NoName") rfl)) (fnx hN rfl) (c.x 20 (f := xiB "NoName" "given" (pMeth "NoName" "__init__") PySem.DX.bmKey "LookupError.__new__") rfl) (xi_init PySem.DX.keyStore F_I_NoName sc_I_NoName (fun cdv A outer s H E => ps_xiS PySem.DX.keyStore (vt 0) (vt 1))) (FunD.bindsA (ps := ["self", "given"]) F_I_NoName fun _ _ _ _ _ _ us hl => match us, hl with | [_, _], _ => rfl)
  have XK_BadBound : HasXK P w mg base W 2 0 "BadBound" ["given"] := xkB_ok PySem.DX.newF_ValueError hc_BadBound (He.glo_ok X G (c.fact 14 (f := .glo "BadBound") rfl)) (fnx hN rfl) (c.x 17 (f := xiB "BadBound" "given" (pMeth "BadBound" "__init__") [.type "ValueError", .type "Exception", .type "BaseException", .type "object"] "ValueError.__new__") rfl) (xi_init PySem.F.store_ValueError F_I_BadBound sc_I_BadBound (fun cdv A outer s H E => ps_xiS PySem.F.store_ValueError (vt 0) (vt 1))) (kbX (ps := ["self", "given"]) (ks := ["given"]) F_I_BadBound fun _ _ _ _ _ _ us ws h1 h2 => match us, h1, ws, h2 with | [_], _, [_], _ => rfl)
  have XK_BadItem : HasXK P w mg base W 1 0 "BadItem" ["given"] := xkB_ok PySem.DX.newF_ValueError hc_BadItem (He.glo_ok X G (c.fact 15 (f := .glo "BadItem") rfl)) (fnx hN rfl) (c.x 18 (f := xiB "BadItem" "given" (pMeth "BadItem" "__init__") [.type "ValueError", .type "Exception", .type "BaseException", .type "object"] "ValueError.__new__") rfl) (xi_init PySem.F.store_ValueError F_I_BadItem sc_I_BadItem (fun cdv A outer s H E => ps_xiS PySem.F.store_ValueError (vt 0) (vt 1))) (kbX (ps := ["self", "given"]) (ks := ["given"]) F_I_BadItem fun _ _ _ _ _ _ us ws h1 h2 => match us, h1, ws, h2 with | [_], _, [_], _ => rfl)
  have XK_NoKey : HasXK P w mg base W 11 0 "NoKey" ["given"] := xkB_ok PySem.DX.newF_KeyError hc_NoKey (He.glo_ok X G (c.fact 11 (f := .glo "NoKey") rfl)) (fnx hN rfl) (c.x 14 (f := xiB "NoKey" "given" (pMeth "NoKey" "__init__") PySem.DX.bmKey "LookupError.__new__") rfl) (xi_init PySem.DX.keyStore F_I_NoKey sc_I_NoKey (fun cdv A outer s H E => ps_xiS PySem.DX.keyStore (vt 0) (vt 1))) (kbX (ps := ["self", "given"]) (ks := ["given"]) F_I_NoKey fun _ _ _ _ _ _ us ws h1 h2 => match us, h1, ws, h2 with | [_], _, [_], _ => rfl)
  have XK_BadIndex : HasXK P w mg base W 10 0 "BadIndex" ["given"] := xkB_ok PySem.DX.newF_IndexError hc_BadIndex (He.glo_ok X G (c.fact 12 (f := .glo "BadIndex") rfl)) (fnx hN rfl) (c.x 15 (f := xiB "BadIndex" "given" (pMeth "BadIndex" "__init__") [.type "IndexError", .type "LookupError", .type "Exception", .type "BaseException", .type "object"] "IndexError.__new__") rfl) (xi_init PySem.F.store_IndexError F_I_BadIndex sc_I_BadIndex (fun cdv A outer s H E => ps_xiS PySem.F.store_IndexError (vt 0) (vt 1))) (kbX (ps := ["self", "given"]) (ks := ["given"]) F_I_BadIndex fun _ _ _ _ _ _ us ws h1 h2 => match us, h1, ws, h2 with | [_], _, [_], _ => rfl)
  have XK_BadDeed : HasXK P w mg base W 6 0 "BadDeed" ["given"] := xkB_ok PySem.DX.newF_ValueError hc_BadDeed (He.glo_ok X G (c.fact 13 (f := .glo "BadDeed") rfl)) (fnx hN rfl) (c.x 16 (f := xiB "BadDeed" "given" (pMeth "BadDeed" "__init__") [.type "ValueError", .type "Exception", .type "BaseException", .type "object"] "ValueError.__new__") rfl) (xi_init PySem.F.store_ValueError F_I_BadDeed sc_I_BadDeed (fun cdv A outer s H E => ps_xiS PySem.F.store_ValueError (vt 0) (vt 1))) (kbX (ps := ["self", "given"]) (ks := ["given"]) F_I_BadDeed fun _ _ _ _ _ _ us ws h1 h2 => match us, h1, ws, h2 with | [_], _, [_], _ => rfl)
  have XK_NoName : HasXK P w mg base W 12 0 "NoName" ["given"] := xkB_ok PySem.DX.newF_KeyError hc_NoName (He.glo_ok X G (c.fact 17 (f := .glo "NoName") rfl)) (fnx hN rfl) (c.x 20 (f := xiB "NoName" "given" (pMeth "NoName" "__init__") PySem.DX.bmKey "LookupError.__new__") rfl) (xi_init PySem.DX.keyStore F_I_NoName sc_I_NoName (fun cdv A outer s H E => ps_xiS PySem.DX.keyStore (vt 0) (vt 1))) (kbX (ps := ["self", "given"]) (ks := ["given"]) F_I_NoName fun _ _ _ _ _ _ us ws h1 h2 => match us, h1, ws, h2 with | [_], _, [_], _ => rfl)
  have XK_NotFound : HasXK P w mg base W 13 0 "NotFound" ["given"] := xkB_ok PySem.DX.newF_LookupError hc_NotFound (He.glo_ok X G (c.fact 16 (f := .glo "NotFound") rfl)) (fnx hN rfl) (c.x 19 (f := xiB "NotFound" "given" (pMeth "NotFound" "__init__") [.type "LookupError", .type "Exception", .type "BaseException", .type "object"] "LookupError.__new__") rfl) (xi_init PySem.F.store_LookupError F_I_NotFound sc_I_NotFound (fun cdv A outer s H E => ps_xiS PySem.F.store_LookupError (vt 0) (vt 1))) (kbX (ps := ["self", "given"]) (ks := ["given"]) F_I_NotFound fun _ _ _ _ _ _ us ws h1 h2 => match us, h1, ws, h2 with | [_], _, [_], _ => rfl)
  have B__law_source := @ok__law_source P w mg base W _ _ hW hN F__law_source (He.free_ok X G (c.fact 18 (f := .free "len") rfl)) (He.free_ok X G (c.fact 19 (f := .free "abs") rfl)) (He.free_ok X G (c.fact 20 (f := .free "int") rfl))
  have B__law_fields_right := @ok__law_fields_right P w mg base W _ _ hW hN F__law_fields_right (He.free_ok X G (c.fact 21 (f := .free "repr") rfl)) XW XI_NoKey XI_BadIndex XI_BadDeed XI_BadBound XI_BadItem XK_BadBound XK_BadItem XI_NotFound XI_NoName XK_NoKey XK_BadIndex XK_BadDeed XK_NoName XK_NotFound
  have B__law_draw := @ok__law_draw P w mg base W _ _ hW hN F__law_draw 
  have H__law_draw : Has P w mg base W 2 "_law_draw" ["_law_source_here", "_law_many"] 2 f__law_draw [(2, [], [0, 1], [])] := B__law_draw.has (He.glo_ok X G (c.fact 22 (f := .glo "_law_draw") rfl))
  have B__law_odd := @ok__law_odd P w mg base W _ _ hW hN F__law_odd H__law_draw
  have XO_CountError : XOk W xt0 0 := xoB_ok hcl (c.x 21 (f := xoB (cs0 ++ xs0) xt0 0) rfl)
  have B__law_bases := @ok__law_bases P w mg base W _ _ hW hN F__law_bases (He.free_ok X G (c.fact 23 (f := .free "isinstance") rfl)) (He.free_ok X G (c.fact 24 (f := .free "LookupError") rfl)) (He.free_ok X G (c.fact 25 (f := .free "ValueError") rfl)) (by rw [hc_CountError]; exact (He.glo_ok X G (c.fact 26 (f := .glo "CountError") rfl))) (He.free_ok X G (c.fact 27 (f := .free "IndexError") rfl)) (He.free_ok X G (c.fact 28 (f := .free "KeyError") rfl)) (He.free_ok X G (c.fact 29 (f := .free "RuntimeError") rfl)) XW XO_CountError
  have XO_BadPairs : XOk W xt0 3 := xoB_ok hcl (c.x 22 (f := xoB (cs0 ++ xs0) xt0 3) rfl)
  have XO_BadBound : XOk W xt0 2 := xoB_ok hcl (c.x 23 (f := xoB (cs0 ++ xs0) xt0 2) rfl)
  have XO_BadItem : XOk W xt0 1 := xoB_ok hcl (c.x 24 (f := xoB (cs0 ++ xs0) xt0 1) rfl)
  have XO_BadExpression : XOk W xt0 5 := xoB_ok hcl (c.x 25 (f := xoB (cs0 ++ xs0) xt0 5) rfl)
  have XO_BadRow : XOk W xt0 4 := xoB_ok hcl (c.x 26 (f := xoB (cs0 ++ xs0) xt0 4) rfl)
  have XO_Empty : XOk W xt0 8 := xoB_ok hcl (c.x 27 (f := xoB (cs0 ++ xs0) xt0 8) rfl)
  have XO_Unlike : XOk W xt0 7 := xoB_ok hcl (c.x 28 (f := xoB (cs0 ++ xs0) xt0 7) rfl)
  have XO_BadDeed : XOk W xt0 6 := xoB_ok hcl (c.x 29 (f := xoB (cs0 ++ xs0) xt0 6) rfl)
  have XO_NoKey : XOk W xt0 11 := xoB_ok hcl (c.x 30 (f := xoB (cs0 ++ xs0) xt0 11) rfl)
  have XO_BadIndex : XOk W xt0 10 := xoB_ok hcl (c.x 31 (f := xoB (cs0 ++ xs0) xt0 10) rfl)
  have XO_Full : XOk W xt0 9 := xoB_ok hcl (c.x 32 (f := xoB (cs0 ++ xs0) xt0 9) rfl)
  have XO_NoLayer : XOk W xt0 14 := xoB_ok hcl (c.x 33 (f := xoB (cs0 ++ xs0) xt0 14) rfl)
  have XO_NotFound : XOk W xt0 13 := xoB_ok hcl (c.x 34 (f := xoB (cs0 ++ xs0) xt0 13) rfl)
  have XO_NoName : XOk W xt0 12 := xoB_ok hcl (c.x 35 (f := xoB (cs0 ++ xs0) xt0 12) rfl)
  have XO_Changed : XOk W xt0 17 := xoB_ok hcl (c.x 36 (f := xoB (cs0 ++ xs0) xt0 17) rfl)
  have XO_NothingDone : XOk W xt0 16 := xoB_ok hcl (c.x 37 (f := xoB (cs0 ++ xs0) xt0 16) rfl)
  have XO_Done : XOk W xt0 15 := xoB_ok hcl (c.x 38 (f := xoB (cs0 ++ xs0) xt0 15) rfl)
  have B__law_classes := @ok__law_classes P w mg base W _ _ hW hN F__law_classes (He.free_ok X G (c.fact 23 (f := .free "isinstance") rfl)) (by rw [hc_BadPairs]; exact (He.glo_ok X G (c.fact 6 (f := .glo "BadPairs") rfl))) (by rw [hc_BadBound]; exact (He.glo_ok X G (c.fact 14 (f := .glo "BadBound") rfl))) (by rw [hc_BadItem]; exact (He.glo_ok X G (c.fact 15 (f := .glo "BadItem") rfl))) (by rw [hc_BadExpression]; exact (He.glo_ok X G (c.fact 4 (f := .glo "BadExpression") rfl))) (by rw [hc_BadRow]; exact (He.glo_ok X G (c.fact 5 (f := .glo "BadRow") rfl))) (by rw [hc_Empty]; exact (He.glo_ok X G (c.fact 2 (f := .glo "Empty") rfl))) (by rw [hc_Unlike]; exact (He.glo_ok X G (c.fact 3 (f := .glo "Unlike") rfl))) (by rw [hc_BadDeed]; exact (He.glo_ok X G (c.fact 13 (f := .glo "BadDeed") rfl))) (by rw [hc_NoKey]; exact (He.glo_ok X G (c.fact 11 (f := .glo "NoKey") rfl))) (by rw [hc_BadIndex]; exact (He.glo_ok X G (c.fact 12 (f := .glo "BadIndex") rfl))) (by rw [hc_Full]; exact (He.glo_ok X G (c.fact 1 (f := .glo "Full") rfl))) (by rw [hc_NoLayer]; exact (He.glo_ok X G (c.fact 10 (f := .glo "NoLayer") rfl))) (by rw [hc_NotFound]; exact (He.glo_ok X G (c.fact 16 (f := .glo "NotFound") rfl))) (by rw [hc_NoName]; exact (He.glo_ok X G (c.fact 17 (f := .glo "NoName") rfl))) (by rw [hc_Changed]; exact (He.glo_ok X G (c.fact 7 (f := .glo "Changed") rfl))) (by rw [hc_NothingDone]; exact (He.glo_ok X G (c.fact 8 (f := .glo "NothingDone") rfl))) (by rw [hc_Done]; exact (He.glo_ok X G (c.fact 9 (f := .glo "Done") rfl))) XW XO_BadPairs XO_BadBound XO_BadItem XO_BadExpression XO_BadRow XO_Empty XO_Unlike XO_BadDeed XO_NoKey XO_BadIndex XO_Full XO_NoLayer XO_NotFound XO_NoName XO_Changed XO_NothingDone XO_Done
  have H__law_bases : Has P w mg base W 2 "_law_bases" ["_law_error"] 1 f__law_bases [(1, [], [0], [])] := B__law_bases.has (He.glo_ok X G (c.fact 32 (f := .glo "_law_bases") rfl))
  have H__law_classes : Has P w mg base W 2 "_law_classes" ["_law_error"] 1 f__law_classes [(1, [], [0], [])] := B__law_classes.has (He.glo_ok X G (c.fact 33 (f := .glo "_law_classes") rfl))
  have B__law_bases_right := @ok__law_bases_right P w mg base W _ _ hW hN F__law_bases_right (He.free_ok X G (c.fact 30 (f := .free "enumerate") rfl)) (He.free_ok X G (c.fact 31 (f := .free "range") rfl)) X0_Full X0_Empty X0_Unlike XI_BadDeed X0_BadExpression X0_BadRow X0_BadPairs XI_BadBound XI_BadItem X0_Changed X0_NothingDone X0_Done X0_NoLayer XI_NotFound XI_NoName XI_NoKey XI_BadIndex H__law_bases H__law_classes
  have H__law_source : Has P w mg base W 2 "_law_source" ["_law_script", "_law_at"] 2 f__law_source [(2, [], [0, 1], [])] := B__law_source.has (He.glo_ok X G (c.fact 36 (f := .glo "_law_source") rfl))
  have H__law_fields_right : HasG P w mg base W 3 "_law_fields_right" ["_law_a"] 1 f__law_fields_right [(1, [], [0], [])] := B__law_fields_right.has (He.glo_ok X G (c.fact 37 (f := .glo "_law_fields_right") rfl))
  have H__law_odd : Has P w mg base W 4 "_law_odd" ["_law_source_here"] 1 f__law_odd [(1, [], [0], [])] := B__law_odd.has (He.glo_ok X G (c.fact 38 (f := .glo "_law_odd") rfl))
  have H__law_bases_right : Has P w mg base W 4 "_law_bases_right" ["_law_a"] 1 f__law_bases_right [(1, [], [0], [])] := B__law_bases_right.has (He.glo_ok X G (c.fact 39 (f := .glo "_law_bases_right") rfl))
  have B_law := @ok_law P w mg base W _ _ hW hN F_law (He.free_ok X G (c.fact 31 (f := .free "range") rfl)) (He.free_ok X G (c.fact 34 (f := .free "max") rfl)) (He.free_ok X G (c.fact 35 (f := .free "min") rfl)) (He.free_ok X G (c.fact 18 (f := .free "len") rfl)) H__law_source H__law_fields_right H__law_odd H__law_bases_right
  exact law_spG hT B_law law_true
end Q
open PySem PySem.W PySem.Calls PyProof.Rows
theorem PySem.Challenge.cw_dequecounts_k01_errors_and_their_fields_holds : PySem.Challenge.rw_dequecounts_k01_errors_and_their_fields.Holds := by
  w_on; o_law
  refine HandSHeadRun.head_any (r := OpenLaw.row PySem.Challenge.rw_dequecounts_k01_errors_and_their_fields) (q := view (OpenLaw.row PySem.Challenge.rw_dequecounts_k01_errors_and_their_fields).prog [27]) (H := Q.hk) (ob := Q.ob) (M := 80000) (loose := Q.nms) (d := HandSHeadRun.topDef (OpenLaw.row PySem.Challenge.rw_dequecounts_k01_errors_and_their_fields).prog 27) (kwd := []) Q.ob_eq
    (by kernel_rfl) (fun s => by kernel_rfl) Q.run (by kernel_rfl) (by kernel_rfl) (by kernel_rfl) (by rfl) (by first | assumption | decide +kernel) (by decide +kernel) ⟨rfl, rfl, rfl, rfl, rfl, by decide +kernel⟩ ?hw ?hc
  case hw => w_witness2
  case hc =>
    refine Dn.walk_ofG (l := PySem.Challenge.rw_dequecounts_k01_errors_and_their_fields) (n := 63) (k := 6) (x := "_law_script") rfl (by decide) (by kernel_rfl) ⟨rfl, by decide, by decide⟩ ?F
    intro w mg fa h Y G hmg0
    obtain ⟨K, KX, c⟩ := Y
    have hmg : mg ("law" : PySem.Str) = some (.ref fa) := by
      have e : (HandSHeadRun.topDef (OpenLaw.row PySem.Challenge.rw_dequecounts_k01_errors_and_their_fields).prog 27).name = ("law" : PySem.Str) := by kernel_rfl
      rw [← e]
      exact hmg0
    obtain ⟨fd, hb, hF⟩ := Q.facts (P := (PySem.Challenge.rw_dequecounts_k01_errors_and_their_fields).prog) (w := w) KX G hmg c
    skip
    exact ⟨K, fd, Dn.spL K, KX, hb, fun H a ns hl hO hS => ⟨a, ns, rfl, hl, hO, hS, fun _ => rfl⟩, hF⟩
