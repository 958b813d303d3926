import PyProof.Rows.All
import Wide.All
import OpenK.AllK
import Wide.FinOn
import HandS.Base
import HandS.Call
import HandS.List
import HandS.Comp
import HandS.Ends
import HandS.Dict
import HandS.Iter
import HandS.Text
import HandS.Words
import HandS.WordsList
import HandS.Exc
import HandS.TryOnly
import HandS.ExcOwn
import HandS.WordsExc
import HandS.Lambda
import HandS.TupAny
import HandS.TupMul
import HandS.Wide
import HandS.Deep
import HandS.IsInst
import HandS.More
import HandS.Style
import HandS.Conv
import HandS.WordsDict
import HandS.Defaults
import HandS.MakeKw
import HandS.MakeKwOnly
import KE.KStar
import HandS.SortInts
import HandS.SetFor
import KE.GoesEnum
import PyProof.CollectIter
import HandS.Zip
import KE.KUnpackStar
import HandS.HeadEnd
import HandS.HeadHook1
import HandS.HeadHook2
import HandS.Small
import OpenK.KMeth
import KE.KOpsOwn
import HandS.Property
import PyProof.FactsAll.object_1
import HandS.FStr
import HandS.RaiseMore
import KE.KExcInit
import HandS.ExcInit
import HandS.ExcField
import HandS.ExcIs
import KE.KExcIs
import KE.KIsAll
import PyProof.ExcBaseAll.LookupError
import PyProof.ExcBaseAll.IndexError
import PyProof.ExcBaseAll.RuntimeError
import PyProof.ExcBaseAll.ValueError
import HandS.DictComp
import HandS.SetKeys
import HandS.Finally
import HandS.ListItems
import PyProof.AssignAttr
import HandS.ListEq
import HandS.DeepEq
import PyProof.Seq
import OpenK.KCls
import KE.DataCmp
import HandS.Flow
import KE.DataFind
import HandS.EndTab
import PyProof.ReprRoads
import KE.KDictSum
import Lean
import HandS.Head0
import HandS.Head1
import HandS.Head2
import PySem.Challenge.RW_dequecounts_k52_tables_refuse
set_option Elab.async false
set_option linter.all false
set_option maxRecDepth 100000
set_option maxHeartbeats 4000000
namespace Dn
open PySem PySem.Spec PyProof.Rows L2

/-- a plain value: a tuple is its items; rol: a list that nobody writes; ref: the n-th object of the plain heap; adr: a class or a def of the text -/
inductive AV where
  | non
  | bl (b : Bool)
  | int (i : Int)
  | str (x : Str)
  | tup (xs : List AV)
  | rol (xs : List AV)
  | ref (n : Nat)
  | adr (a : Addr)
  | ty (n : String)
  | cls (t : Nat)
  | exn (t : Nat) (fs : List (Nat × AV))

/-- a plain object -/
inductive AO where
  | lst (xs : List AV)
  | dK (kvs : List (Key × AV))
  | dT (kvs : List (List Key × AV))
  | ins (t : Nat) (fs : List (Nat × AV))
  | frz (o : AO)

abbrev Hep := List AO
abbrev Sl := List (Option AV)

/-- the classes of a text: which numbers are classes whose instances are made, which of them lie under which -/
structure CT where
  kit : Nat → Bool
  sub : Nat → Nat → Bool
abbrev tyNames : List String := ["NoneType", "bool", "int", "str", "list", "tuple", "dict"]
/-- what is asked of a class of the text: no own __ne__, __gt__, __ge__, no base but object among the built-in ones -/
def eqOO (a b : Option (Option Value)) : Bool := decide (a = b)
def clsB (K : PySem.W.Frag) (C : Addr) : Bool := PySem.W.noSeq K C && (PySem.W.selfFirst K C && ((tyNames.all fun n => decide (PySem.W.subIn K (.type n) (.ref C) = some false)) &&
  (eqOO (PySem.W.findIn K (.ref C) "__ne__") (some (some (.builtin "object.__ne__"))) && (eqOO (PySem.W.findIn K (.ref C) "__gt__") (some (some (.builtin "object.__gt__"))) &&
    eqOO (PySem.W.findIn K (.ref C) "__ge__") (some (some (.builtin "object.__ge__")))))))
/-- the written part, the classes by number, the attributes' names by number -/
structure Wd where
  K : PySem.W.Frag
  cl : Nat → Addr
  fn : List Str
  fnd : fn.Nodup
  ct : CT
  cg : ∀ t, ct.kit t = true → Cls K (cl t) ∧ PySem.W.findIn K (.ref (cl t)) "__class__" = some (some (.builtin "object.__class__")) ∧ PySem.W.mroIn K (cl t) (.type "object") = some true
  cd : PySem.W.specialIn K (.builtin "object.__class__") "__get__" = some (some (.builtin "getset_descriptor.__get__"))
  ck : PySem.W.takesIn K (.builtin "object.__class__") = some true
  ctf : ∀ n t, n ∈ tyNames → ct.kit t = true → PySem.W.kitOne K (.type n) (.ref (cl t)) = some false
  cty : ∀ n t, n ∈ tyNames → ct.kit t = true → PySem.W.kitOne K (.ref (cl t)) (.type n) = some false
  csf : ∀ s t, ct.kit s = true → ct.kit t = true → PySem.W.kitOne K (.ref (cl s)) (.ref (cl t)) = some (ct.sub s t)
  cks : ∀ t, ct.kit t = true → L2.Cls K (cl t)
  cb : ∀ t, ct.kit t = true → clsB K (cl t) = true
  css : ∀ s t, ct.kit s = true → ct.kit t = true → PySem.W.subIn K (.ref (cl s)) (.ref (cl t)) = some (ct.sub s t)
  noat : ∀ t s, ct.kit t = true → s ∈ fn → NoAttr K (cl t) s
  /-- the tables of code objects -/
  T : List (Addr × Str) := []

def RoL (K : PySem.W.Frag) (H : Hp) (a : Addr) (xs : List V) : Prop := (∃ o, H a = some (.frz o (.lst xs))) ∨ SqL K (fun _ => none) a xs

mutual
inductive RV (W : Wd) (io : List Addr) (H : Hp) : AV → V → Prop
  | non : RV W io H .non .non
  | bl (b : Bool) : RV W io H (.bl b) (.bl b)
  | int (i : Int) : RV W io H (.int i) (.int i)
  | str (x : Str) : RV W io H (.str x) (.str x)
  | tup {a : Addr} {vs : List V} {xs : List AV} : SqT W.K H a vs → RVs W io H xs vs → RV W io H (.tup xs) (.ref a)
  | rol {a : Addr} {vs : List V} {xs : List AV} : RoL W.K H a vs → RVs W io H xs vs → RV W io H (.rol xs) (.ref a)
  | ref {n : Nat} {a : Addr} : io[n]? = some a → RV W io H (.ref n) (.ref a)
  | adr (a : Addr) : RV W io H (.adr a) (.ref a)
  | ty (n : String) : RV W io H (.ty n) (.ty n)
  | cls (t : Nat) : RV W io H (.cls t) (.ref (W.cl t))
inductive RVs (W : Wd) (io : List Addr) (H : Hp) : List AV → List V → Prop
  | nil : RVs W io H [] []
  | cons {x : AV} {v : V} {xs : List AV} {vs : List V} : RV W io H x v → RVs W io H xs vs → RVs W io H (x :: xs) (v :: vs)
end
/-- pairs with equal keys -/
inductive RKs {k : Type} (W : Wd) (io : List Addr) (H : Hp) : List (k × AV) → List (k × V) → Prop
  | nil : RKs W io H [] []
  | cons {q : k} {x : AV} {v : V} {xs : List (k × AV)} {vs : List (k × V)} : RV W io H x v → RKs W io H xs vs → RKs W io H ((q, x) :: xs) ((q, v) :: vs)
/-- attributes: by number, by name -/
inductive RFs (W : Wd) (io : List Addr) (H : Hp) : List (Nat × AV) → List (Str × V) → Prop
  | nil : RFs W io H [] []
  | cons {q : Nat} {s : Str} {x : AV} {v : V} {xs : List (Nat × AV)} {vs : List (Str × V)} : W.fn[q]? = some s → RV W io H x v → RFs W io H xs vs → RFs W io H ((q, x) :: xs) ((s, v) :: vs)

/-- what stands at a place: as HO -/
inductive RO (W : Wd) (io : List Addr) (H : Hp) : AO → HO → Prop
  | lst {xs : List AV} {vs : List V} : RVs W io H xs vs → RO W io H (.lst xs) (.lst vs)
  | dK {xs : List (Key × AV)} {vs : List (Key × V)} : RKs W io H xs vs → RO W io H (.dK xs) (.dK vs)
  | dT {xs : List (List Key × AV)} {vs : List (List Key × V)} : RKs W io H xs vs → RO W io H (.dT xs) (.dT vs)
  | ins {t : Nat} {dx : Addr} {fs : List (Nat × AV)} {vs : List (Str × V)} : W.ct.kit t = true → RFs W io H fs vs → RO W io H (.ins t fs) (.ins (W.cl t) dx vs)
  | frz {o : AO} {u : HO} {b : Obj} : RO W io H o u → RO W io H (.frz o) (.frz b u)

structure Rl (W : Wd) (io : List Addr) (hp : Hep) (H : Hp) : Prop where
  len : io.length = hp.length
  nd : io.Nodup
  ob : ∀ (i : Nat) (a : Addr) (o : AO), io[i]? = some a → hp[i]? = some o → ∃ u, H a = some u ∧ RO W io H o u
  tb : LamX.Tabs W.T H

/-- how the heap goes on -/
structure Ext (W : Wd) (io : List Addr) (H : Hp) (io' : List Addr) (H' : Hp) : Prop where
  pre : ∃ l, io' = io ++ l
  tup : ∀ a xs, SqT W.K H a xs → SqT W.K H' a xs
  rol : ∀ a xs, RoL W.K H a xs → RoL W.K H' a xs
  xd : ∀ a fs, H a = some (.xd fs) → H' a = some (.xd fs)
  frz : ∀ a o u, H a = some (.frz o u) → H' a = some (.frz o u)
  cod : ∀ a u, H a = some (.ext u) → H' a = some (.ext u)
  tab : LamX.Tabs W.T H → LamX.Tabs W.T H'

section
variable {W : Wd} {io io' io'' : List Addr} {H H' H'' : Hp}
theorem Ext.refl : Ext W io H io H := ⟨⟨[], by simp⟩, fun _ _ h => h, fun _ _ h => h, fun _ _ h => h, fun _ _ _ h => h, fun _ _ h => h, fun h => h⟩
theorem Ext.trans (e : Ext W io H io' H') (f : Ext W io' H' io'' H'') : Ext W io H io'' H'' := by
  obtain ⟨l, rfl⟩ := e.pre
  obtain ⟨m, rfl⟩ := f.pre
  exact ⟨⟨l ++ m, by simp⟩, fun a xs h => f.tup a xs (e.tup a xs h), fun a xs h => f.rol a xs (e.rol a xs h), fun a xs h => f.xd a xs (e.xd a xs h), fun a o u h => f.frz a o u (e.frz a o u h), fun a u h => f.cod a u (e.cod a u h), fun h => f.tab (e.tab h)⟩
theorem Ext.at (e : Ext W io H io' H') {n : Nat} {a : Addr} (h : io[n]? = some a) : io'[n]? = some a := by
  obtain ⟨l, rfl⟩ := e.pre
  obtain ⟨hl, _⟩ := List.getElem?_eq_some_iff.mp h
  rw [List.getElem?_append_left hl]
  exact h
mutual
theorem RV.mono (e : Ext W io H io' H') : ∀ {x : AV} {v : V}, RV W io H x v → RV W io' H' x v
  | _, _, .non => .non
  | _, _, .bl b => .bl b
  | _, _, .int i => .int i
  | _, _, .str x => .str x
  | _, _, .tup h r => .tup (e.tup _ _ h) (RVs.mono e r)
  | _, _, .rol h r => .rol (e.rol _ _ h) (RVs.mono e r)
  | _, _, .ref h => .ref (e.at h)
  | _, _, .adr a => .adr a
  | _, _, .ty n => .ty n
  | _, _, .cls t => .cls t
theorem RVs.mono (e : Ext W io H io' H') : ∀ {xs : List AV} {vs : List V}, RVs W io H xs vs → RVs W io' H' xs vs
  | _, _, .nil => .nil
  | _, _, .cons r q => .cons (RV.mono e r) (RVs.mono e q)
end
theorem RKs.mono {k : Type} (e : Ext W io H io' H') : ∀ {xs : List (k × AV)} {vs : List (k × V)}, RKs W io H xs vs → RKs W io' H' xs vs
  | _, _, .nil => .nil
  | _, _, .cons r q => .cons (RV.mono e r) (RKs.mono e q)
theorem RFs.mono (e : Ext W io H io' H') : ∀ {xs : List (Nat × AV)} {vs : List (Str × V)}, RFs W io H xs vs → RFs W io' H' xs vs
  | _, _, .nil => .nil
  | _, _, .cons f r q => .cons f (RV.mono e r) (RFs.mono e q)
theorem RO.mono (e : Ext W io H io' H') {o : AO} {u : HO} (h : RO W io H o u) : RO W io' H' o u := by
  induction h with
  | lst r => exact .lst (r.mono e)
  | dK r => exact .dK (r.mono e)
  | dT r => exact .dT (r.mono e)
  | ins k r => exact .ins k (r.mono e)
  | frz _ ih => exact .frz ih

theorem RVs.len : ∀ {xs : List AV} {vs : List V}, RVs W io H xs vs → xs.length = vs.length
  | _, _, .nil => rfl
  | _, _, .cons _ q => by simp [RVs.len q]
theorem RVs.get : ∀ {xs : List AV} {vs : List V} {i : Nat} {x : AV}, RVs W io H xs vs → xs[i]? = some x → ∃ v, vs[i]? = some v ∧ RV W io H x v
  | _, _, _, _, .nil, h => by simp at h
  | _, _, 0, _, .cons r _, h => by simp at h; subst h; exact ⟨_, rfl, r⟩
  | _, _, i + 1, x, .cons _ q, h => by
    obtain ⟨v, a, b⟩ := RVs.get (i := i) (x := x) q (by simpa using h)
    exact ⟨v, by simpa using a, b⟩
theorem RVs.app : ∀ {xs ys : List AV} {vs ws : List V}, RVs W io H xs vs → RVs W io H ys ws → RVs W io H (xs ++ ys) (vs ++ ws)
  | _, _, _, _, .nil, q => q
  | _, _, _, _, .cons r t, q => .cons r (RVs.app t q)
theorem RVs.take : ∀ {xs : List AV} {vs : List V} (n : Nat), RVs W io H xs vs → RVs W io H (xs.take n) (vs.take n)
  | _, _, 0, _ => .nil
  | _, _, n + 1, .nil => .nil
  | _, _, n + 1, .cons r t => .cons r (RVs.take n t)
theorem RVs.drop : ∀ {xs : List AV} {vs : List V} (n : Nat), RVs W io H xs vs → RVs W io H (xs.drop n) (vs.drop n)
  | _, _, 0, q => q
  | _, _, n + 1, .nil => .nil
  | _, _, n + 1, .cons r t => RVs.drop n t
theorem RVs.set : ∀ {xs : List AV} {vs : List V} (n : Nat) {x : AV} {v : V}, RV W io H x v → RVs W io H xs vs → RVs W io H (xs.set n x) (vs.set n v)
  | _, _, _, _, _, _, .nil => .nil
  | _, _, 0, _, _, r, .cons _ t => .cons r t
  | _, _, n + 1, _, _, r, .cons q t => .cons q (RVs.set n r t)
theorem RVs.dropLast : ∀ {xs : List AV} {vs : List V}, RVs W io H xs vs → RVs W io H xs.dropLast vs.dropLast := fun {xs vs} h => by
  rw [List.dropLast_eq_take, List.dropLast_eq_take, h.len]
  exact h.take _
theorem Rl.at (R : Rl W io hp H) {n : Nat} {a : Addr} {o : AO} (hi : io[n]? = some a) (ho : hp[n]? = some o) : ∃ u, H a = some u ∧ RO W io H o u := R.ob n a o hi ho
theorem Rl.lst (R : Rl W io hp H) {n : Nat} {a : Addr} {xs : List AV} (hi : io[n]? = some a) (ho : hp[n]? = some (.lst xs)) : ∃ vs, H a = some (.lst vs) ∧ RVs W io H xs vs := by
  obtain ⟨u, e, r⟩ := R.at hi ho
  cases r with
  | lst q => exact ⟨_, e, q⟩
theorem Rl.dK (R : Rl W io hp H) {n : Nat} {a : Addr} {xs : List (Key × AV)} (hi : io[n]? = some a) (ho : hp[n]? = some (.dK xs)) : ∃ vs, H a = some (.dK vs) ∧ RKs W io H xs vs := by
  obtain ⟨u, e, r⟩ := R.at hi ho
  cases r with
  | dK q => exact ⟨_, e, q⟩
theorem Rl.dT (R : Rl W io hp H) {n : Nat} {a : Addr} {xs : List (List Key × AV)} (hi : io[n]? = some a) (ho : hp[n]? = some (.dT xs)) : ∃ vs, H a = some (.dT vs) ∧ RKs W io H xs vs := by
  obtain ⟨u, e, r⟩ := R.at hi ho
  cases r with
  | dT q => exact ⟨_, e, q⟩
theorem Rl.ins (R : Rl W io hp H) {n t : Nat} {a : Addr} {xs : List (Nat × AV)} (hi : io[n]? = some a) (ho : hp[n]? = some (.ins t xs)) : ∃ dx vs, H a = some (.ins (W.cl t) dx vs) ∧ RFs W io H xs vs ∧ W.ct.kit t = true := by
  obtain ⟨u, e, r⟩ := R.at hi ho
  cases r with
  | ins k q => exact ⟨_, _, e, q, k⟩
theorem Rl.has (R : Rl W io hp H) {n : Nat} {a : Addr} (hi : io[n]? = some a) : ∃ o u, hp[n]? = some o ∧ H a = some u ∧ RO W io H o u := by
  obtain ⟨hl, _⟩ := List.getElem?_eq_some_iff.mp hi
  have h2 : hp[n]? = some (hp[n]'(by rw [← R.len]; exact hl)) := List.getElem?_eq_getElem _
  obtain ⟨u, e, r⟩ := R.at hi h2
  exact ⟨_, u, h2, e, r⟩
/-- the objects that may be written -/
def Wr : HO → Prop
  | .lst _ => True
  | .dK _ => True
  | .dT _ => True
  | .ins _ _ _ => True
  | _ => False
theorem sqT_set {K : PySem.W.Frag} {p : Addr} {u ho : HO} (hp : H p = some u) (w : Wr u) {a : Addr} {xs : List V} (h : SqT K H a xs) : SqT K (upd H p ho) a xs := by
  rcases h with (h | ⟨o, h⟩) | h
  · exact .inl (.inl (by rw [upd_ne (ne_of h hp (by rintro rfl; exact w))]; exact h))
  · exact .inl (.inr ⟨o, by rw [upd_ne (ne_of h hp (by rintro rfl; exact w))]; exact h⟩)
  · exact .inr h
theorem roL_set {K : PySem.W.Frag} {p : Addr} {u ho : HO} (hp : H p = some u) (w : Wr u) {a : Addr} {xs : List V} (h : RoL K H a xs) : RoL K (upd H p ho) a xs := by
  rcases h with ⟨o, h⟩ | h
  · exact .inl ⟨o, by rw [upd_ne (ne_of h hp (by rintro rfl; exact w))]; exact h⟩
  · exact .inr h
theorem tab_set {p : Addr} {u ho : HO} (hp : H p = some u) (w : Wr u) {P : Addr} {q : Str} (t : LamX.TabS H P q) : LamX.TabS (upd H p ho) P q := by
  obtain ⟨ps, h1, h2, h3⟩ := t
  refine ⟨ps, by rw [upd_ne (ne_of h1 hp (by rintro rfl; exact w))]; exact h1, h2, fun pos cv hc => ?_⟩
  obtain ⟨c, e1, e2⟩ := h3 pos cv hc
  exact ⟨c, e1, by rw [upd_ne (ne_of e2 hp (by rintro rfl; exact w))]; exact e2⟩
theorem Ext.set {p : Addr} {u : HO} (ho : HO) (hp : H p = some u) (w : Wr u) : Ext W io H io (upd H p ho) :=
  ⟨⟨[], by simp⟩, fun _ _ h => sqT_set hp w h, fun _ _ h => roL_set hp w h, fun a fs h => by rw [upd_ne (ne_of h hp (by rintro rfl; exact w))]; exact h, fun a o v h => by rw [upd_ne (ne_of h hp (by rintro rfl; exact w))]; exact h, fun a v h => by rw [upd_ne (ne_of h hp (by rintro rfl; exact w))]; exact h, fun h p' hp' => tab_set hp w (h p' hp')⟩
theorem Rl.set (R : Rl W io hp H) {n : Nat} {p : Addr} {u ho : HO} {o : AO} (hi : io[n]? = some p) (hu : H p = some u) (w : Wr u) (r : RO W io (upd H p ho) o ho) : Rl W io (hp.set n o) (upd H p ho) := by
  refine ⟨by simp [R.len], R.nd, fun i a q hi' h => ?_, (Ext.set (W := W) (io := io) ho hu w).tab R.tb⟩
  by_cases e : i = n
  · subst e
    rw [hi] at hi'
    cases hi'
    obtain ⟨hl, _⟩ := List.getElem?_eq_some_iff.mp h
    rw [List.length_set] at hl
    rw [List.getElem?_set_self hl] at h
    cases h
    exact ⟨ho, upd_same, r⟩
  · rw [List.getElem?_set_ne (Ne.symm e)] at h
    obtain ⟨v, ev, rv⟩ := R.at hi' h
    have ne : a ≠ p := fun z => by
      subst z
      obtain ⟨l1, e1⟩ := List.getElem?_eq_some_iff.mp hi
      obtain ⟨l2, e2⟩ := List.getElem?_eq_some_iff.mp hi'
      exact e ((List.getElem_inj R.nd).mp (e2.trans e1.symm))
    exact ⟨v, by rw [upd_ne ne]; exact ev, rv.mono (Ext.set ho hu w)⟩
end
end Dn
namespace Dn
open PySem PySem.Spec PyProof.Rows L2

/-- what an expression comes to -/
inductive R (T : Type) where
  | ok (a : T) (h : Hep)
  | exc (t : Nat) (fs : List (Nat × AV)) (h : Hep)
  | stuck
def R.bind {T U : Type} (r : R T) (k : T → Hep → R U) : R U := match r with
  | .ok a h => k a h
  | .exc t fs h => .exc t fs h
  | .stuck => .stuck
abbrev Op (T : Type) := Option (T × Hep)
def R.of {T : Type} : Op T → R T
  | some (a, h) => .ok a h
  | none => .stuck
abbrev DE := Sl → Hep → R AV
/-- what a statement comes to -/
inductive SR where
  | nx (s : Sl) (h : Hep)
  | rt (v : AV) (h : Hep)
  | bk (s : Sl) (h : Hep)
  | ct (s : Sl) (h : Hep)
  | exc (t : Nat) (fs : List (Nat × AV)) (s : Sl) (h : Hep)
  | stuck
abbrev DS := Sl → Hep → SR
def SR.then (r : SR) (k : Sl → Hep → SR) : SR := match r with
  | .nx s h => k s h
  | r => r

/-- an exception: its class, its fields -/
def RXf (W : Wd) (io : List Addr) (H : Hp) (fs : List (Nat × AV)) (d : Option Addr) : Prop := (fs = [] ∧ d = none) ∨ ∃ dd vs, d = some dd ∧ H dd = some (.xd vs) ∧ RFs W io H fs vs
theorem RXf.mono {W : Wd} {io io' : List Addr} {H H' : Hp} {fs : List (Nat × AV)} {d : Option Addr} (h : RXf W io H fs d) (e : Ext W io H io' H') : RXf W io' H' fs d := h.imp id fun ⟨dd, vs, e1, e2, e3⟩ => ⟨dd, vs, e1, e.xd _ _ e2, e3.mono e⟩
def RX (W : Wd) (io : List Addr) (H : Hp) (t : Nat) (fs : List (Nat × AV)) (cls : Value) (d : Option Addr) : Prop :=
  cls = .ref (W.cl t) ∧ RXf W io H fs d

/-- how the slots are held -/
structure Md (W : Wd) where
  rel : List Addr → Hp → Sl → L2.St → Prop
  mono : ∀ {io io' H H' as σ}, Ext W io H io' H' → rel io H as σ → rel io' H' as σ
  var : ∀ {io H as σ} {i : Nat} {v : AV}, rel io H as σ → as[i]? = some (some v) → (∀ t fs, v ≠ .exn t fs) → ∃ x, σ[i]? = some (some x) ∧ RV W io H v x
  ok : Nat → Prop
  set : ∀ {io H as σ} {i : Nat} {v : AV} {x : V}, rel io H as σ → RV W io H v x → ok i → rel io H (as.set i (some v)) (σ.set i (some x))
  wipe : ∀ {io H as σ} {i : Nat}, rel io H as σ → ok i → rel io H (as.set i none) (σ.set i none)

/-- the slots of a def -/
def std (W : Wd) : Md W where
  rel := fun io H as σ => as.length = σ.length ∧ ∀ (i : Nat) (v : AV), as[i]? = some (some v) → ∃ x, σ[i]? = some (some x) ∧ RV W io H v x
  mono := fun e h => ⟨h.1, fun i v a => by
    obtain ⟨x, b, r⟩ := h.2 i v a
    exact ⟨x, b, r.mono e⟩⟩
  var := fun h a _ => h.2 _ _ a
  ok := fun _ => True
  set := fun {io H as σ i v x} h r _ => ⟨by simp [h.1], fun j w a => by
    by_cases e : j = i
    · subst e
      obtain ⟨hl, _⟩ := List.getElem?_eq_some_iff.mp a
      rw [List.length_set] at hl
      rw [List.getElem?_set_self hl] at a
      cases a
      exact ⟨x, List.getElem?_set_self (by rw [← h.1]; exact hl), r⟩
    · rw [List.getElem?_set_ne (Ne.symm e)] at a ⊢
      exact h.2 j w a⟩
  wipe := fun {io H as σ i} h _ => ⟨by simp [h.1], fun j w a => by
    by_cases e : j = i
    · subst e
      obtain ⟨hl, _⟩ := List.getElem?_eq_some_iff.mp a
      rw [List.length_set] at hl
      rw [List.getElem?_set_self hl] at a
      cases a
    · rw [List.getElem?_set_ne (Ne.symm e)] at a ⊢
      exact h.2 j w a⟩

section
variable {W : Wd} {M : Md W} {T T' U U' : Type}
abbrev Rel (T U : Type) := List Addr → Hp → T → U → Prop
def Pop (W : Wd) (rh : Rel T U) (Q : U → Hp → Prop) (io : List Addr) (H : Hp) : Op T → Prop
  | some (v, hp) => ∀ io' H' x, Ext W io H io' H' → Rl W io' hp H' → rh io' H' v x → Q x H'
  | none => False
def Pst (W : Wd) (rh : Rel T U) (E : WX) (σ : L2.St) (Q : U → Hp → Prop) (io : List Addr) (H : Hp) : R T → Prop
  | .ok v hp => ∀ io' H' x, Ext W io H io' H' → Rl W io' hp H' → rh io' H' v x → Q x H'
  | .exc t fs hp => ∀ io' H' cls d, Ext W io H io' H' → Rl W io' hp H' → RX W io' H' t fs cls d → E cls d σ H'
  | .stuck => False
def Pss (W : Wd) (M : Md W) (E : WX) (D : Ends) (io : List Addr) (H : Hp) : SR → Prop
  | .nx s hp => ∀ io' H' σ', Ext W io H io' H' → Rl W io' hp H' → M.rel io' H' s σ' → D.nx σ' H'
  | .rt v hp => ∀ io' H' x, Ext W io H io' H' → Rl W io' hp H' → RV W io' H' v x → D.rt x H'
  | .bk s hp => ∀ io' H' σ', Ext W io H io' H' → Rl W io' hp H' → M.rel io' H' s σ' → D.bk σ' H'
  | .ct s hp => ∀ io' H' σ', Ext W io H io' H' → Rl W io' hp H' → M.rel io' H' s σ' → D.ct σ' H'
  | .exc t fs s hp => ∀ io' H' σ' cls d, Ext W io H io' H' → Rl W io' hp H' → M.rel io' H' s σ' → RX W io' H' t fs cls d → E cls d σ' H'
  | .stuck => False
def tG (W : Wd) (M : Md W) (rh : Rel T U) (E : WX) (f : Sl → Hep → R T) : L2.St → Hp → (U → Hp → Prop) → Prop :=
  fun σ H Q => ∃ io hp as, Rl W io hp H ∧ M.rel io H as σ ∧ Pst W rh E σ Q io H (f as hp)
def tS (W : Wd) (M : Md W) (E : WX) (f : DS) : TS :=
  fun D σ H => ∃ io hp as, Rl W io hp H ∧ M.rel io H as σ ∧ Pss W M E D io H (f as hp)
abbrev tD (W : Wd) (M : Md W) (E : WX) (f : DE) : TE := tG W M (RV W) E f
section
variable {rh : Rel T U} {rh' : Rel T' U'} {E : WX} {D : Ends} {σ : L2.St} {H H1 : Hp} {io io1 : List Addr} {hp : Hep} {as : Sl}
theorem Pop.later {Q : U → Hp → Prop} {r : Op T} (h : Pop W rh Q io H r) (e : Ext W io H io1 H1) : Pop W rh Q io1 H1 r := by
  match r, h with
  | some (v, hp), h => exact fun io' H' x e' => h io' H' x (e.trans e')
theorem Pst.later {Q : U → Hp → Prop} {r : R T} (h : Pst W rh E σ Q io H r) (e : Ext W io H io1 H1) : Pst W rh E σ Q io1 H1 r := by
  cases r with
  | ok v hp => exact fun io' H' x e' => h io' H' x (e.trans e')
  | exc t fs hp => exact fun io' H' c d e' => h io' H' c d (e.trans e')
  | stuck => exact h
theorem Pss.later {r : SR} (h : Pss W M E D io H r) (e : Ext W io H io1 H1) : Pss W M E D io1 H1 r := by
  cases r with
  | nx s hp => exact fun io' H' x e' => h io' H' x (e.trans e')
  | rt s hp => exact fun io' H' x e' => h io' H' x (e.trans e')
  | bk s hp => exact fun io' H' x e' => h io' H' x (e.trans e')
  | ct s hp => exact fun io' H' x e' => h io' H' x (e.trans e')
  | exc t fs s hp => exact fun io' H' x c d e' => h io' H' x c d (e.trans e')
  | stuck => exact h
theorem Pst.of {Q : U → Hp → Prop} {r : Op T} (h : Pst W rh E σ Q io H (R.of r)) : Pop W rh Q io H r := by
  match r, h with
  | some (v, hp), h => exact h
  | none, h => exact h
theorem tG.imp {f : Sl → Hep → R T} {Q Q' : U → Hp → Prop} (h : tG W M rh E f σ H Q) (k : ∀ x H1, Q x H1 → Q' x H1) : tG W M rh E f σ H Q' := by
  obtain ⟨io, hp, as, rl, S, P⟩ := h
  refine ⟨io, hp, as, rl, S, ?_⟩
  cases z : f as hp with
  | ok a hp1 =>
    rw [z] at P
    exact fun io' H' x e r q => k _ _ (P io' H' x e r q)
  | exc t fs hp1 =>
    rw [z] at P
    exact P
  | stuck =>
    rw [z] at P
    exact P
theorem Pst.ok {Q : U → Hp → Prop} {v : T} {x : U} (P : Pst W rh E σ Q io H (.ok v hp)) (rl : Rl W io hp H) (r : rh io H v x) : Q x H := P io H x Ext.refl rl r
end
end

section
variable {X : Cx}
end

section
variable {W : Wd} {M : Md W} {E : WX} {X : Cx}
end

abbrev D2 := AV → AV → Hep → Op AV
def t2 (W : Wd) (r : D2) : R2 := fun x y H Q => ∃ io hp a b, Rl W io hp H ∧ RV W io H a x ∧ RV W io H b y ∧ Pop W (RV W) Q io H (r a b hp)
section
variable {W : Wd} {M : Md W} {E : WX} {X : Cx} {a b c : Expr} {es : List Expr} {f g k : DE} {fa ga : DA} {r : D2} {pos : Pos}
end

section
variable {W : Wd} {M : Md W} {E : WX} {X : Cx} {a b c : Expr} {es : List Expr} {f g k : DE} {ft gt : DT} {r r' : D2} {pos : Pos}
theorem Pop.ok {T U : Type} {rh : Rel T U} {io : List Addr} {H : Hp} {hp : Hep} {Q : U → Hp → Prop} {v : T} {x : U} (P : Pop W rh Q io H (some (v, hp))) (rl : Rl W io hp H) (r : rh io H v x) : Q x H := P io H x Ext.refl rl r
end

section
variable {W : Wd} {M : Md W} {E : WX} {X : Cx} {a b c : Expr} {st : Stmt} {sts sts' : List Stmt} {f g k : DE} {ft gt : DT} {fs gs : DS} {pos : Pos}
end
end Dn
namespace L2
open PySem PySem.Spec PyProof.Rows
section
variable {X : Cx}
end
end L2
namespace Dn
open PySem PySem.Spec PyProof.Rows L2

section
variable {W : Wd} {io : List Addr} {H : Hp} {hp : Hep}
end

section
variable {W : Wd} {X : Cx}
end

/-- a value as data: lists read off the heap -/
def toD : Nat → Hep → AV → Option PyData
  | 0, _, _ => none
  | _ + 1, _, .non => some .none
  | _ + 1, _, .bl b => some (.bool b)
  | _ + 1, _, .int i => some (.int i)
  | _ + 1, _, .str x => some (.str x)
  | n + 1, h, .tup xs => (xs.mapM (toD n h)).map .tuple
  | n + 1, h, .rol xs => (xs.mapM (toD n h)).map .list
  | n + 1, h, .ref k => match h[k]? with
    | some (.lst xs) => (xs.mapM (toD n h)).map .list
    | _ => none
  | _ + 1, _, _ => none
section
variable {W : Wd} {io : List Addr} {H : Hp} {hp : Hep}
end
section
variable {W : Wd} {X : Cx}
end
end Dn
namespace Dn
open PySem PySem.Spec PyProof.Rows L2

section
variable {k : Type} [DecidableEq k]
def dget (kvs : List (k × AV)) (q : k) : Option AV := (kvs.find? fun kv => decide (kv.1 = q)).map (·.2)
def dput (kvs : List (k × AV)) (q : k) (v : AV) : List (k × AV) :=
  if (kvs.any fun kv => decide (kv.1 = q)) = true then kvs.map (fun kv => if kv.1 = q then (kv.1, v) else kv) else kvs ++ [(q, v)]
def ddrop (kvs : List (k × AV)) (q : k) : List (k × AV) := kvs.filter fun kv => decide (kv.1 ≠ q)
variable {W : Wd} {io : List Addr} {H : Hp}
theorem RKs.len : ∀ {xs : List (k × AV)} {vs : List (k × V)}, RKs W io H xs vs → xs.length = vs.length
  | _, _, .nil => rfl
  | _, _, .cons _ q => by simp [RKs.len q]
theorem RKs.keys : ∀ {xs : List (k × AV)} {vs : List (k × V)}, RKs W io H xs vs → xs.map (·.1) = vs.map (·.1)
  | _, _, .nil => rfl
  | _, _, .cons _ q => by simp [RKs.keys q]
/-- both have it, or none has -/
def RVo (W : Wd) (io : List Addr) (H : Hp) : Option AV → Option V → Prop
  | some a, some v => RV W io H a v
  | none, none => True
  | _, _ => False
theorem RKs.get : ∀ {xs : List (k × AV)} {vs : List (k × V)} (q : k), RKs W io H xs vs → RVo W io H (dget xs q) (valV vs q)
  | _, _, _, .nil => trivial
  | (q', x) :: xs, (_, v) :: vs, q, .cons r t => by
    have ih := RKs.get q t
    unfold dget valV at ih ⊢
    by_cases e : q' = q
    · simp [List.find?_cons, e]
      exact r
    · simp only [List.find?_cons, e, decide_false]
      exact ih
theorem RKs.any : ∀ {xs : List (k × AV)} {vs : List (k × V)} (q : k), RKs W io H xs vs → (xs.any fun kv => decide (kv.1 = q)) = vs.any fun kv => decide (kv.1 = q)
  | _, _, _, .nil => rfl
  | _, _, q, .cons r t => by simp [List.any_cons, RKs.any q t]
theorem RKs.repl : ∀ {xs : List (k × AV)} {vs : List (k × V)} (q : k) {a : AV} {v : V}, RV W io H a v → RKs W io H xs vs →
    RKs W io H (xs.map fun kv => if kv.1 = q then (kv.1, a) else kv) (vs.map fun kv => if kv.1 = q then (kv.1, v) else kv)
  | _, _, _, _, _, _, .nil => .nil
  | (q', x) :: xs, (_, w) :: vs, q, a, v, ra, .cons r t => by
    rw [List.map_cons, List.map_cons]
    by_cases e : q' = q
    · simp only [e, if_true]
      exact .cons ra (RKs.repl q ra t)
    · simp only [e, if_false]
      exact .cons r (RKs.repl q ra t)
theorem RKs.app : ∀ {xs ys : List (k × AV)} {vs ws : List (k × V)}, RKs W io H xs vs → RKs W io H ys ws → RKs W io H (xs ++ ys) (vs ++ ws)
  | _, _, _, _, .nil, q => q
  | _, _, _, _, .cons r t, q => .cons r (RKs.app t q)
theorem RKs.put {xs : List (k × AV)} {vs : List (k × V)} (q : k) {a : AV} {v : V} (ra : RV W io H a v) (r : RKs W io H xs vs) : RKs W io H (dput xs q a) (putK vs q v) := by
  unfold dput putK
  rw [r.any q]
  by_cases e : (vs.any fun kv => decide (kv.1 = q)) = true
  · rw [if_pos e, if_pos e]
    exact r.repl q ra
  · rw [if_neg e, if_neg e]
    exact r.app (.cons ra .nil)
theorem RKs.drop : ∀ {xs : List (k × AV)} {vs : List (k × V)} (q : k), RKs W io H xs vs → RKs W io H (ddrop xs q) (dropK vs q)
  | _, _, _, .nil => .nil
  | (q', x) :: xs, (_, w) :: vs, q, .cons r t => by
    have ih := RKs.drop q t
    unfold ddrop dropK at ih ⊢
    by_cases e : q' = q
    · simp only [List.filter_cons, e, ne_eq, not_true_eq_false, decide_false]
      exact ih
    · simp only [List.filter_cons, ne_eq, e, not_false_eq_true, decide_true, if_true]
      exact .cons r ih
end
section
variable {W : Wd} {io : List Addr} {H : Hp}
end

section
variable {W : Wd} {X : Cx}
end

section
variable {W : Wd} {X : Cx}
end

section
variable {W : Wd} {X : Cx}
section
variable {M : Md W} {E : WX} {e : Expr} {lo hi : Option Expr} {f : DE} {l u : DO} {pos p2 : Pos}
end
end

section
variable {W : Wd} {X : Cx} {M : Md W} {E : WX} {es : List Expr} {f : DA} {pos : Pos}
end
end Dn
namespace Dn
open PySem PySem.Spec PyProof.Rows L2

/-- fixed items, or the list at a place as it is at each turn -/
inductive Src where
  | fix (xs : List AV)
  | at (n : Nat)
  /-- places and items of a sequence -/
  | enF (xs : List AV)
  | enA (n : Nat)
  /-- two lists, side by side -/
  | zip (m n : Nat)
  /-- a locked dict: its keys, values, pairs, or keys with their places -/
  | dK (n w : Nat)
def Src.len (s : Src) (h : Hep) : Nat := match s with
  | .fix xs => xs.length
  | .enF xs => xs.length
  | .at n => (match h[n]? with
    | some (.lst xs) => xs.length
    | _ => 0)
  | .enA n => (match h[n]? with
    | some (.lst xs) => xs.length
    | _ => 0)
  | .zip m _ => (match h[m]? with
    | some (.lst xs) => xs.length
    | _ => 0)
  | .dK n _ => (match h[n]? with
    | some (.frz (.dK kvs)) => kvs.length
    | _ => 0)
section
variable {W : Wd} {M : Md W} {X : Cx} {pos : Pos} {C : CS}
end

section
variable {W : Wd} {M : Md W} {E : WX} {X : Cx} {tg iter : Expr} {body : List Stmt} {f : DI} {g : DG} {fb : DS} {pos : Pos}
end

section
variable {W : Wd} {M : Md W} {E : WX} {X : Cx} {c : Expr} {body : List Stmt} {ft : DT} {fb : DS} {pos : Pos}
end

abbrev E0x : WX := fun _ _ _ _ => False
section
variable {W : Wd} {M : Md W} {E : WX} {X : Cx} {pos : Pos}
end

section
variable {W : Wd} {M : Md W} {E : WX} {X : Cx} {tg : Expr}
end
end Dn
namespace Dn
open PySem PySem.Spec PyProof.Rows L2

abbrev DF := List AV → Hep → R AV
def Pfn (W : Wd) (E : XK) (Q : VK) (io : List Addr) (H : Hp) : R AV → Prop
  | .ok v hp => ∀ io' H' x, Ext W io H io' H' → Rl W io' hp H' → RV W io' H' v x → Q x H'
  | .exc t fs hp => ∀ io' H' cls d, Ext W io H io' H' → Rl W io' hp H' → RX W io' H' t fs cls d → E cls d H'
  | .stuck => False
def spD (W : Wd) (n : Nat) (f : DF) : Sp := fun vs H Q E => ∃ io hp as, as.length = n ∧ Rl W io hp H ∧ RVs W io H as vs ∧ Pfn W E Q io H (f as hp)
def SR.fin : SR → R AV
  | .nx _ h => .ok .non h
  | .rt v h => .ok v h
  | .exc t fs _ h => .exc t fs h
  | _ => .stuck
theorem Pfn.later {W : Wd} {E : XK} {Q : VK} {io io1 : List Addr} {H H1 : Hp} {r : R AV} (h : Pfn W E Q io H r) (e : Ext W io H io1 H1) : Pfn W E Q io1 H1 r := by
  cases r with
  | ok v hp => exact fun io' H' x e' => h io' H' x (e.trans e')
  | exc t fs hp => exact fun io' H' c d e' => h io' H' c d (e.trans e')
  | stuck => exact h
section
variable {P : Program} {w : World} {mg : Str → Option Value} {base : Heap} {W : Wd} {x qual : Str} {params : Arguments} {body : List Stmt} {scope : Scope} {dvs : List V} {kws : List (Str × V)} {f : Addr} {fd : FuncData}
end

def sel {α : Type} (ix : List Nat) (xs : List α) : List α := ix.filterMap (xs[·]?)
/-- n positional values, keywords ks: the bound ones are those at ix of: positional ++ dfl ++ keywords' -/
def BnD (W : Wd) (fd : FuncData) (ps : List Str) (n : Nat) (ks : List Str) (ix : List Nat) (dfl : List AV) : Prop :=
  ∃ (g : List Value → List Value → List Value) (gV : List V → List V → List V), KBn W.K fd ps n ks g gV ∧
    ∀ io H as bs vs zs, RVs W io H as vs → RVs W io H bs zs → RVs W io H (sel ix (as ++ dfl ++ bs)) (gV vs zs)
section
variable {W : Wd} {x qual : Str} {params : Arguments} {body : List Stmt} {scope : Scope} {dvs : List V} {kws : List (Str × V)} {f : Addr} {fd : FuncData} {ps : List Str}
end

section
variable {W : Wd} {M : Md W} {E : WX} {X : Cx} {k j n m : Nat} {f : Addr} {fd : FuncData} {ps ks : List Str} {F : DF} {x : Str} {p pos apos kpos : Pos} {e o : Expr} {es : List Expr} {kws : List Keyword} {fa fk : DA} {fe : DE} {ix : List Nat} {dfl : List AV}
theorem Pst.fn {σ : L2.St} {Q : VK} {io : List Addr} {H : Hp} {r : R AV} (h : Pst W (RV W) E σ Q io H r) : Pfn W (WE E σ) Q io H r := by
  cases r with
  | ok v hp => exact h
  | exc t fs hp => exact h
  | stuck => exact h
end
end Dn
namespace Dn
open PySem PySem.Spec PyProof.Rows L2

section
variable {W : Wd} {M : Md W} {E : WX} {X : Cx}
end

section
variable {W : Wd} {M : Md W} {E : WX} {X : Cx} {f : DE} {fa : DA} {e a b c tg : Expr} {es : List Expr} {g : DG} {pos : Pos}
end
end Dn
namespace Dn
open PySem PySem.Spec PyProof.Rows L2

section
variable {W : Wd} {M : Md W} {E : WX} {X : Cx}
inductive TW where
  | ty (n : String)
  | cls (t : Nat)
def TW.sub (ct : CT) : TW → TW → Bool
  | .ty a, .ty b => a == b || (a == "bool" && b == "int")
  | .cls s, .cls t => ct.sub s t
  | _, _ => false
def TW.val (W : Wd) : TW → Value
  | .ty n => .type n
  | .cls t => .ref (W.cl t)
variable {e o : Expr} {es : List Expr} {fa : DA} {f : DE} {x : Str} {p pos apos : Pos} {r : DL} {id T : String}
/-- by receiver and arguments -/
abbrev DMt := AV → List AV → Hep → Op AV
variable {name : Str} {r : DMt}
def lstAt (h : Hep) : AV → Option (Nat × List AV)
  | .ref n => match h[n]? with
    | some (.lst xs) => some (n, xs)
    | _ => none
  | _ => none
def mPop : DMt := fun a as h => match lstAt h a, as with
  | some (n, xs), [] => match xs[xs.length - 1]? with
    | some b => some (b, h.set n (.lst xs.dropLast))
    | none => none
  | some (n, xs), [b] => match b with
    | .int i => if -(2 ^ 63) ≤ i ∧ i < 2 ^ 63 then match seqIndex? i xs.length with
        | some k => match xs[k]? with
          | some b => some (b, h.set n (.lst (xs.eraseIdx k)))
          | none => none
        | none => none
      else none
    | _ => none
  | _, _ => none
end
end Dn
namespace PySem
open Sem (wp)
section
variable {prog : Program} {w : World} {A : Around} {E : Value → Shared → Prop} {s : Shared}
end
end PySem
namespace Dn
open PySem PySem.Spec PyProof.Rows L2

section
variable {W : Wd} {M : Md W} {E : WX} {X : Cx} {e : Expr} {f : DE} {p pos tpos : Pos} {elts : List Expr} {kk : Nat}
end
end Dn
namespace Dn
open PySem PySem.Spec PyProof.Rows L2
section
variable {W : Wd} {M : Md W} {E : WX} {X : Cx} {e e2 : Expr} {fa : DA} {p pos tpos : Pos} {elts : List Expr} {kk : Nat}
end
end Dn
namespace Dn
open PySem PySem.Spec PyProof.Rows L2

section
variable {W : Wd} {M : Md W} {E : WX} {X : Cx} {f : DE} {e : Expr} {es : List Expr} {gs : DGs} {g : DG} {pos tpos p : Pos} {kk i : Nat} {C : CS}
end
end Dn
namespace Dn
open PySem PySem.Spec PyProof.Rows L2

section
variable {W : Wd} {M : Md W} {E : WX} {X : Cx} {k : Nat}
end
abbrev Bs := List (Nat × List Str × List Nat × List AV)
def Has (P : Program) (w : World) (mg : Str → Option Value) (base : Heap) (W : Wd) (k : Nat) (x : Str) (ps : List Str) (n : Nat) (F : DF) (bs : Bs) : Prop :=
  ∃ (a : Addr) (fd : FuncData), mg x = some (.ref a) ∧ PySem.W.keepIn W.K (.ref a) = true ∧ FnOk P w W.K mg base (L2.CX P w) k a fd ps (spD W n F) ∧ ∀ b ∈ bs, BnD W fd ps b.1 b.2.1 b.2.2.1 b.2.2.2
section
variable {W : Wd} {M : Md W} {E : WX} {X : Cx} {k j n m q : Nat} {ps ks : List Str} {F : DF} {x : Str} {p pos : Pos} {e : Expr} {es : List Expr} {kws : List Keyword} {fa fk : DA} {ix : List Nat} {dfl : List AV} {bs : Bs}
end

def obsE (fa : List He.Fa) (fn : List He.DefD) (xt : List (PySem.W.Frag → Bool)) (K : PySem.W.Frag) : He.AlD := ((He.obsD fa fn K).1 && xt.all fun f => f K, (He.obsD fa fn K).2)
def SaysE (fa : List He.Fa) (fn : List He.DefD) (xt : List (PySem.W.Frag → Bool)) (K : PySem.W.Frag) : Prop := obsE fa fn xt K = He.valD fn
theorem SaysE.says {fa : List He.Fa} {fn : List He.DefD} {xt : List (PySem.W.Frag → Bool)} {K : PySem.W.Frag} (c : SaysE fa fn xt K) : He.SaysD fa fn K ∧ ∀ (i : Nat) (f : PySem.W.Frag → Bool), xt[i]? = some f → f K = true := by
  have c0 : obsE fa fn xt K = He.valD fn := c
  have d1 : (obsE fa fn xt K).1 = true := by
    rw [c0]
    rfl
  have c1 : ((He.obsD fa fn K).1 && xt.all fun f => f K) = true := d1
  have d2 : (obsE fa fn xt K).2 = (He.valD fn).2 := by rw [c0]
  have c2 : (He.obsD fa fn K).2 = (He.valD fn).2 := d2
  obtain ⟨c3, c4⟩ := He.ba c1
  refine ⟨?_, fun i f h => List.all_eq_true.mp c4 f (List.mem_of_getElem? h)⟩
  show He.obsD fa fn K = He.valD fn
  exact Prod.ext c3 c2
end Dn
namespace Dn
open PySem PySem.Spec PyProof.Rows L2

section
variable {W : Wd} {M : Md W} {E : WX} {X : Cx} {k : Nat}
end
def cdB (K : PySem.W.Frag) : Bool := He.eqO (PySem.W.specialIn K (.builtin "object.__class__") "__get__") (some (some (.builtin "getset_descriptor.__get__")))
def ckB (K : PySem.W.Frag) : Bool := decide (PySem.W.takesIn K (.builtin "object.__class__") = some true)
end Dn
namespace Dn
open PySem

def Fr (ex : List Nat) (h h' : Hep) : Prop := h.length ≤ h'.length ∧ ∀ i, i < h.length → i ∉ ex → h'[i]? = h[i]?
theorem Fr.refl {ex : List Nat} {h : Hep} : Fr ex h h := ⟨Nat.le_refl _, fun _ _ _ => rfl⟩
theorem Fr.trans {ex : List Nat} {h h' h'' : Hep} (a : Fr ex h h') (b : Fr ex h' h'') : Fr ex h h'' := ⟨Nat.le_trans a.1 b.1, fun i hi he => (b.2 i (Nat.lt_of_lt_of_le hi a.1) he).trans (a.2 i hi he)⟩
theorem Fr.mono {ex ex' : List Nat} {h h' : Hep} (a : Fr ex h h') (k : ∀ i, i < h.length → i ∈ ex → i ∈ ex') : Fr ex' h h' := ⟨a.1, fun i hi he => a.2 i hi fun z => he (k i hi z)⟩
theorem Fr.at {ex : List Nat} {h h' : Hep} (a : Fr ex h h') {i : Nat} {o : AO} (e : h[i]? = some o) (he : i ∉ ex) : h'[i]? = some o := by
  obtain ⟨hl, _⟩ := List.getElem?_eq_some_iff.mp e
  rw [a.2 i hl he]
  exact e
theorem Fr.app {ex : List Nat} {h g : Hep} : Fr ex h (h ++ g) := ⟨by simp, fun i hi _ => List.getElem?_append_left hi⟩
theorem Fr.set {ex : List Nat} {h : Hep} {i : Nat} {o : AO} (he : i ∈ ex) : Fr ex h (h.set i o) := ⟨by simp, fun j hj hn => List.getElem?_set_ne (fun z => hn (by rw [← z]; exact he))⟩
section
variable {T U : Type} {a : T} {h h1 : Hep} {s s1 : Sl} {t : Nat} {fs : List (Nat × AV)} {v : AV}
variable {f g k : DE} {c d : DT} {x y : DS} {fa ga : DA} {r r' : D2} {u : D1} {l : DL} {i j m n q : Nat} {b : Bool} {gt : DG} {gs : DGs} {F : DF} {ix : List Nat} {dfl : List AV} {lo hi : DO} {ty : String} {dm : DMt}
def AV.nx : AV → Bool
  | .exn _ _ => false
  | _ => true
end

section
variable {h : Hep} {i j : Int}
end
theorem Fr.nil {ex : List Nat} {h h' : Hep} (f : Fr [] h h') : Fr ex h h' := f.mono fun _ _ z => by cases z
/-- behind the heap's end nothing stands -/
theorem Fr.drop {ex : List Nat} {h h' : Hep} (f : Fr ex h h') (k : ∀ i ∈ ex, h.length ≤ i) : Fr [] h h' := f.mono fun i hi he => absurd hi (Nat.not_lt.mpr (k i he))
theorem in_bounds {i : Int} (h0 : -1000000 ≤ i) (h1 : i ≤ 1000000) (B : Int) (a : (1000000 : Int) < B) : -B ≤ i ∧ i < B := by omega
mutual
inductive Dr (h : Hep) : AV → PyData → Prop
  | non : Dr h .non .none
  | bl (b : Bool) : Dr h (.bl b) (.bool b)
  | int (i : Int) : Dr h (.int i) (.int i)
  | str (x : Str) : Dr h (.str x) (.str x)
  | tup {xs : List AV} {ds : List PyData} : DrA h xs ds → Dr h (.tup xs) (.tuple ds)
  | rol {xs : List AV} {ds : List PyData} : DrA h xs ds → Dr h (.rol xs) (.list ds)
  | ref {n : Nat} {xs : List AV} {ds : List PyData} : h[n]? = some (.lst xs) → DrA h xs ds → Dr h (.ref n) (.list ds)
inductive DrA (h : Hep) : List AV → List PyData → Prop
  | nil : DrA h [] []
  | cons {x : AV} {d : PyData} {xs : List AV} {ds : List PyData} : Dr h x d → DrA h xs ds → DrA h (x :: xs) (d :: ds)
end
theorem depth_tup {ds : List PyData} : (PyData.tuple ds).depth = PyData.depthAll ds + 1 := by rw [PyData.depth]
theorem depth_list {ds : List PyData} : (PyData.list ds).depth = PyData.depthAll ds + 1 := by rw [PyData.depth]
theorem depthAll_cons {d : PyData} {ds : List PyData} : PyData.depthAll (d :: ds) = max d.depth (PyData.depthAll ds) := by rw [PyData.depthAll]
mutual
theorem toD_dr {h : Hep} : ∀ {a : AV} {d : PyData}, Dr h a d → ∀ n, d.depth < n → toD n h a = some d
  | _, _, .non, n + 1, _ => rfl
  | _, _, .bl b, n + 1, _ => rfl
  | _, _, .int b, n + 1, _ => rfl
  | _, _, .str b, n + 1, _ => rfl
  | _, _, .tup (xs := xs) (ds := ds) r, n + 1, hn => by
    rw [depth_tup] at hn
    have := toD_drA r n (by omega)
    simp [toD, this]
  | _, _, .rol (xs := xs) (ds := ds) r, n + 1, hn => by
    rw [depth_list] at hn
    have := toD_drA r n (by omega)
    simp [toD, this]
  | _, _, .ref (xs := xs) (ds := ds) e r, n + 1, hn => by
    rw [depth_list] at hn
    have := toD_drA r n (by omega)
    simp [toD, this, e]
theorem toD_drA {h : Hep} : ∀ {xs : List AV} {ds : List PyData}, DrA h xs ds → ∀ n, PyData.depthAll ds < n → xs.mapM (toD n h) = some ds
  | _, _, .nil, n, _ => rfl
  | _, _, .cons r t, n, hn => by
    rw [depthAll_cons] at hn
    have h1 := toD_dr r n (by omega)
    have h2 := toD_drA t n (by omega)
    simp [h1, h2]
end
theorem two63 : (1000000 : Int) < 2 ^ 63 := by decide
theorem pop_last {h : Hep} {n : Nat} {xs : List AV} {x : AV} (e : h[n]? = some (.lst xs)) (hx : xs.getLast? = some x) : mPop (.ref n) [.int (-1)] h = some (x, h.set n (.lst xs.dropLast)) := by
  have hl : lstAt h (.ref n) = some (n, xs) := by simp [lstAt, e]
  have hb := in_bounds (i := -1) (by omega) (by omega) _ two63
  have hne : 0 < xs.length := by
    cases xs with
    | nil => cases hx
    | cons a r => simp
  have hi : seqIndex? (-1) xs.length = some (xs.length - 1) := by
    unfold seqIndex?
    simp
    omega
  have hk : xs[xs.length - 1]? = some x := by rw [← List.getLast?_eq_getElem?]; exact hx
  unfold mPop
  rw [hl]
  dsimp only
  rw [if_pos hb, hi]
  dsimp only
  rw [hk]
  dsimp only
  rw [List.eraseIdx_eq_dropLast (by omega)]
theorem pop_first {h : Hep} {n : Nat} {xs : List AV} {x : AV} (e : h[n]? = some (.lst (x :: xs))) : mPop (.ref n) [.int 0] h = some (x, h.set n (.lst xs)) := by
  have hl : lstAt h (.ref n) = some (n, x :: xs) := by simp [lstAt, e]
  have hb := in_bounds (i := 0) (by omega) (by omega) _ two63
  have hi : seqIndex? 0 (x :: xs).length = some 0 := by
    unfold seqIndex?
    simp
  unfold mPop
  rw [hl]
  dsimp only
  rw [if_pos hb, hi]
  rfl
end Dn
namespace Dn
open PySem
end Dn
namespace Dn
open PySem PySem.Spec PyProof.Rows L2

def fget : List (Nat × AV) → Nat → Option AV
  | [], _ => none
  | (k, v) :: r, j => if k = j then some v else fget r j
def fput : List (Nat × AV) → Nat → AV → List (Nat × AV)
  | [], j, x => [(j, x)]
  | (k, v) :: r, j, x => if k = j then (k, x) :: r else (k, v) :: fput r j x
section
variable {W : Wd} {io : List Addr} {hp : Hep} {H : Hp}
theorem fn_inj {i j : Nat} {s : Str} (h1 : W.fn[i]? = some s) (h2 : W.fn[j]? = some s) : i = j := by
  obtain ⟨l1, e1⟩ := List.getElem?_eq_some_iff.mp h1
  obtain ⟨l2, e2⟩ := List.getElem?_eq_some_iff.mp h2
  exact (List.getElem_inj W.fnd).mp (e1.trans e2.symm)
theorem RFs.get {j : Nat} {s : Str} (hj : W.fn[j]? = some s) {x : AV} : ∀ {fs : List (Nat × AV)} {vs : List (Str × V)}, RFs W io H fs vs → fget fs j = some x → ∃ v, vs.lookup s = some v ∧ RV W io H x v
  | _, _, .nil, h => by cases h
  | _, _, .cons (q := q) (s := s') (v := v) hq r t, h => by
    unfold fget at h
    by_cases e : q = j
    · rw [if_pos e] at h
      cases h
      subst e
      have es : s' = s := Option.some.inj (hq.symm.trans hj)
      subst es
      exact ⟨v, by simp [List.lookup], r⟩
    · rw [if_neg e] at h
      obtain ⟨v', e1, e2⟩ := RFs.get hj t h
      have ne : s ≠ s' := fun z => e (fn_inj (hq.trans (by rw [z])) hj)
      have nb : (s == s') = false := by simpa using ne
      exact ⟨v', by simp [List.lookup, nb, e1], e2⟩
theorem RFs.put {j : Nat} {s : Str} (hj : W.fn[j]? = some s) {x : AV} {v : V} (rx : RV W io H x v) : ∀ {fs : List (Nat × AV)} {vs : List (Str × V)}, RFs W io H fs vs → RFs W io H (fput fs j x) (putF s v vs)
  | _, _, .nil => .cons hj rx .nil
  | _, _, .cons (q := q) (s := s') hq r t => by
    unfold fput putF
    by_cases e : q = j
    · subst e
      have es : s' = s := Option.some.inj (hq.symm.trans hj)
      rw [if_pos rfl, if_pos es]
      exact .cons hq rx t
    · have ne : s' ≠ s := fun z => e (fn_inj (hq.trans (by rw [z])) hj)
      rw [if_neg e, if_neg ne]
      exact .cons hq r (RFs.put hj rx t)
theorem RFs.len : ∀ {fs : List (Nat × AV)} {vs : List (Str × V)}, RFs W io H fs vs → fs.length = vs.length
  | _, _, .nil => rfl
  | _, _, .cons _ _ t => by simp [RFs.len t]
theorem RFs.no {m : Str} (hm : m ∉ W.fn) : ∀ {fs : List (Nat × AV)} {vs : List (Str × V)}, RFs W io H fs vs → vs.lookup m = none
  | _, _, .nil => rfl
  | _, _, .cons (s := s') hq r t => by
    have ne : m ≠ s' := fun z => hm (z ▸ List.mem_of_getElem? hq)
    have nb : (m == s') = false := by simpa using ne
    simp [List.lookup, nb, RFs.no hm t]
end

section
variable {W : Wd} {M : Md W} {E : WX} {X : Cx} {e o value : Expr} {f fo fv : DE} {x : Str} {j : Nat} {pos pos' tpos : Pos}
end

section
variable {W : Wd} {M : Md W} {E : WX} {X : Cx} {k j n m q t : Nat} {f : Addr} {fd : FuncData} {ps ks : List Str} {F : DF} {x : Str} {p pos apos kpos : Pos} {e o : Expr} {es : List Expr} {kws : List Keyword} {fa fk : DA} {fe fo : DE} {ix : List Nat} {dfl : List AV} {bs : Bs}
end
end Dn
namespace Dn
open PySem PySem.Spec PyProof.Rows L2

section
variable {W : Wd} {M : Md W} {E : WX} {X : Cx} {e : Expr} {f g : DE}
end

theorem Pst.imp {W : Wd} {E : WX} {σ : L2.St} {T U T' U' : Type} {rh : Rel T U} {rh' : Rel T' U'} {Q : U → Hp → Prop} {Q' : U' → Hp → Prop} {io : List Addr} {H : Hp} {r : R T'} {k : T' → Hep → R T} (h : Pst W rh E σ Q io H (r.bind k))
    (i : ∀ io1 H1 a hp1 x, Ext W io H io1 H1 → Rl W io1 hp1 H1 → rh' io1 H1 a x → Pst W rh E σ Q io1 H1 (k a hp1) → Q' x H1) : Pst W rh' E σ Q' io H r := by
  cases r with
  | ok v hp => exact fun io' H' x e rl q => i io' H' v hp x e rl q (Pst.later h e)
  | exc t fs hp => exact h
  | stuck => exact h
def HasO (P : Program) (w : World) (mg : Str → Option Value) (base : Heap) (W : Wd) (k : Nat) (t : Nat) (x : Str) (ps : List Str) (n : Nat) (F : DF) : Prop :=
  ∃ (a : Addr) (fd : FuncData), Meth W.K (W.cl t) x a ∧ PySem.W.fnIn W.K a = true ∧ FnOk P w W.K mg base (L2.CX P w) k a fd ps (spD W n F) ∧ BnD W fd ps n [] (List.range n) []
section
variable {W : Wd} {M : Md W} {E : WX} {X : Cx} {k j n t : Nat} {ps : List Str} {F : DF} {x : Str} {p pos apos : Pos} {e e' o : Expr} {f g fo : DE}
abbrev DX := AV → AV → Hep → R AV
def OpX (X : Cx) (W : Wd) (E : WX) (G : Value → Value → Sem Value) (r : DX) : Prop :=
  ∀ (pins : List (Addr × Obj)) (s : Shared) (σ : L2.St) (H : Hp) (io : List Addr) (hp : Hep) (a b : AV) (xv yv : V) (v u : Value) (Q : VK), Inv X pins σ H s → RelV xv v → RelV yv u → Rl W io hp H → RV W io H a xv → RV W io H b yv → Pst W (RV W) E σ Q io H (r a b hp) →
    wpAny (model X.prog X.w) X.A (G v u) (EP X pins σ Q) X.xe s
def ofX (r : D2) : DX := fun a b h => R.of (r a b h)
variable {G : Value → Value → Sem Value} {r r' : DX}
theorem OpX.of {r : D2} (h : OpR X G (t2 W r)) : OpX X W E G (ofX r) := fun pins s σ H io hp a b xv yv v u Q I rx ry rl ra rb P => h pins s σ H xv yv v u Q I rx ry ⟨io, hp, a, b, rl, ra, rb, P.of⟩
def IxX (X : Cx) (W : Wd) (E : WX) (r : DX) : Prop :=
  ∀ (value slice : Expr) (pins : List (Addr × Obj)) (s : Shared) (σ : L2.St) (H : Hp) (io : List Addr) (hp : Hep) (a b : AV) (xv yv : V) (v u : Value) (Q : VK), Inv X pins σ H s → RelV xv v → RelV yv u → Rl W io hp H → RV W io H a xv → RV W io H b yv → Pst W (RV W) E σ Q io H (r a b hp) →
    subscripted slice false v u = operate [v, u] (getItem v u) → subscripted slice true v u = runValue (.builtin "lifetime.subscript" ⟨[v, u], []⟩) → wpAny (model X.prog X.w) X.A (subscriptTail value slice v u) (EP X pins σ Q) X.xe s
theorem IxX.of {r : D2} (h : IxR X (t2 W r)) : IxX X W E (ofX r) := fun value slice pins s σ H io hp a b xv yv v u Q I rx ry rl ra rb P h1 _ => h value slice pins s σ H xv yv v u Q I rx ry ⟨io, hp, a, b, rl, ra, rb, P.of⟩ h1
end
end Dn
namespace Dn
open PySem PySem.Spec PyProof.Rows L2

section
variable {M : Model} {prog : Program} {w : World} {A : Around} {E : Value → Shared → Prop} {s : Shared} {K : PySem.W.Frag} {x C f : Addr} {ox : Obj} {od : Option Obj} {b tb : Value}
end
end Dn
namespace Dn
open PySem PySem.Spec PyProof.Rows L2
section
variable {W : Wd} {M : Md W} {E : WX} {X : Cx} {k j n t : Nat} {ps : List Str} {F : DF} {x : Str} {p pos apos : Pos} {e e' o : Expr} {f g fo : DE}
variable {ct : CT}
end
end Dn
namespace Dn
open PySem PySem.Spec PyProof.Rows L2
section
variable {W : Wd} {M : Md W} {E : WX} {X : Cx} {k j n m q t : Nat} {ps ks : List Str} {F : DF} {x : Str} {p pos apos : Pos} {e o : Expr} {es : List Expr} {kws : List Keyword} {f fo : DE} {fa fk : DA} {ix : List Nat} {dfl : List AV} {bs : Bs}
def HasC (P : Program) (w : World) (mg : Str → Option Value) (base : Heap) (W : Wd) (k : Nat) (t : Nat) (x : Str) (ps : List Str) (n : Nat) (F : DF) (bs : Bs) : Prop :=
  ∃ (a : Addr) (fd : FuncData), Mk W.K (W.cl t) a ∧ mg x = some (.ref (W.cl t)) ∧ W.ct.kit t = true ∧ FnOk P w W.K mg base (L2.CX P w) k a fd ps (spD W n F) ∧ ∀ b ∈ bs, BnD W fd ps b.1 b.2.1 b.2.2.1 b.2.2.2
end
end Dn
namespace Dn
open PySem PySem.Spec PyProof.Rows L2

def clB (K : PySem.W.Frag) (C : Addr) : Bool := PySem.W.plainGet K C Str.empty && (PySem.W.hasDictIn K C && (PySem.W.plainOver K C && (He.eqO (PySem.W.findIn K (.ref C) "__setattr__") (some (some (.builtin "object.__setattr__"))) &&
  (He.eqO (PySem.W.findIn K (.ref C) "__class__") (some (some (.builtin "object.__class__"))) && decide (PySem.W.mroIn K C (.type "object") = some true)))))
def ctOf (n : Nat) (sub : Nat → Nat → Bool) : CT := ⟨fun t => decide (t < n), sub⟩
def clOf (K : PySem.W.Frag) (cs : List Str) (t : Nat) : Addr := He.ga K (cs.getD t Str.empty)
def allN (n : Nat) (p : Nat → Bool) : Bool := (List.range n).all p
abbrev Pth := PySem.W.Frag → Addr
structure DefF where
  ad : Pth
  nm : Str
  ql : Str
  pr : Arguments
  bd : List Stmt
  sp : Scope
  dl : List He.Dv
  kw : List (Str × He.Dv)
def DefF.look (d : DefF) (K : PySem.W.Frag) : He.FnW := match K.lookup (d.ad K) with
  | some ⟨_, _, .func g, _⟩ => some (g.name, g.qualname, g.params, g.body, g.scope, g.globals, g.closure, g.builtins)
  | _ => none
def DefF.want (d : DefF) : He.FnW := some (d.nm, d.ql, d.pr, .stmts d.bd, d.sp, mainGlobals, [], builtinsNs)
def DefF.good (d : DefF) (K : PySem.W.Frag) : Bool := PySem.W.keepIn K (.ref (d.ad K)) && match K.lookup (d.ad K) with
  | some ⟨_, _, .func g, _⟩ => PySem.W.codeIn K g.code d.ql && (He.dflB K g.defaults (d.dl.map (He.Dv.v K)) && He.kwdB K g.kwdefaults (d.kw.map fun q => (q.1, q.2.v K)))
  | _ => false
/-- paths: a def of the module, a method, a property's getter -/
def pDef (x : Str) : Pth := fun K => He.ga K x
def pMeth (C m : Str) : Pth := fun K => He.ma K (He.ga K C) m
def methB (C m : Str) (p : Pth) (K : PySem.W.Frag) : Bool := He.eqO (PySem.W.findIn K (.ref (He.ga K C)) m) (some (some (.ref (p K)))) && (PySem.W.isFn K (.ref (p K)) && PySem.W.keepIn K (.ref (p K)))
def mkB (C : Str) (p : Pth) (K : PySem.W.Frag) : Bool := PySem.W.makesIn K (He.ga K C) && (He.eqO (PySem.W.findIn K (.ref (He.ga K C)) "__init__") (some (some (.ref (p K)))) && (PySem.W.isFn K (.ref (p K)) && PySem.W.keepIn K (.ref (He.ga K C))))
abbrev AlF : Type := Bool × List He.FnW
def obsF (fa : List He.Fa) (fn : List DefF) (xt : List (PySem.W.Frag → Bool)) (K : PySem.W.Frag) : AlF := ((fa.all fun f => f.ok K) && ((fn.all fun d => d.good K) && xt.all fun f => f K), fn.map fun d => d.look K)
def valF (fn : List DefF) : AlF := (true, fn.map DefF.want)
def SaysF (fa : List He.Fa) (fn : List DefF) (xt : List (PySem.W.Frag → Bool)) (K : PySem.W.Frag) : Prop := obsF fa fn xt K = valF fn
section
variable {fa : List He.Fa} {fn : List DefF} {xt : List (PySem.W.Frag → Bool)} {K : PySem.W.Frag}
theorem SaysF.one (c : SaysF fa fn xt K) : (fa.all fun f => f.ok K) = true ∧ (fn.all fun d => d.good K) = true ∧ (xt.all fun f => f K) = true := by
  have c1 : ((fa.all fun f => f.ok K) && ((fn.all fun d => d.good K) && xt.all fun f => f K)) = true := congrArg (fun z : AlF => z.1) c
  obtain ⟨a, b⟩ := He.ba c1
  exact ⟨a, He.ba b⟩
theorem SaysF.x (c : SaysF fa fn xt K) (i : Nat) {f : PySem.W.Frag → Bool} (h : xt[i]? = some f := by rfl) : f K = true := List.all_eq_true.mp c.one.2.2 f (List.mem_of_getElem? h)
end
/-- statements within a class -/
def clsStmt : Stmt → Nat → Stmt
  | .ClassDef _ _ _ body _ _ _ _ _ _ _, i => body.getD i (.Pass ⟨0, 0, 0, 0⟩)
  | s, _ => s
/-- a def that keeps its promise, with the ways it is called -/
def FnB (P : Program) (w : World) (mg : Str → Option Value) (base : Heap) (W : Wd) (k : Nat) (f : Addr) (fd : FuncData) (ps : List Str) (n : Nat) (F : DF) (bs : Bs) : Prop :=
  PySem.W.keepIn W.K (.ref f) = true ∧ FnOk P w W.K mg base (L2.CX P w) k f fd ps (spD W n F) ∧ ∀ b ∈ bs, BnD W fd ps b.1 b.2.1 b.2.2.1 b.2.2.2
section
variable {P : Program} {w : World} {mg : Str → Option Value} {base : Heap} {W : Wd} {k n t : Nat} {f : Addr} {fd : FuncData} {ps : List Str} {F : DF} {bs : Bs} {x : Str}
theorem FnB.has (B : FnB P w mg base W k f fd ps n F bs) (h : mg x = some (.ref f)) : Has P w mg base W k x ps n F bs := ⟨f, fd, h, B.1, B.2.1, B.2.2⟩
theorem FnB.own (B : FnB P w mg base W k f fd ps n F bs) (h : Meth W.K (W.cl t) x f) (hf : PySem.W.fnIn W.K f = true) (i : Nat) (hi : bs[i]? = some (n, [], List.range n, [])) : HasO P w mg base W k t x ps n F := ⟨f, fd, h, hf, B.2.1, B.2.2 _ (List.mem_of_getElem? hi)⟩
theorem FnB.cls (B : FnB P w mg base W k f fd ps n F bs) (h : Mk W.K (W.cl t) f) (hm : mg x = some (.ref (W.cl t))) (hk : W.ct.kit t = true) : HasC P w mg base W k t x ps n F bs := ⟨f, fd, h, hm, hk, B.2.1, B.2.2⟩
end
section
variable {W : Wd} {x qual : Str} {params : Arguments} {body : List Stmt} {scope : Scope} {dvs : List V} {kws : List (Str × V)} {f : Addr} {fd : FuncData} {ps : List Str}
end
/-- the empty tuple of the written part -/
def etB (p : Pth) (K : PySem.W.Frag) : Bool := match K.lookup (p K) with
  | some ⟨.type "tuple", _, .seq its _, _⟩ => its.toList.isEmpty && decide (its.size = 0)
  | _ => false
end Dn
namespace Dn
open PySem
section
variable {T : Type} {a b v : AV} {h h1 : Hep} {s : Sl} {t i j n m q c : Nat} {f g k : DE} {fa fk : DA} {F : DF} {ix : List Nat} {dfl : List AV} {fs : List (Nat × AV)} {r r' : DX} {r2 : D2} {ct : CT}
end
end Dn
namespace Dn
open PySem PySem.Spec PyProof.Rows L2
section
variable {W : Wd} {X : Cx}
end
end Dn
namespace Dn
open PySem PySem.Spec PyProof.Rows L2
section
variable {W : Wd} {M : Md W} {E : WX} {X : Cx}
end
section
variable {W : Wd} {M : Md W} {E : WX} {X : Cx} {k j n t : Nat} {ps : List Str} {F : DF} {x : Str} {p pos apos : Pos} {e e' o : Expr} {f g fo : DE}
end
end Dn
namespace Dn
open PySem PySem.Spec PyProof.Rows L2
section
variable {prog : Program} {w : World} {A : Around} {E : Value → Shared → Prop} {s : Shared}
end
section
variable {X : Cx}
end
section
variable {W : Wd} {M : Md W} {E : WX} {X : Cx} {k : Nat}
end
end Dn
namespace PySem
namespace DX
open PySem.W PySem.Calls PyProof.Rows
structure NewF (O nid : String) (bm : List Value) : Prop where
  spl : splitId nid = some (O, "__new__")
  knd : builtinKind nid = some .builtinFn
  sig : Manifest.signature? nid = some ⟨.any, O, O, .cls, [⟨"args", .varPos, false⟩, ⟨"kwargs", .varKw, false⟩]⟩
  has : bm.contains (.type O) = true
  nat : bm.contains (.type "AttributeError") = false
  nnm : bm.contains (.type "NameError") = false
  can : Manifest.canonical nid = Manifest.canonical "BaseException.__new__"
  ent : entryFor table nid = some Builtin.«BaseException.__new__»
  fin : nid.endsWith ".__new__" = true
  own : nid.dropRight 8 = O
  qui : nid.startsWith "lifetime." = false
  sta : (O != "*") = true
theorem NewF.of {O nid iid : String} {bm : List Value} (F : ExcBaseFacts O nid iid bm) : NewF O nid bm :=
  ⟨F.newSplit, F.newKind, F.newRow, F.hasB, F.noAttr, F.noName, F.canon, F.entry, F.ends, F.owner, F.quiet, F.noStar⟩
abbrev bmKey : List Value := [.type "KeyError", .type "LookupError", .type "Exception", .type "BaseException", .type "object"]
section
variable {md : Model} {ar : Around} {ex : Value → Shared → Prop} {hp : Heap} {gs : Array GenState} {dr : Drawn} {tc : Nat} {ops : OsState}
variable {cn qn : Str} {C N : Addr} {bs bm bmB : List Value} {hd : Bool} {sl : List Str} {sb : List Value} {ab : Bool} {col : Option Bool} {dd : Option Addr} {k0 k1 k2 k3 k5 : Option Value} {O nid : String}
abbrev ClsAt (hp : Heap) (cn qn : Str) (C N : Addr) (bs bm : List Value) (hd : Bool) (sl : List Str) (sb : List Value) (ab : Bool) (col : Option Bool) (dd : Option Addr) (k0 k1 k2 k3 k5 : Option Value) (nid : String) : Prop := hp.get? C = some (excClassObj cn qn C N bs bm hd sl sb ab col dd k0 k1 k2 k3 k5 nid)
end
section
variable {prog : Program} {w : World} {ar : Around} {ex : Value → Shared → Prop} {R : Result → Shared → Prop} {hp : Heap} {gs : Array GenState} {dr : Drawn} {tc : Nat} {ops : OsState}
variable {cn qn : Str} {C N : Addr} {bs bm bmB : List Value} {hd : Bool} {sl : List Str} {sb : List Value} {ab : Bool} {col : Option Bool} {dd : Option Addr} {k0 k1 k2 k3 k5 : Option Value} {O nid : String}
end
section
variable {prog : Program} {w : World} {A : Around} {R : Result → Shared → Prop} {g : Array GenState} {d : Drawn} {tt : Nat} {os : OsState}
end
end DX
end PySem

namespace Dn
open PySem PySem.Spec PyProof.Rows L2

/-- a class of exceptions with an own __init__ at I, field nm -/
structure Xi (K : PySem.W.Frag) (C : Addr) (bmB : List Value) (newId : String) (nm : Str) : Prop where
  ini : PySem.W.excInitIn K C bmB newId = true
  ovr : PySem.W.excOver K C bmB = true
  tkr : PySem.W.takerIn K C nm = some none
  dct : PySem.W.hasDictIn K C = true
  sat : PySem.W.findIn K (.ref C) "__setattr__" = some (some (.builtin "object.__setattr__"))
  sub : PySem.W.subIn K (.ref C) (.type "BaseException") = some true
  typ : PySem.W.typeIn K (.ref C) = some (.type "type")
  kep : PySem.W.keepIn K (.ref C) = true
section
variable {X : Cx} {pins : List (Addr × Obj)} {σ : L2.St} {H : Hp} {s : Shared} {e C : Addr} {nm : Str} {y : V} {u : Value} {Q : Unit → Shared → Prop} {E : Value → Shared → Prop} {A : Around} {B newId initId : String} {bmB : List Value}
end
section
variable {X : Cx} {E : WX} {C : Addr} {nm : Str} {B newId initId : String} {bmB : List Value} {x : Str} {p pos : Pos} {e : Expr}
end
end Dn
namespace Dn
open PySem PySem.Spec PyProof.Rows L2

section
variable {X : Cx} {pins : List (Addr × Obj)} {σ : L2.St} {H : Hp} {a : Addr} {cls : Value} {d : Option Addr} {s : Shared} {D : Ends}
variable {hds : List ExceptHandler} {x n : Str} {np pos : Pos} {b₀ : Stmt} {suite : List Stmt} {c : Value} {i : Nat}
end
end Dn
namespace Dn
open PySem PySem.Spec PyProof.Rows L2

/-- the classes of exceptions: their numbers n .. m - 1, which lies under which, which under built-in ones -/
structure XT where
  n : Nat
  m : Nat
  sub : Nat → Nat → Bool
  ty : List (Nat × String × Bool)
abbrev Hds := List (Nat × Option Nat × DS)
structure XWd (W : Wd) (T : XT) : Prop where
  exm : ∀ s t, T.n ≤ s → s < T.m → T.n ≤ t → t < T.m → PySem.W.exmOne W.K (.ref (W.cl s)) (.ref (W.cl t)) = some (T.sub s t)
  xf : ∀ t, T.n ≤ t → t < T.m → XfC W.K (W.cl t)
  no : ∀ t s, T.n ≤ t → t < T.m → s ∈ W.fn → PySem.W.findIn W.K (.ref (W.cl t)) s = some none
  ec : ∀ t, T.n ≤ t → t < T.m → ExcC W.K (W.cl t)
  ty : ∀ q ∈ T.ty, PySem.W.kitOne W.K (.ref (W.cl q.1)) (.type q.2.1) = some q.2.2
section
variable {W : Wd} {M : Md W} {E : WX} {X : Cx} {t j k : Nat} {x : Str} {e : Expr} {f : DE} {p p2 pos : Pos}
end

def exM (W : Wd) (i t : Nat) (fs : List (Nat × AV)) (a : Addr) (d : Option Addr) : Md W where
  rel := fun io H as σ => (as.length = σ.length ∧ σ[i]? = some (some (.ref a)) ∧ as[i]? = some (some (.exn t fs))) ∧ (∀ (j : Nat) (v : AV), j ≠ i → as[j]? = some (some v) → ∃ x, σ[j]? = some (some x) ∧ RV W io H v x) ∧
    RXf W io H fs d
  mono := fun e h => ⟨h.1, fun j v n q => by
    obtain ⟨x, b, r⟩ := h.2.1 j v n q
    exact ⟨x, b, r.mono e⟩, h.2.2.mono e⟩
  var := fun {io H as σ j v} h q hn => by
    by_cases hj : j = i
    · subst hj
      rw [h.1.2.2] at q
      cases q
      exact absurd rfl (hn t fs)
    · exact h.2.1 j v hj q
  ok := fun j => j ≠ i
  set := fun {io H as σ j v x} h r hj => ⟨⟨by simp [h.1.1], by rw [List.getElem?_set_ne hj]; exact h.1.2.1, by rw [List.getElem?_set_ne hj]; exact h.1.2.2⟩, fun l w n q => by
    by_cases e : l = j
    · subst e
      obtain ⟨hl, _⟩ := List.getElem?_eq_some_iff.mp q
      rw [List.length_set] at hl
      rw [List.getElem?_set_self hl] at q
      cases q
      exact ⟨x, List.getElem?_set_self (by rw [← h.1.1]; exact hl), r⟩
    · rw [List.getElem?_set_ne (Ne.symm e)] at q ⊢
      exact h.2.1 l w n q, h.2.2⟩
  wipe := fun {io H as σ j} h hj => ⟨⟨by simp [h.1.1], by rw [List.getElem?_set_ne hj]; exact h.1.2.1, by rw [List.getElem?_set_ne hj]; exact h.1.2.2⟩, fun l w n q => by
    by_cases e : l = j
    · subst e
      obtain ⟨hl, _⟩ := List.getElem?_eq_some_iff.mp q
      rw [List.length_set] at hl
      rw [List.getElem?_set_self hl] at q
      cases q
    · rw [List.getElem?_set_ne (Ne.symm e)] at q ⊢
      exact h.2.1 l w n q, h.2.2⟩
section
variable {W : Wd} {X : Cx} {T : XT}
/-- the clauses, read -/
inductive HdD (W : Wd) (X : Cx) (T : XT) : List ExceptHandler → Hds → Prop
  | nil : HdD W X T [] []
  | only {x : Str} {c : Nat} {f : DS} {b₀ : Stmt} {suite : List Stmt} {np pos : Pos} {hds : List ExceptHandler} {hs : Hds} (hc : Names X x (.ref (W.cl c))) (h1 : T.n ≤ c) (h2 : c < T.m)
      (hsu : ∀ (a : Addr) (oe : Obj) (pn : List (Addr × Obj)), PSs (X.suite a ((a, oe) :: pn)) (b₀ :: suite) (tS W (std W) E0x f)) (r : HdD W X T hds hs) :
      HdD W X T (.ExceptHandler (some (.Name x np)) none (b₀ :: suite) pos :: hds) ((c, none, f) :: hs)
  | as {x n : Str} {i c : Nat} {f : DS} {b₀ : Stmt} {suite : List Stmt} {np pos : Pos} {hds : List ExceptHandler} {hs : Hds} (hc : Names X x (.ref (W.cl c))) (h1 : T.n ≤ c) (h2 : c < T.m) (hN : X.N.Nodup) (hi : X.N[i]? = some n) (hl : X.env.kindOf n = some .local)
      (hsu : ∀ (a : Addr) (oe : Obj) (pn : List (Addr × Obj)) (t : Nat) (fs : List (Nat × AV)) (d : Option Addr), T.n ≤ t → t < T.m → Zc (.ref (W.cl t)) d oe → (∃ vs, oe.data = .fields vs) → PSs (X.suite a ((a, oe) :: pn)) (b₀ :: suite) (tS W (exM W i t fs a d) E0x f)) (r : HdD W X T hds hs) :
      HdD W X T (.ExceptHandler (some (.Name x np)) (some n) (b₀ :: suite) pos :: hds) ((c, some i, f) :: hs)
end
section
variable {W : Wd} {X : Cx} {T : XT} {E : WX} {a : Addr} {oe : Obj} {pn : List (Addr × Obj)} {i j t : Nat} {fs : List (Nat × AV)} {d : Option Addr} {x nm : Str} {p pos : Pos}
end
end Dn
namespace Dn
open PySem PySem.Spec PyProof.Rows L2

section
variable {X : Cx}
end
/-- what the head must show of the classes cs; behind them stand the exceptions xs -/
def wdXB (cs xs fn : List Str) (sub : Nat → Nat → Bool) (K : PySem.W.Frag) : Bool :=
  allN cs.length fun t => clB K (clOf K (cs ++ xs) t) && (clsB K (clOf K (cs ++ xs) t) &&
    ((tyNames.all fun n => decide (PySem.W.kitOne K (.type n) (.ref (clOf K (cs ++ xs) t)) = some false) && decide (PySem.W.kitOne K (.ref (clOf K (cs ++ xs) t)) (.type n) = some false)) &&
    ((allN cs.length fun s => decide (PySem.W.kitOne K (.ref (clOf K (cs ++ xs) s)) (.ref (clOf K (cs ++ xs) t)) = some (sub s t)) && decide (PySem.W.subIn K (.ref (clOf K (cs ++ xs) s)) (.ref (clOf K (cs ++ xs) t)) = some (sub s t))) &&
      fn.all fun x => He.eqO (PySem.W.findIn K (.ref (clOf K (cs ++ xs) t)) x) (some none))))
def xcB (fn : List Str) (K : PySem.W.Frag) (C : Addr) : Bool := xfB K C && ((fn.all fun x => He.eqO (PySem.W.findIn K (.ref C) x) (some none)) && (He.eqO (PySem.W.findIn K (.ref C) "__class__") (some (some (.builtin "object.__class__"))) && decide (PySem.W.mroIn K C (.type "object") = some true)))
def xwB (cs fn : List Str) (T : XT) (K : PySem.W.Frag) : Bool :=
  allN (T.m - T.n) (fun i => xcB fn K (clOf K cs (T.n + i)) && allN (T.m - T.n) fun j => decide (PySem.W.exmOne K (.ref (clOf K cs (T.n + i))) (.ref (clOf K cs (T.n + j))) = some (T.sub (T.n + i) (T.n + j)))) &&
    T.ty.all fun q => decide (PySem.W.kitOne K (.ref (clOf K cs q.1)) (.type q.2.1) = some q.2.2)
def tyB (K : PySem.W.Frag) (C : Addr) : Bool := decide (PySem.W.subIn K (.ref C) (.type "BaseException") = some true) && (decide (PySem.W.typeIn K (.ref C) = some (.type "type")) && PySem.W.keepIn K (.ref C))
def x0B (x : Str) (bmB : List Value) (newId : String) (K : PySem.W.Frag) : Bool := PySem.W.excIn K (He.ga K x) bmB newId && tyB K (He.ga K x)
def xiB (x nm : Str) (p : Pth) (bmB : List Value) (newId : String) (K : PySem.W.Frag) : Bool := PySem.W.excInitIn K (He.ga K x) bmB newId && (PySem.W.excOver K (He.ga K x) bmB && (He.eqO (PySem.W.takerIn K (He.ga K x) nm) (some none) && (PySem.W.hasDictIn K (He.ga K x) &&
  (He.eqO (PySem.W.findIn K (.ref (He.ga K x)) "__setattr__") (some (some (.builtin "object.__setattr__"))) && (He.eqO (PySem.W.findIn K (.ref (He.ga K x)) "__init__") (some (some (.ref (p K)))) && (decide (PySem.W.typeIn K (.ref (p K)) = some (.type "function")) && tyB K (He.ga K x)))))))
end Dn
namespace Dn
open PySem
section
variable {h : Hep} {s : Sl} {t j i c : Nat} {fs : List (Nat × AV)} {v : AV} {f : DE} {fb : DS} {T : XT} {hs : Hds} {n : String}
end
end Dn
namespace Dn
open PySem PySem.Spec PyProof.Rows L2

section
variable {W : Wd} {M : Md W} {E : WX} {X : Cx} {o e f : Expr} {fo fk fx : DE} {pos apos cpos : Pos}
end
end Dn
namespace Dn
open PySem PySem.Spec PyProof.Rows L2

structure Ext0 (W : Wd) (H H' : Hp) : Prop where
  tup : ∀ a xs, SqT W.K H a xs → SqT W.K H' a xs
  rol : ∀ a xs, RoL W.K H a xs → RoL W.K H' a xs
  tab : LamX.Tabs W.T H → LamX.Tabs W.T H'
section
variable {W : Wd} {io : List Addr} {H H' : Hp}
mutual
theorem RV.mono0 (e : Ext0 W H H') : ∀ {x : AV} {v : V}, RV W io H x v → RV W io H' x v
  | _, _, .non => .non
  | _, _, .bl b => .bl b
  | _, _, .int i => .int i
  | _, _, .str x => .str x
  | _, _, .tup h r => .tup (e.tup _ _ h) (RVs.mono0 e r)
  | _, _, .rol h r => .rol (e.rol _ _ h) (RVs.mono0 e r)
  | _, _, .ref h => .ref h
  | _, _, .adr a => .adr a
  | _, _, .ty n => .ty n
  | _, _, .cls t => .cls t
theorem RVs.mono0 (e : Ext0 W H H') : ∀ {xs : List AV} {vs : List V}, RVs W io H xs vs → RVs W io H' xs vs
  | _, _, .nil => .nil
  | _, _, .cons r q => .cons (RV.mono0 e r) (RVs.mono0 e q)
end
theorem RKs.mono0 {k : Type} (e : Ext0 W H H') : ∀ {xs : List (k × AV)} {vs : List (k × V)}, RKs W io H xs vs → RKs W io H' xs vs
  | _, _, .nil => .nil
  | _, _, .cons r q => .cons (RV.mono0 e r) (RKs.mono0 e q)
theorem RFs.mono0 (e : Ext0 W H H') : ∀ {xs : List (Nat × AV)} {vs : List (Str × V)}, RFs W io H xs vs → RFs W io H' xs vs
  | _, _, .nil => .nil
  | _, _, .cons f r q => .cons f (RV.mono0 e r) (RFs.mono0 e q)
theorem RO.mono0 (e : Ext0 W H H') {o : AO} {u : HO} (h : RO W io H o u) : RO W io H' o u := by
  induction h with
  | lst r => exact .lst (r.mono0 e)
  | dK r => exact .dK (r.mono0 e)
  | dT r => exact .dT (r.mono0 e)
  | ins k r => exact .ins k (r.mono0 e)
  | frz _ ih => exact .frz ih
variable {p : Addr} {od : Obj} {vs : List (Key × V)} {o : HO}
end
section
variable {W : Wd} {M : Md W} {E : WX} {X : Cx} {e : Expr} {fd f : DE}
end

section
variable {W : Wd} {io : List Addr} {H : Hp} {n : Nat} {p : Addr} {od : Obj} {vs : List (Key × V)}
theorem RKs.at_ {k : Type} {io : List Addr} {H : Hp} : ∀ {xs : List (k × AV)} {vs : List (k × V)} {i : Nat} {q : k} {a : AV}, RKs W io H xs vs → xs[i]? = some (q, a) → ∃ v, vs[i]? = some (q, v) ∧ RV W io H a v
  | _, _, _, _, _, .nil, h => by cases h
  | _, _, 0, _, _, .cons r t, h => by
    cases h
    exact ⟨_, rfl, r⟩
  | _, _, i + 1, q, a, .cons r t, h => by
    obtain ⟨v, e1, e2⟩ := RKs.at_ (i := i) t h
    exact ⟨v, e1, e2⟩
end
section
variable {W : Wd} {M : Md W} {E : WX} {X : Cx} {tg e : Expr} {f : DE} {apos cpos : Pos}
end
end Dn
namespace Dn
open PySem PySem.Spec PyProof.Rows L2

section
variable {W : Wd} {M : Md W} {E : WX} {X : Cx} {pos : Pos}
end

section
variable {W : Wd} {M : Md W} {E : WX} {X : Cx}
end

section
variable {W : Wd} {X : Cx}
end

section
variable {W : Wd} {X : Cx}
end
end Dn
namespace Dn
open PySem PySem.Spec PyProof.Rows L2

abbrev DGH := AV → Sl → Hep → SR
abbrev DGHs := List AV → Sl → Hep → SR
def hN (i : Nat) : DGH := fun v s h => .nx (s.set i (some v)) h
def h0 : DGHs := fun xs s h => match xs with
  | [] => .nx s h
  | _ => .stuck
def Pnx (W : Wd) (M : Md W) (Q : L2.St → Hp → Prop) (io : List Addr) (H : Hp) : SR → Prop
  | .nx s hp => ∀ io' H' σ', Ext W io H io' H' → Rl W io' hp H' → M.rel io' H' s σ' → Q σ' H'
  | _ => False
section
variable {W : Wd} {M : Md W} {E : WX} {X : Cx}
theorem Pnx.later {Q : L2.St → Hp → Prop} {io io1 : List Addr} {H H1 : Hp} {r : SR} (h : Pnx W M Q io H r) (e : Ext W io H io1 H1) : Pnx W M Q io1 H1 r := by
  cases r with
  | nx s hp => exact fun io' H' σ' e' => h io' H' σ' (e.trans e')
  | _ => exact h
end

section
variable {W : Wd} {M : Md W} {E : WX} {X : Cx}
end
end Dn
namespace PySem
open Sem (wp)
section
variable {prog : Program} {w : World} {A : Around} {E : Value → Shared → Prop} {s : Shared}
end
end PySem
namespace Dn
open PySem PySem.Spec PyProof.Rows L2

section
variable {W : Wd} {io : List Addr} {H : Hp} {n : Nat} {p : Addr} {od : Obj} {vs : List (Key × V)}
end
section
variable {W : Wd} {M : Md W} {E : WX} {X : Cx} {e : Expr} {f : DE} {p pos tpos : Pos} {elts : List Expr} {kk : Nat}
end
end Dn
namespace Dn
open PySem PySem.Spec PyProof.Rows L2

section
variable {W : Wd} {M : Md W} {E : WX} {X : Cx} {io : List Addr} {H H' : Hp} {hp : Hep}
end
end Dn
namespace Dn
open PySem L2
end Dn
namespace Dn
open PySem PySem.Spec PyProof.Rows L2

section
variable {W : Wd} {M : Md W} {E : WX} {X : Cx} {c a b : Expr} {ft fa fb : DT} {pos : Pos}
end
end Dn
namespace Dn
open PySem PySem.SeqAt
open AutoSeq1 (wpAny_loadPart')
open MeetsSeq MeetsSeq2 MeetsSeq3 SeqRoads2
section
variable {prog : Program} {w : World}
end
end Dn
namespace Dn
open PySem PySem.Spec PyProof.Rows L2
section
variable {W : Wd} {X : Cx}
end
end Dn
namespace Dn
open PySem PySem.Spec PyProof.Rows L2
section
variable {prog : Program} {w : World} {A : Around} {E : Value → Shared → Prop} {s : Shared}
end
section
variable {X : Cx} {pos : Pos}
end
section
variable {W : Wd} {M : Md W} {E : WX} {X : Cx}
end
section
variable {W : Wd} {M : Md W} {E : WX} {X : Cx} {tg iter : Expr} {body : List Stmt} {f : DI} {g : DGH} {fb : DS} {pos : Pos}
end
end Dn
namespace Dn
open PySem PySem.Spec PyProof.Rows L2
section
variable {P : Program} {w : World} {mg : Str → Option Value} {base : Heap} {W : Wd} {k n : Nat} {x : Str} {ps : List Str} {F : DF} {bs : Bs}
end
end Dn
namespace Dn
open PySem PySem.Spec PyProof.Rows L2
structure ClsAt (K : PySem.W.Frag) (C : Addr) (m : Str) (f : Addr) : Prop where
  rd : PySem.W.readsIn K C (.type "type") = true
  ga : PySem.W.specialIn K (.ref C) "__getattribute__" = some (some (.builtin "type.__getattribute__"))
  at_ : PySem.W.findCls K (.ref C) (.type "type") m = some (.val (.ref f))
  kp : PySem.W.keepIn K (.ref f) = true
section
variable {P : Program} {w : World} {mg : Str → Option Value} {base : Heap} {W : Wd} {k n t : Nat} {f : Addr} {fd : FuncData} {ps : List Str} {F : DF} {x : Str} {bs : Bs}
end
section
variable {W : Wd} {M : Md W} {E : WX} {X : Cx} {k j n m q t : Nat} {ps ks : List Str} {F : DF} {x c : Str} {p pos apos kpos : Pos} {e : Expr} {es : List Expr} {kws : List Keyword} {fa fk : DA} {ix : List Nat} {dfl : List AV} {bs : Bs}
end
end Dn
namespace Dn
open PySem PySem.Spec PyProof.Rows L2
end Dn
namespace Dn
open PySem PySem.Spec PyProof.Rows L2
section
variable {W : Wd} {X : Cx}
end
end Dn
namespace Dn
open PySem PySem.Spec PyProof.Rows L2
section
variable {prog : Program} {w : World} {A : Around} {E : Value → Shared → Prop} {s : Shared} {K : PySem.W.Frag} {x y C C2 : Addr} {ox oy : Obj} {od od2 : Option Obj}
end
section
variable {W : Wd} {M : Md W} {E : WX} {X : Cx} {k j n q t : Nat} {ps : List Str} {F : DF} {ct : CT}
end
section
variable {P : Program} {w : World} {mg : Str → Option Value} {base : Heap} {W : Wd} {x qual : Str} {params : Arguments} {body : List Stmt} {scope : Scope} {f : Addr} {fd : FuncData}
end
section
variable {W : Wd} {M : Md W} {E : WX} {X : Cx} {k j n m t : Nat} {ks : List Str} {F : DF} {x : Str} {p pos : Pos} {e : Expr} {es : List Expr} {fa : DA} {f : Addr}
end
end Dn
namespace Dn
open PySem PySem.Spec PyProof.Rows L2
section
variable {W : Wd} {M : Md W} {E : WX} {X : Cx} {o e f : Expr} {fo fk fx : DE} {pos apos cpos : Pos}
end
section
variable {W : Wd} {M : Md W} {E : WX} {X : Cx} {k j n m t : Nat} {F : DF} {x : Str} {p pos p2 : Pos} {e e2 : Expr} {es : List Expr} {fa : DA} {f : Addr}
end
section
variable {W : Wd} {X : Cx}
end
end Dn
namespace Dn
open PySem PySem.Spec PyProof.Rows L2
section
variable {W : Wd} {M : Md W} {E : WX} {X : Cx} {a b : Expr} {es : List Expr} {f g : DE} {pos : Pos}
end
end Dn
namespace Dn
open PySem PySem.Spec PyProof.Rows L2
section
variable {W : Wd} {M : Md W} {E : WX} {X : Cx} {k j n m t : Nat} {F : DF} {x : Str} {p pos p2 p3 : Pos} {e e2 : Expr} {es : List Expr} {fa : DA} {f : Addr} {fe : DE}
open PySem.Calls in
end
end Dn
namespace Dn
open PySem PySem.Spec PyProof.Rows L2

section
variable {W : Wd} {M : Md W} {E : WX} {X : Cx} {st : Stmt} {fd : DE} {f : DS}
end
end Dn
namespace Dn
open PySem PySem.Spec PyProof.Rows L2

section
variable {W : Wd} {X : Cx}
end

end Dn
namespace Dn
open PySem PySem.Spec PyProof.Rows L2

section
variable {M : Model} {A : Around} {E : Value → Shared → Prop} {s : Shared} {K : PySem.W.Frag} {x C L f : Addr} {h₀ : Heap} {m : Str → Option Value} {ox : Obj} {od : Option Obj} {Q : Value → Shared → Prop}
end
section
variable {W : Wd} {M : Md W} {E : WX} {X : Cx} {k j t : Nat} {ps : List Str} {F : DF} {pos : Pos} {o : Expr} {fo : DE}
end
end Dn
namespace Dn
open PySem PySem.Spec PyProof.Rows L2

section
variable {W : Wd} {M : Md W} {E : WX} {X : Cx} {pos : Pos}
inductive PDs (W : Wd) (M : Md W) (E : WX) (X : Cx) : List (Option Expr) → List Expr → List (DE × DE) → Prop
  | nil : PDs W M E X [] [] []
  | cons {k v : Expr} {ks : List (Option Expr)} {vs : List Expr} {fk fv : DE} {l : List (DE × DE)} : PE X k (tD W M E fk) → PE X v (tD W M E fv) → PDs W M E X ks vs l → PDs W M E X (some k :: ks) (v :: vs) ((fk, fv) :: l)
end
end Dn
namespace Dn
open PySem
end Dn
namespace Dn
open PySem PySem.Spec PyProof.Rows L2

section
variable {W : Wd} {M : Md W} {E : WX} {X : Cx} {k : Nat}
end
end Dn
namespace Dn
open PySem PySem.Spec PyProof.Rows L2
section
variable {W : Wd} {X : Cx}
end
end Dn
namespace Dn
open PySem PySem.Spec PyProof.Rows L2
section
variable {X : Cx} {W : Wd} {M : Md W} {E : WX} {j k t : Nat} {x : Str} {ps : List Str} {F : DF}
end
end Dn
namespace Dn
open PySem PySem.Spec PyProof.Rows L2
section
variable {W : Wd} {M : Md W} {E : WX} {X : Cx}
end
end Dn
namespace Dn
open PySem PySem.Spec PyProof.Rows L2
/-- a def's promise where nothing is being shown -/
def FnG (P : Program) (w : World) (K : PySem.W.Frag) (mg : Str → Option Value) (base : Heap) (CX : CXT) (k : Nat) (f : Addr) (fd : FuncData) (ps : List Str) (sp : Sp) : Prop :=
  (∀ vs H Q E, sp vs H Q E → vs.length = ps.length) ∧
    ∀ (A : Around) (outer : List Env) (s : Shared) (H : Hp) (args : Args) (us : List Value) (vs : List V) (Q : VK) (E : XK), A.guards = some [] → Room k A → Env0 P w K mg base A outer s H → BindsTo s fd args (ps.zip us) → Vals vs us →
      sp vs H Q E → codeAny (model P w) A (.call (.ref f) args) (CR CX outer P w H s Q E) s
theorem FnG.imp {P : Program} {w : World} {K : PySem.W.Frag} {mg : Str → Option Value} {base : Heap} {CX : CXT} {k : Nat} {f : Addr} {fd : FuncData} {ps : List Str} {sp sp' : Sp} (F : FnG P w K mg base CX k f fd ps sp)
    (h : ∀ vs H Q E, sp' vs H Q E → sp vs H Q E) : FnG P w K mg base CX k f fd ps sp' :=
  ⟨fun vs H Q E q => F.1 _ _ _ _ (h _ _ _ _ q), fun A outer s H args us vs Q E hg hr he hb hv hs => F.2 A outer s H args us vs Q E hg hr he hb hv (h _ _ _ _ hs)⟩
section
variable {P : Program} {w : World} {mg : Str → Option Value} {base : Heap} {W : Wd} {x qual : Str} {params : Arguments} {body : List Stmt} {scope : Scope} {dvs : List V} {kws : List (Str × V)} {f : Addr} {fd : FuncData}
end
section
variable {W : Wd} {M : Md W} {E : WX} {X : Cx} {k j n m q : Nat} {f : Addr} {fd : FuncData} {ps ks : List Str} {F : DF} {x : Str} {p pos : Pos} {e : Expr} {es : List Expr} {kws : List Keyword} {fa fk : DA} {ix : List Nat} {dfl : List AV} {bs : Bs}
def HasG (P : Program) (w : World) (mg : Str → Option Value) (base : Heap) (W : Wd) (k : Nat) (x : Str) (ps : List Str) (n : Nat) (F : DF) (bs : Bs) : Prop :=
  ∃ (a : Addr) (fd : FuncData), mg x = some (.ref a) ∧ PySem.W.keepIn W.K (.ref a) = true ∧ FnG P w W.K mg base (L2.CX P w) k a fd ps (spD W n F) ∧ ∀ b ∈ bs, BnD W fd ps b.1 b.2.1 b.2.2.1 b.2.2.2
end
/-- a def, with the ways it is called -/
def FnBG (P : Program) (w : World) (mg : Str → Option Value) (base : Heap) (W : Wd) (k : Nat) (f : Addr) (fd : FuncData) (ps : List Str) (n : Nat) (F : DF) (bs : Bs) : Prop :=
  PySem.W.keepIn W.K (.ref f) = true ∧ FnG P w W.K mg base (L2.CX P w) k f fd ps (spD W n F) ∧ ∀ b ∈ bs, BnD W fd ps b.1 b.2.1 b.2.2.1 b.2.2.2
theorem FnBG.has {P : Program} {w : World} {mg : Str → Option Value} {base : Heap} {W : Wd} {k : Nat} {f : Addr} {fd : FuncData} {ps : List Str} {n : Nat} {F : DF} {bs : Bs} {x : Str} (B : FnBG P w mg base W k f fd ps n F bs) (h : mg x = some (.ref f)) : HasG P w mg base W k x ps n F bs := ⟨f, fd, h, B.1, B.2.1, B.2.2⟩

end Dn
namespace Dn
open PySem PySem.Spec PyProof.Rows L2
section
variable {W : Wd} {M : Md W} {E : WX} {X : Cx} {e : Expr} {es : List Expr} {f : DE} {fa : DA}
end
end Dn
namespace Dn
open PySem PySem.Spec PyProof.Rows L2
section
variable {X : Cx} {e o : Expr} {te td ty : TE} {p apos cpos pos : Pos}
end
section
variable {W : Wd} {M : Md W} {E : WX} {X : Cx} {o e : Expr} {fo fe : DE} {p apos cpos pos : Pos}
end
end Dn
namespace Dn
open PySem PySem.Spec PyProof.Rows L2
section
variable {W : Wd} {M : Md W} {E : WX} {X : Cx} {tg : Expr}
end
end Dn
namespace Dn
open PySem PySem.Spec PyProof.Rows L2

section
variable {X : Cx} {pins : List (Addr × Obj)} {σ : L2.St} {H HZ : Hp} {s s1 : Shared} {W : Wd}
open LamX
end
section
variable {X : Cx} {W : Wd} {M : Md W} {E : WX}
open LamX
end
end Dn
namespace Dn
open PySem PySem.Spec PyProof.Rows L2
/-- the slots of an except suite, over B -/
def exG {W : Wd} (B : Md W) (i t : Nat) (fs : List (Nat × AV)) (a : Addr) (d : Option Addr) : Md W where
  rel := fun io H as σ => (as.length = σ.length ∧ σ[i]? = some (some (.ref a)) ∧ as[i]? = some (some (.exn t fs))) ∧ B.rel io H (as.set i none) (σ.set i none) ∧ RXf W io H fs d
  mono := fun e h => ⟨h.1, B.mono e h.2.1, h.2.2.mono e⟩
  var := fun {io H as σ j v} h q hn => by
    by_cases hj : j = i
    · subst hj
      rw [h.1.2.2] at q
      cases q
      exact absurd rfl (hn t fs)
    · obtain ⟨x, e, r⟩ := B.var h.2.1 (by rw [List.getElem?_set_ne (Ne.symm hj)]; exact q) hn
      rw [List.getElem?_set_ne (Ne.symm hj)] at e
      exact ⟨x, e, r⟩
  ok := fun j => j ≠ i ∧ B.ok j
  set := fun {io H as σ j v x} h r hj => ⟨⟨by simp [h.1.1], by rw [List.getElem?_set_ne hj.1]; exact h.1.2.1, by rw [List.getElem?_set_ne hj.1]; exact h.1.2.2⟩, by
    rw [List.set_comm _ _ hj.1, List.set_comm _ _ hj.1]
    exact B.set h.2.1 r hj.2, h.2.2⟩
  wipe := fun {io H as σ j} h hj => ⟨⟨by simp [h.1.1], by rw [List.getElem?_set_ne hj.1]; exact h.1.2.1, by rw [List.getElem?_set_ne hj.1]; exact h.1.2.2⟩, by
    rw [List.set_comm _ _ hj.1, List.set_comm _ _ hj.1]
    exact B.wipe h.2.1 hj.2, h.2.2⟩
section
variable {W : Wd} {B : Md W} {X : Cx} {T : XT}
/-- the clauses, read -/
inductive HdG {W : Wd} (B : Md W) (X : Cx) (T : XT) : List ExceptHandler → Hds → Prop
  | nil : HdG B X T [] []
  | only {x : Str} {c : Nat} {f : DS} {b₀ : Stmt} {suite : List Stmt} {np pos : Pos} {hds : List ExceptHandler} {hs : Hds} (hc : Names X x (.ref (W.cl c))) (h1 : T.n ≤ c) (h2 : c < T.m)
      (hsu : ∀ (a : Addr) (oe : Obj) (pn : List (Addr × Obj)), PSs (X.suite a ((a, oe) :: pn)) (b₀ :: suite) (tS W B E0x f)) (r : HdG B X T hds hs) :
      HdG B X T (.ExceptHandler (some (.Name x np)) none (b₀ :: suite) pos :: hds) ((c, none, f) :: hs)
  | as {x n : Str} {i c : Nat} {f : DS} {b₀ : Stmt} {suite : List Stmt} {np pos : Pos} {hds : List ExceptHandler} {hs : Hds} (hc : Names X x (.ref (W.cl c))) (h1 : T.n ≤ c) (h2 : c < T.m) (hB : B.ok i) (hN : X.N.Nodup) (hi : X.N[i]? = some n) (hl : X.env.kindOf n = some .local)
      (hsu : ∀ (a : Addr) (oe : Obj) (pn : List (Addr × Obj)) (t : Nat) (fs : List (Nat × AV)) (d : Option Addr), T.n ≤ t → t < T.m → Zc (.ref (W.cl t)) d oe → (∃ vs, oe.data = .fields vs) → PSs (X.suite a ((a, oe) :: pn)) (b₀ :: suite) (tS W (exG B i t fs a d) E0x f)) (r : HdG B X T hds hs) :
      HdG B X T (.ExceptHandler (some (.Name x np)) (some n) (b₀ :: suite) pos :: hds) ((c, some i, f) :: hs)
end
section
variable {W : Wd} {B : Md W} {X : Cx} {T : XT} {E : WX} {a : Addr} {oe : Obj} {pn : List (Addr × Obj)} {i j t : Nat} {fs : List (Nat × AV)} {d : Option Addr} {x nm : Str} {p pos : Pos}
def xoB (cs : List Str) (T : XT) (c : Nat) (K : PySem.W.Frag) : Bool := allN (T.m - T.n) fun i => decide (PySem.W.kitOne K (.ref (clOf K cs (T.n + i))) (.ref (clOf K cs c)) = some (T.sub (T.n + i) c))
end
end Dn
namespace Dn
open PySem PySem.Spec PyProof.Rows L2
/-- the code object of a def -/
def codF (K : PySem.W.Frag) (f : Addr) : Addr := match K.lookup f with
  | some ⟨_, _, .func fd, _⟩ => (match fd.code with
    | .ref c => c
    | _ => 0)
  | _ => 0
/-- the table of a code object -/
def tabF (K : PySem.W.Frag) (c : Addr) : Addr := match K.lookup c with
  | some ⟨_, _, .fields vs, _⟩ => (match (vs[11]? : Option Value) with
    | some (.ref P) => P
    | _ => 0)
  | _ => 0
def isFdB (K : PySem.W.Frag) (f : Addr) : Bool := match K.lookup f with
  | some ⟨_, _, .func fd, _⟩ => (match fd.code with
    | .ref _ => true
    | _ => false)
  | _ => false
def isCodeB (o : Option Obj) : Bool := match o with
  | some ⟨.type "code", _, .fields vs, _⟩ => (match (vs[11]? : Option Value) with
    | some (.ref _) => (match vs.getD 18 .none, vs.getD 7 .none, vs.getD 9 .none, vs.getD 10 .none with
      | .str _ _, .int _ _, .bool _, .int _ _ => true
      | _, _, _, _ => false)
    | _ => false)
  | _ => false
def isNilB (o : Option Obj) : Bool := match o with
  | some ⟨.none, none, .fields ⟨[]⟩, ⟨[]⟩⟩ => true
  | _ => false
def lamB (g : Addr → Option Obj) (K : PySem.W.Frag) (f : Addr) : Bool :=
  isFdB K f && (isCodeB (K.lookup (codF K f)) && (isNilB (g (tabF K (codF K f))) && ((K.lookup (tabF K (codF K f))).isNone && decide (codF K f ≠ tabF K (codF K f)))))
/-- a def that makes lambdas: its code object and its table, which is empty -/
structure LamAt (K : PySem.W.Frag) (h : Heap) (f : Addr) : Prop where
  fd : ∃ oc od fd osl, K.lookup f = some ⟨oc, od, .func fd, osl⟩ ∧ fd.code = .ref (codF K f)
  cd : PySem.W.CodeHd h (codF K f) (tabF K (codF K f))
  tb : h.get? (tabF K (codF K f)) = some { cls := .none, data := .fields #[] }
  nt : K.lookup (tabF K (codF K f)) = none
theorem isNil_ok {o : Option Obj} (h : isNilB o = true) : o = some { cls := .none, data := .fields #[] } := by
  unfold isNilB at h
  split at h
  · rfl
  · cases h
theorem isFd_ok {K : PySem.W.Frag} {f : Addr} (h : isFdB K f = true) : ∃ oc od fd osl, K.lookup f = some ⟨oc, od, .func fd, osl⟩ ∧ fd.code = .ref (codF K f) := by
  unfold isFdB at h
  unfold codF
  split at h
  · rename_i oc od fd osl e
    rw [e]
    refine ⟨oc, od, fd, osl, rfl, ?_⟩
    split at h
    · rename_i c e2
      simp only [e2]
    · cases h
  · cases h
theorem code_ok {K : PySem.W.Frag} {h : Heap} {c : Addr} (X : K.In h) (b : isCodeB (K.lookup c) = true) (n : c ≠ tabF K c) : PySem.W.CodeHd h c (tabF K c) := by
  cases e : K.lookup c with
  | none =>
    rw [e] at b
    cases b
  | some o =>
    rw [e] at b
    have ho := X c o e
    have et : tabF K c = match (some o : Option Obj) with
      | some ⟨_, _, .fields vs, _⟩ => (match (vs[11]? : Option Value) with
        | some (.ref P) => P
        | _ => 0)
      | _ => 0 := by
      unfold tabF
      rw [e]
    unfold isCodeB at b
    split at b
    · rename_i od vs osl eo
      cases eo
      split at b
      · rename_i P e11
        have eP : tabF K c = P := by
          rw [et]
          simp only [e11]
        rw [eP] at n ⊢
        split at b
        · rename_i a1 a2 a3 a4 a5 a6 a7 e18 e7 e9 e10
          refine ⟨_, vs, _, _, _, _, _, _, _, ho, rfl, rfl, e11, ?_, e18, e7, e9, e10, n⟩
          rw [Array.getD_eq_getD_getElem?, e11]
          rfl
        · cases b
      · cases b
    · cases b
theorem lamB_ok {K : PySem.W.Frag} {h : Heap} {f : Addr} (X : K.In h) (b : lamB h.get? K f = true) : LamAt K h f := by
  unfold lamB at b
  obtain ⟨b1, b⟩ := He.ba b
  obtain ⟨b2, b⟩ := He.ba b
  obtain ⟨b3, b⟩ := He.ba b
  obtain ⟨b4, b5⟩ := He.ba b
  exact ⟨isFd_ok b1, code_ok X b2 (of_decide_eq_true b5), isNil_ok b3, Option.isNone_iff_eq_none.mp b4⟩
theorem LamAt.keeps {K : PySem.W.Frag} {h h' : Heap} {f : Addr} (l : LamAt K h f) (k : ∀ b o, h.get? b = some o → h'.get? b = some o) : LamAt K h' f := ⟨l.fd, l.cd.keeps k, k _ _ l.tb, l.nt⟩
def obsT (as : List Addr) (fa : List He.Fa) (fn : List DefF) (xt : List (PySem.W.Frag → Bool)) (ls : List Pth) (g : Addr → Option Obj) : AlF × Bool := (obsF fa fn xt (He.frG g as), ls.all fun l => lamB g (He.frG g as) (l (He.frG g as)))
def hookT (as : List Addr) (fa : List He.Fa) (fn : List DefF) (xt : List (PySem.W.Frag → Bool)) (ls : List Pth) : PySem.W.Hook where
  α := AlF × Bool
  obs := fun s => obsT as fa fn xt ls s.heap.get?
  val := fun _ => (valF fn, true)
  says := fun _ h => ∃ K : PySem.W.Frag, K.In h ∧ SaysF fa fn xt K ∧ ∀ l ∈ ls, LamAt K h (l K)
  of := fun _ s e => ⟨_, He.frG_in, congrArg (fun z : AlF × Bool => z.1) e, fun l hl => lamB_ok He.frG_in (List.all_eq_true.mp (congrArg (fun z : AlF × Bool => z.2) e) l hl)⟩
  keeps := fun _ _ _ ⟨K, hK, c, l⟩ k => ⟨K, PySem.W.Frag.In.keeps hK k, c, fun p hp => (l p hp).keeps k⟩
theorem obsT_eq {as : List Addr} {fa : List He.Fa} {fn : List DefF} {xt : List (PySem.W.Frag → Bool)} {ls : List Pth} {g : Addr → Option Obj} {s : Shared} (h : ∀ a, g a = s.heap.get? a) : obsT as fa fn xt ls g = (hookT as fa fn xt ls).obs s := by
  have e : g = s.heap.get? := funext h
  rw [e] <;> rfl
end Dn
namespace Q
open PySem Dn
def subs0 (s t : Nat) : Bool := (s == 0 && t == 0)
def cs0 : List Str := ["Table"]
def fn0 : List Str := ["held", "places", "first_place", "next_place", "given"]
abbrev ct0 : CT := ctOf cs0.length subs0
def xs0 : List Str := ["BadItem", "BadPairs", "NoKey", "Empty", "CountError"]
def xt0 : XT := ⟨1, 6, fun s t => (s == 1 && t == 1) || (s == 1 && t == 5) || (s == 2 && t == 2) || (s == 2 && t == 5) || (s == 3 && t == 3) || (s == 4 && t == 4) || (s == 5 && t == 5), [(1, "IndexError", false), (1, "KeyError", false), (1, "ValueError", true), (2, "IndexError", false), (2, "KeyError", false), (2, "ValueError", true), (3, "IndexError", false), (3, "KeyError", true), (3, "ValueError", false), (4, "IndexError", true), (4, "KeyError", false), (4, "ValueError", false), (5, "IndexError", false), (5, "KeyError", false), (5, "ValueError", true)]⟩
end Q
namespace Q
open PySem PySem.Spec PyProof.Rows L2 Dn
set_option maxHeartbeats 0
def top (i : Nat) : Stmt := PySem.Challenge.pw_dequecounts_k52_tables_refuse.main.body.getD i (.Pass ⟨0, 0, 0, 0⟩)
def d__law_source : DefF := ⟨(pDef "_law_source"), "_law_source", "_law_source", defArgs (top 19), defBody (top 19), defScope (top 19), [], []⟩
def d_Table_is_plain : DefF := ⟨(pMeth "Table" "is_plain"), "is_plain", "Table.is_plain", defArgs (clsStmt (top 17) 9), defBody (clsStmt (top 17) 9), defScope (clsStmt (top 17) 9), [], []⟩
def d_Table_ordered : DefF := ⟨(pMeth "Table" "ordered"), "ordered", "Table.ordered", defArgs (clsStmt (top 17) 12), defBody (clsStmt (top 17) 12), defScope (clsStmt (top 17) 12), [], []⟩
def d_Table_pairs : DefF := ⟨(pMeth "Table" "pairs"), "pairs", "Table.pairs", defArgs (clsStmt (top 17) 23), defBody (clsStmt (top 17) 23), defScope (clsStmt (top 17) 23), [], []⟩
def d_is_word : DefF := ⟨(pDef "is_word"), "is_word", "is_word", defArgs (top 11), defBody (top 11), defScope (top 11), [], []⟩
def d_is_integer : DefF := ⟨(pDef "is_integer"), "is_integer", "is_integer", defArgs (top 10), defBody (top 10), defScope (top 10), [], []⟩
def d_is_short : DefF := ⟨(pDef "is_short"), "is_short", "is_short", defArgs (top 12), defBody (top 12), defScope (top 12), [], []⟩
def d_is_item : DefF := ⟨(pDef "is_item"), "is_item", "is_item", defArgs (top 13), defBody (top 13), defScope (top 13), [], []⟩
def d_are_pairs : DefF := ⟨(pDef "are_pairs"), "are_pairs", "are_pairs", defArgs (top 15), defBody (top 15), defScope (top 15), [], []⟩
def d_pairs_of : DefF := ⟨(pDef "pairs_of"), "pairs_of", "pairs_of", defArgs (top 16), defBody (top 16), defScope (top 16), [], []⟩
def d_Table_xinit : DefF := ⟨(pMeth "Table" "__init__"), "__init__", "Table.__init__", defArgs (clsStmt (top 17) 0), defBody (clsStmt (top 17) 0), defScope (clsStmt (top 17) 0), [.adr (He.dflAt ("Table", some "__init__") 0)], []⟩
def d__law_draw : DefF := ⟨(pDef "_law_draw"), "_law_draw", "_law_draw", defArgs (top 20), defBody (top 20), defScope (top 20), [], []⟩
def d__law_item : DefF := ⟨(pDef "_law_item"), "_law_item", "_law_item", defArgs (top 21), defBody (top 21), defScope (top 21), [], []⟩
def d__law_pairs : DefF := ⟨(pDef "_law_pairs"), "_law_pairs", "_law_pairs", defArgs (top 22), defBody (top 22), defScope (top 22), [], []⟩
def d__law_odd : DefF := ⟨(pDef "_law_odd"), "_law_odd", "_law_odd", defArgs (top 23), defBody (top 23), defScope (top 23), [], []⟩
def d__law_error : DefF := ⟨(pDef "_law_error"), "_law_error", "_law_error", defArgs (top 24), defBody (top 24), defScope (top 24), [], []⟩
def d_Table_enter : DefF := ⟨(pMeth "Table" "enter"), "enter", "Table.enter", defArgs (clsStmt (top 17) 10), defBody (clsStmt (top 17) 10), defScope (clsStmt (top 17) 10), [], []⟩
def d_Table_put : DefF := ⟨(pMeth "Table" "put"), "put", "Table.put", defArgs (clsStmt (top 17) 13), defBody (clsStmt (top 17) 13), defScope (clsStmt (top 17) 13), [], []⟩
def d_Table_xsetitem : DefF := ⟨(pMeth "Table" "__setitem__"), "__setitem__", "Table.__setitem__", defArgs (clsStmt (top 17) 4), defBody (clsStmt (top 17) 4), defScope (clsStmt (top 17) 4), [], []⟩
def d__law_store : DefF := ⟨(pDef "_law_store"), "_law_store", "_law_store", defArgs (top 25), defBody (top 25), defScope (top 25), [], []⟩
def d__law_items_right : DefF := ⟨(pDef "_law_items_right"), "_law_items_right", "_law_items_right", defArgs (top 26), defBody (top 26), defScope (top 26), [], []⟩
def d_Table_xcontains : DefF := ⟨(pMeth "Table" "__contains__"), "__contains__", "Table.__contains__", defArgs (clsStmt (top 17) 2), defBody (clsStmt (top 17) 2), defScope (clsStmt (top 17) 2), [], []⟩
def d_Table_get : DefF := ⟨(pMeth "Table" "get"), "get", "Table.get", defArgs (clsStmt (top 17) 14), defBody (clsStmt (top 17) 14), defScope (clsStmt (top 17) 14), [.non], []⟩
def d_Table_xgetitem : DefF := ⟨(pMeth "Table" "__getitem__"), "__getitem__", "Table.__getitem__", defArgs (clsStmt (top 17) 3), defBody (clsStmt (top 17) 3), defScope (clsStmt (top 17) 3), [], []⟩
def d_Table_drop : DefF := ⟨(pMeth "Table" "drop"), "drop", "Table.drop", defArgs (clsStmt (top 17) 11), defBody (clsStmt (top 17) 11), defScope (clsStmt (top 17) 11), [], []⟩
def d_Table_delete : DefF := ⟨(pMeth "Table" "delete"), "delete", "Table.delete", defArgs (clsStmt (top 17) 15), defBody (clsStmt (top 17) 15), defScope (clsStmt (top 17) 15), [], []⟩
def d__law_keys_right : DefF := ⟨(pDef "_law_keys_right"), "_law_keys_right", "_law_keys_right", defArgs (top 27), defBody (top 27), defScope (top 27), [], []⟩
def d_Table_to_end : DefF := ⟨(pMeth "Table" "to_end"), "to_end", "Table.to_end", defArgs (clsStmt (top 17) 19), defBody (clsStmt (top 17) 19), defScope (clsStmt (top 17) 19), [], [("last", .bl true)]⟩
def d__law_ends_right : DefF := ⟨(pDef "_law_ends_right"), "_law_ends_right", "_law_ends_right", defArgs (top 28), defBody (top 28), defScope (top 28), [], []⟩
def d_Table_update : DefF := ⟨(pMeth "Table" "update"), "update", "Table.update", defArgs (clsStmt (top 17) 20), defBody (clsStmt (top 17) 20), defScope (clsStmt (top 17) 20), [], []⟩
def d__law_pairs_right : DefF := ⟨(pDef "_law_pairs_right"), "_law_pairs_right", "_law_pairs_right", defArgs (top 29), defBody (top 29), defScope (top 29), [], []⟩
def d_Table_pop_at : DefF := ⟨(pMeth "Table" "pop_at"), "pop_at", "Table.pop_at", defArgs (clsStmt (top 17) 16), defBody (clsStmt (top 17) 16), defScope (clsStmt (top 17) 16), [], []⟩
def d_Table_pop_last : DefF := ⟨(pMeth "Table" "pop_last"), "pop_last", "Table.pop_last", defArgs (clsStmt (top 17) 17), defBody (clsStmt (top 17) 17), defScope (clsStmt (top 17) 17), [], []⟩
def d_Table_pop_first : DefF := ⟨(pMeth "Table" "pop_first"), "pop_first", "Table.pop_first", defArgs (clsStmt (top 17) 18), defBody (clsStmt (top 17) 18), defScope (clsStmt (top 17) 18), [], []⟩
def d_law : DefF := ⟨(pDef "law"), "law", "law", defArgs (top 30), defBody (top 30), defScope (top 30), [], []⟩
theorem sc_I_BadItem : FnScope ["self", "given"] ["self", "given"] (defScope (clsStmt (top 3) 0)) := ⟨rfl, rfl, rfl, by decide +kernel, rfl, by decide +kernel, by decide +kernel⟩
def d_I_BadItem : DefF := ⟨(pMeth "BadItem" "__init__"), "__init__", "BadItem.__init__", defArgs (clsStmt (top 3) 0), defBody (clsStmt (top 3) 0), defScope (clsStmt (top 3) 0), [], []⟩
theorem sc_I_NoKey : FnScope ["self", "given"] ["self", "given"] (defScope (clsStmt (top 6) 0)) := ⟨rfl, rfl, rfl, by decide +kernel, rfl, by decide +kernel, by decide +kernel⟩
def d_I_NoKey : DefF := ⟨(pMeth "NoKey" "__init__"), "__init__", "NoKey.__init__", defArgs (clsStmt (top 6) 0), defBody (clsStmt (top 6) 0), defScope (clsStmt (top 6) 0), [], []⟩
def fn : List DefF := [d__law_source, d_Table_is_plain, d_Table_ordered, d_Table_pairs, d_is_word, d_is_integer, d_is_short, d_is_item, d_are_pairs, d_pairs_of, d_Table_xinit, d__law_draw, d__law_item, d__law_pairs, d__law_odd, d__law_error, d_Table_enter, d_Table_put, d_Table_xsetitem, d__law_store, d__law_items_right, d_Table_xcontains, d_Table_get, d_Table_xgetitem, d_Table_drop, d_Table_delete, d__law_keys_right, d_Table_to_end, d__law_ends_right, d_Table_update, d__law_pairs_right, d_Table_pop_at, d_Table_pop_last, d_Table_pop_first, d_law, d_I_BadItem, d_I_NoKey]
def fa : List He.Fa := [.glo "law", .glo "BadPairs", .glo "Empty", .glo "BadItem", .glo "NoKey", .free "len", .free "abs", .free "int", .free "sorted", .free "isinstance", .free "str", .int "MOST_LETTERS" 6, .free "all", .str "LETTERS" "abcdefghijklmnopqrstuvwxyz", .free "bool", .glo "is_integer", .glo "is_word", .glo "is_short", .free "list", .free "tuple", .glo "is_item", .glo "Table", .free "dict", .glo "are_pairs", .free "enumerate", .glo "pairs_of", .glo "_law_draw", .free "range", .glo "_law_item", .free "IndexError", .free "KeyError", .free "repr", .glo "CountError", .free "ValueError", .glo "_law_error", .glo "_law_store", .free "max", .free "min", .glo "_law_source", .glo "_law_pairs", .glo "_law_odd", .glo "_law_items_right", .glo "_law_keys_right", .glo "_law_ends_right", .glo "_law_pairs_right"]
def xt : List (PySem.W.Frag → Bool) := [cdB, ckB, wdXB cs0 xs0 fn0 subs0, fun K => decide (([(tabF K (codF K ((pDef "_law_items_right") K)), (("_law_items_right" : Str) ++ (".<locals>." : Str) ++ ("<lambda>" : Str))), (tabF K (codF K ((pDef "_law_keys_right") K)), (("_law_keys_right" : Str) ++ (".<locals>." : Str) ++ ("<lambda>" : Str))), (tabF K (codF K ((pDef "_law_ends_right") K)), (("_law_ends_right" : Str) ++ (".<locals>." : Str) ++ ("<lambda>" : Str))), (tabF K (codF K ((pDef "_law_pairs_right") K)), (("_law_pairs_right" : Str) ++ (".<locals>." : Str) ++ ("<lambda>" : Str))), (tabF K (codF K ((pDef "law") K)), (("law" : Str) ++ (".<locals>." : Str) ++ ("<lambda>" : Str)))].map (·.1)).Nodup), xwB (cs0 ++ xs0) fn0 xt0, x0B "BadPairs" [.type "ValueError", .type "Exception", .type "BaseException", .type "object"] "ValueError.__new__", x0B "Empty" [.type "IndexError", .type "LookupError", .type "Exception", .type "BaseException", .type "object"] "IndexError.__new__", xiB "BadItem" "given" (pMeth "BadItem" "__init__") [.type "ValueError", .type "Exception", .type "BaseException", .type "object"] "ValueError.__new__", xiB "NoKey" "given" (pMeth "NoKey" "__init__") PySem.DX.bmKey "LookupError.__new__", methB "Table" "ordered" (pMeth "Table" "ordered"), methB "Table" "pairs" (pMeth "Table" "pairs"), methB "Table" "is_plain" (pMeth "Table" "is_plain"), etB (He.dflAt ("Table", some "__init__") 0), xoB (cs0 ++ xs0) xt0 5, methB "Table" "enter" (pMeth "Table" "enter"), methB "Table" "put" (pMeth "Table" "put"), methB "Table" "__setitem__" (pMeth "Table" "__setitem__"), methB "Table" "__contains__" (pMeth "Table" "__contains__"), methB "Table" "drop" (pMeth "Table" "drop"), methB "Table" "get" (pMeth "Table" "get"), methB "Table" "__getitem__" (pMeth "Table" "__getitem__"), methB "Table" "delete" (pMeth "Table" "delete"), methB "Table" "to_end" (pMeth "Table" "to_end"), methB "Table" "update" (pMeth "Table" "update"), mkB "Table" (pMeth "Table" "__init__"), methB "Table" "pop_at" (pMeth "Table" "pop_at"), methB "Table" "pop_last" (pMeth "Table" "pop_last"), methB "Table" "pop_first" (pMeth "Table" "pop_first")]
abbrev RR : PySem.W.OpenRow := PySem.W.OpenLaw.row PySem.Challenge.rw_dequecounts_k52_tables_refuse
def ls : List Pth := [(pDef "_law_items_right"), (pDef "_law_keys_right"), (pDef "_law_ends_right"), (pDef "_law_pairs_right"), (pDef "law")]
def as : List Addr := [3, 31, 51, 63, 75, 95, 105, 110, 117, 124, 129, 136, 312, 323, 330, 337, 342, 349, 356, 363, 370, 377, 384, 391, 398, 30, 50, 62, 74, 94, 104, 109, 116, 123, 128, 135, 311, 322, 329, 336, 341, 348, 355, 362, 369, 376, 383, 390, 397, 48, 92, 150, 164, 171, 178, 213, 220, 227, 232, 239, 247, 254, 261, 268, 275, 283, 290, 309, 47, 91, 149, 145, 163, 170, 177, 212, 219, 226, 231, 238, 246, 240, 253, 260, 267, 274, 282, 276, 289, 308, 144]
abbrev hk : PySem.W.Hook := hookT as fa fn xt ls
def ob (s : PySem.W.SharedT) : AlF × Bool := obsT as fa fn xt ls (HandSHeadRun.getT s)
theorem ob_eq (s : PySem.W.SharedT) : ob s = hk.obs s.abs := obsT_eq (HandSHeadRun.getT_eq s)
def nms : List PySem.Str := (["_wall", "CountError", "BadItem", "BadPairs", "Empty", "NoKey", "MOST_LETTERS", "LETTERS", "is_integer", "is_word", "is_short", "is_item", "are_pairs", "pairs_of", "Table", "_law_source", "_law_draw", "_law_item", "_law_pairs", "_law_odd", "_law_error", "_law_store", "_law_items_right", "_law_keys_right", "_law_ends_right", "_law_pairs_right"] : List PySem.Str)
theorem run (w : World) : HandSHeadRun.RunEq RR (PySem.W.view RR.prog [30]) hk ob 80000 nms w := by
  intro os
  kernel_rfl
end Q
namespace Dn
open PySem PySem.Spec PyProof.Rows L2

section
variable {W : Wd} {io io' io'' : List Addr} {H H' H'' : Hp}
theorem RVs.rev : ∀ {xs : List AV} {vs : List V}, RVs W io H xs vs → RVs W io H xs.reverse vs.reverse
  | _, _, .nil => .nil
  | _, _, .cons r t => by
    rw [List.reverse_cons, List.reverse_cons]
    exact RVs.app (RVs.rev t) (.cons r .nil)
theorem RVs.erase : ∀ {xs : List AV} {vs : List V} (n : Nat), RVs W io H xs vs → RVs W io H (xs.eraseIdx n) (vs.eraseIdx n)
  | _, _, _, .nil => .nil
  | _, _, 0, .cons _ t => t
  | _, _, n + 1, .cons r t => .cons r (RVs.erase n t)
theorem RVs.rep {xs : List AV} {vs : List V} (h : RVs W io H xs vs) : ∀ n : Nat, RVs W io H (List.replicate n xs).flatten (List.replicate n vs).flatten
  | 0 => .nil
  | n + 1 => by
    rw [List.replicate_succ, List.replicate_succ, List.flatten_cons, List.flatten_cons]
    exact h.app (RVs.rep h n)
/-- values that are the same in every heap -/
theorem RVs.ints : ∀ ns : List Int, RVs W io H (ns.map .int) (ns.map .int)
  | [] => .nil
  | n :: r => .cons (.int n) (RVs.ints r)
theorem RVs.ints_inv : ∀ {ns : List Int} {vs : List V}, RVs W io H (ns.map .int) vs → vs = ns.map .int
  | [], _, .nil => rfl
  | n :: r, _, .cons (.int _) q => by rw [RVs.ints_inv q]; rfl
theorem RVs.bls_inv : ∀ {ns : List Bool} {vs : List V}, RVs W io H (ns.map .bl) vs → vs = ns.map .bl
  | [], _, .nil => rfl
  | n :: r, _, .cons (.bl _) q => by rw [RVs.bls_inv q]; rfl

/-- an address of ours is tracked -/
theorem Rl.mem (R : Rl W io hp H) {a : Addr} (h : a ∈ io) : ∃ u, H a = some u := by
  obtain ⟨n, hn⟩ := List.mem_iff_getElem?.mp h
  obtain ⟨_, u, _, e, _⟩ := R.has hn
  exact ⟨u, e⟩
theorem sqT_new {K : PySem.W.Frag} {p : Addr} {ho : HO} (hp : H p = none) {a : Addr} {xs : List V} (h : SqT K H a xs) : SqT K (upd H p ho) a xs := by
  rcases h with (h | ⟨o, h⟩) | h
  · exact .inl (.inl (by rw [upd_ne (ne_of_none h hp)]; exact h))
  · exact .inl (.inr ⟨o, by rw [upd_ne (ne_of_none h hp)]; exact h⟩)
  · exact .inr h
theorem roL_new {K : PySem.W.Frag} {p : Addr} {ho : HO} (hp : H p = none) {a : Addr} {xs : List V} (h : RoL K H a xs) : RoL K (upd H p ho) a xs := by
  rcases h with ⟨o, h⟩ | h
  · exact .inl ⟨o, by rw [upd_ne (ne_of_none h hp)]; exact h⟩
  · exact .inr h
theorem tab_new {p : Addr} {ho : HO} (hp : H p = none) {P : Addr} {q : Str} (t : LamX.TabS H P q) : LamX.TabS (upd H p ho) P q := by
  obtain ⟨ps, h1, h2, h3⟩ := t
  refine ⟨ps, by rw [upd_ne (ne_of_none h1 hp)]; exact h1, h2, fun pos cv hc => ?_⟩
  obtain ⟨c, e1, e2⟩ := h3 pos cv hc
  exact ⟨c, e1, by rw [upd_ne (ne_of_none e2 hp)]; exact e2⟩
theorem Ext.new (io : List Addr) {p : Addr} (ho : HO) (hp : H p = none) (l : List Addr) : Ext W io H (io ++ l) (upd H p ho) :=
  ⟨⟨l, rfl⟩, fun _ _ h => sqT_new hp h, fun _ _ h => roL_new hp h, fun a fs h => by rw [upd_ne (ne_of_none h hp)]; exact h, fun a o u h => by rw [upd_ne (ne_of_none h hp)]; exact h, fun a u h => by rw [upd_ne (ne_of_none h hp)]; exact h, fun h p' hp' => tab_new hp (h p' hp')⟩
theorem Ext.new0 {p : Addr} {ho : HO} (hp : H p = none) : Ext W io H io (upd H p ho) := by
  have e := Ext.new (W := W) io ho hp []
  rwa [List.append_nil] at e
/-- a new thing that is none of ours (a tuple, an exception's dict) -/
theorem Rl.other (R : Rl W io hp H) {p : Addr} {ho : HO} (hn : H p = none) : Rl W io hp (upd H p ho) := by
  refine ⟨R.len, R.nd, fun i a o hi h => ?_, (Ext.new0 (W := W) (io := io) hn).tab R.tb⟩
  obtain ⟨u, e, r⟩ := R.at hi h
  exact ⟨u, by rw [upd_ne (ne_of_none e hn)]; exact e, r.mono (Ext.new0 hn)⟩
/-- a new object -/
theorem Rl.new (R : Rl W io hp H) {p : Addr} {ho : HO} {o : AO} (hn : H p = none) (r : RO W (io ++ [p]) (upd H p ho) o ho) : Rl W (io ++ [p]) (hp ++ [o]) (upd H p ho) := by
  have hp' : p ∉ io := fun h => by
    obtain ⟨u, e⟩ := R.mem h
    rw [hn] at e
    cases e
  refine ⟨by simp [R.len], ?_, fun i a q hi h => ?_, (Ext.new0 (W := W) (io := io) hn).tab R.tb⟩
  · refine List.nodup_append.mpr ⟨R.nd, by simp, fun a ha b hb => ?_⟩
    rw [List.mem_singleton] at hb
    subst hb
    rintro rfl
    exact hp' ha
  · by_cases hl : i < io.length
    · rw [List.getElem?_append_left hl] at hi
      rw [List.getElem?_append_left (by rw [← R.len]; exact hl)] at h
      obtain ⟨u, e, r'⟩ := R.at hi h
      exact ⟨u, by rw [upd_ne (ne_of_none e hn)]; exact e, r'.mono (Ext.new io ho hn [p])⟩
    · rw [List.getElem?_append_right (by omega)] at hi
      rw [List.getElem?_append_right (by rw [← R.len]; omega)] at h
      rw [R.len] at hi
      have z : i - hp.length = 0 := by
        obtain ⟨hh, _⟩ := List.getElem?_eq_some_iff.mp hi
        simp at hh
        omega
      rw [z] at hi h
      simp at hi h
      subst hi
      subst h
      exact ⟨ho, upd_same, r⟩
/-- the heap grows by things that are none of ours -/
theorem Rl.grow (R : Rl W io hp H) (k : ∀ a o, H a = some o → H' a = some o) : Rl W io hp H' ∧ Ext W io H io H' := by
  have e : Ext W io H io H' := ⟨⟨[], by simp⟩, fun a xs h => by
      rcases h with (h | ⟨o, h⟩) | h
      · exact .inl (.inl (k _ _ h))
      · exact .inl (.inr ⟨o, k _ _ h⟩)
      · exact .inr h, fun a xs h => by
      rcases h with ⟨o, h⟩ | h
      · exact .inl ⟨o, k _ _ h⟩
      · exact .inr h, fun a fs h => k _ _ h, fun a o u h => k _ _ h, fun a u h => k _ _ h, fun h p hp => (h p hp).ext k⟩
  refine ⟨⟨R.len, R.nd, fun i a o hi h => ?_, e.tab R.tb⟩, e⟩
  obtain ⟨u, eu, r⟩ := R.at hi h
  exact ⟨u, k _ _ eu, r.mono e⟩
end
end Dn
namespace Dn
open PySem PySem.Spec PyProof.Rows L2

abbrev DT := Sl → Hep → R Bool
abbrev DA := Sl → Hep → R (List AV)
def R.st {T : Type} (r : R T) (s : Sl) (k : T → Hep → SR) : SR := match r with
  | .ok a h => k a h
  | .exc t fs h => .exc t fs s h
  | .stuck => .stuck
section
variable {W : Wd} {M : Md W} {T T' U U' : Type}
abbrev tDA (W : Wd) (M : Md W) (E : WX) (f : DA) : TA := tG W M (RVs W) E f
abbrev tDT (W : Wd) (M : Md W) (E : WX) (f : DT) : TT := tG W M (fun _ _ b c => b = c) E f

section
variable {rh : Rel T U} {rh' : Rel T' U'} {E : WX} {D : Ends} {σ : L2.St} {H H1 : Hp} {io io1 : List Addr} {hp : Hep} {as : Sl}
/-- a part of an expression, then the rest -/
theorem step {f : Sl → Hep → R T} {k : T → Hep → R T'} {Q : U' → Hp → Prop} (rl : Rl W io hp H) (S : M.rel io H as σ) (P : Pst W rh' E σ Q io H ((f as hp).bind k)) :
    tG W M rh E f σ H (fun x H1 => ∃ io1 hp1 a, Ext W io H io1 H1 ∧ Rl W io1 hp1 H1 ∧ rh io1 H1 a x ∧ Pst W rh' E σ Q io1 H1 (k a hp1)) := by
  refine ⟨io, hp, as, rl, S, ?_⟩
  cases e : f as hp with
  | ok a hp1 =>
    rw [e] at P
    exact fun io' H' x e' r' q => ⟨io', hp1, a, e', r', q, Pst.later P e'⟩
  | exc t fs hp1 =>
    rw [e] at P
    exact P
  | stuck =>
    rw [e] at P
    exact P
/-- a part of a statement, then the rest -/
theorem stepS {f : Sl → Hep → R T} {k : T → Hep → SR} (rl : Rl W io hp H) (S : M.rel io H as σ) (P : Pss W M E D io H ((f as hp).st as k)) :
    tG W M rh E f σ H (fun x H1 => ∃ io1 hp1 a, Ext W io H io1 H1 ∧ Rl W io1 hp1 H1 ∧ rh io1 H1 a x ∧ Pss W M E D io1 H1 (k a hp1)) := by
  refine ⟨io, hp, as, rl, S, ?_⟩
  cases e : f as hp with
  | ok a hp1 =>
    rw [e] at P
    exact fun io' H' x e' r' q => ⟨io', hp1, a, e', r', q, Pss.later P e'⟩
  | exc t fs hp1 =>
    rw [e] at P
    exact fun io' H' c d e' r' q => P io' H' σ c d e' r' (M.mono e' S) q
  | stuck =>
    rw [e] at P
    exact P
end
end

section
variable {X : Cx}
theorem peI {e : Expr} {t t' : TE} (h : PE X e t) (i : ∀ σ H Q, t' σ H Q → t σ H Q) : PE X e t' := ⟨fun pins s σ H Q I q => h.run pins s σ H Q I (i σ H Q q)⟩
theorem ptI {e : Expr} {t t' : TT} (h : PT X e t) (i : ∀ σ H Q, t' σ H Q → t σ H Q) : PT X e t' := ⟨fun pins s σ H Q I q => h.run pins s σ H Q I (i σ H Q q)⟩
theorem paI {e : List Expr} {t t' : TA} (h : PA X e t) (i : ∀ σ H Q, t' σ H Q → t σ H Q) : PA X e t' := ⟨fun pos pins s σ H Q I q => h.run pos pins s σ H Q I (i σ H Q q)⟩
theorem psI {e : Stmt} {t t' : TS} (h : PS X e t) (i : ∀ D σ H, t' D σ H → t D σ H) : PS X e t' := ⟨fun pins s σ H D I q => h.run pins s σ H D I (i D σ H q)⟩
theorem pssI {e : List Stmt} {t t' : TS} (h : PSs X e t) (i : ∀ D σ H, t' D σ H → t D σ H) : PSs X e t' := ⟨fun pins s σ H D I q => h.run pins s σ H D I (i D σ H q)⟩
end

def dVar (i : Nat) : DE := fun s h => match s[i]? with
  | some (some (.exn _ _)) => .stuck
  | some (some v) => .ok v h
  | _ => .stuck
def dC (v : AV) : DE := fun _ h => .ok v h
/-- values that lie in the written part, or nowhere -/
def RW0 (W : Wd) (v : AV) (x : V) : Prop := ∀ io H, RV W io H v x

section
variable {W : Wd} {M : Md W} {E : WX} {X : Cx}
theorem vD {i : Nat} {e : Expr} (h : PE X e (tVar i)) : PE X e (tD W M E (dVar i)) := peI h fun σ H Q ⟨io, hp, as, rl, S, P⟩ => by
  unfold dVar at P
  cases z : as[i]? with
  | none =>
    rw [z] at P
    exact P.elim
  | some o =>
    rw [z] at P
    cases o with
    | none => exact P.elim
    | some v =>
      have hn : ∀ t fs, v ≠ .exn t fs := fun t fs q => by
        subst q
        exact P.elim
      obtain ⟨x, e, r⟩ := M.var S z hn
      refine ⟨x, e, ?_⟩
      cases v with
      | exn t fs => exact absurd rfl (hn t fs)
      | _ => exact P.ok rl r
theorem cD {v : AV} {x : V} {e : Expr} (h : PE X e (tC x)) (r : RW0 W v x) : PE X e (tD W M E (dC v)) := peI h fun σ H Q ⟨io, hp, as, rl, S, P⟩ => P.ok rl (r io H)
end

abbrev D1 := AV → Hep → Op AV
abbrev DL := List AV → Hep → Op AV
def t1 (W : Wd) (r : D1) : V → Hp → VK → Prop := fun x H Q => ∃ io hp a, Rl W io hp H ∧ RV W io H a x ∧ Pop W (RV W) Q io H (r a hp)
def tl (W : Wd) (r : DL) : List V → Hp → VK → Prop := fun xs H Q => ∃ io hp as, Rl W io hp H ∧ RVs W io H as xs ∧ Pop W (RV W) Q io H (r as hp)
def dOp (r : D2) (f g : DE) : DE := fun s h => (f s h).bind fun a h1 => (g s h1).bind fun b h2 => R.of (r a b h2)
def dUn (r : D1) (f : DE) : DE := fun s h => (f s h).bind fun a h1 => R.of (r a h1)
def dCB (r : DL) (f : DA) : DE := fun s h => (f s h).bind fun a h1 => R.of (r a h1)
def dNil : DA := fun _ h => .ok [] h
def dCons (f : DE) (g : DA) : DA := fun s h => (f s h).bind fun a h1 => (g s h1).bind fun b h2 => .ok (a :: b) h2

section
variable {W : Wd} {M : Md W} {E : WX} {X : Cx} {a b c : Expr} {es : List Expr} {f g k : DE} {fa ga : DA} {r : D2} {pos : Pos}
theorem op_imp {F : Value → Value → Sem Value} {r r' : R2} (h : OpR X F r) (i : ∀ x y H Q, r' x y H Q → r x y H Q) : OpR X F r' := fun pins s σ H x y v u Q I r1 r2 q => h pins s σ H x y v u Q I r1 r2 (i x y H Q q)
theorem call_imp {F : Value} {r r' : List V → Hp → VK → Prop} (h : CallR X F r) (i : ∀ x H Q, r' x H Q → r x H Q) : CallR X F r' := fun pins s σ H xs us Q I rr q => h pins s σ H xs us Q I rr (i xs H Q q)
/-- two parts -/
theorem op_in {σ : L2.St} {H : Hp} {Q : VK} (h : tD W M E (dOp r f g) σ H Q) : tOp (t2 W r) (tD W M E f) (tD W M E g) σ H Q := by
  obtain ⟨io, hp, as, rl, S, P⟩ := h
  refine (step (rh := RV W) (f := f) rl S P).imp fun x H1 ⟨io2, hp2, a, e2, rl2, ra, P2⟩ => ?_
  refine (step (rh := RV W) (f := g) rl2 (M.mono e2 S) P2).imp fun y H4 ⟨io5, hp5, b, e5, rl5, rb, P5⟩ => ?_
  exact ⟨io5, hp5, a, b, rl5, ra.mono e5, rb, P5.of⟩
theorem un_in {r : D1} {σ : L2.St} {H : Hp} {Q : VK} (h : tD W M E (dUn r f) σ H Q) : tUn (t1 W r) (tD W M E f) σ H Q := by
  obtain ⟨io, hp, as, rl, S, P⟩ := h
  exact (step (rh := RV W) (f := f) rl S P).imp fun x H1 ⟨io2, hp2, a, e2, rl2, ra, P2⟩ => ⟨io2, hp2, a, rl2, ra, P2.of⟩
theorem cb_in {r : DL} {σ : L2.St} {H : Hp} {Q : VK} (h : tD W M E (dCB r fa) σ H Q) : tCB (tl W r) (tDA W M E fa) σ H Q := by
  obtain ⟨io, hp, as, rl, S, P⟩ := h
  exact (step (rh := RVs W) (f := fa) rl S P).imp fun x H1 ⟨io2, hp2, a, e2, rl2, ra, P2⟩ => ⟨io2, hp2, a, rl2, ra, P2.of⟩
theorem nil_in {σ : L2.St} {H : Hp} {Q : List V → Hp → Prop} (h : tDA W M E dNil σ H Q) : tNil σ H Q := by
  obtain ⟨io, hp, as, rl, S, P⟩ := h
  exact P.ok rl .nil
theorem cons_in {σ : L2.St} {H : Hp} {Q : List V → Hp → Prop} (h : tDA W M E (dCons f fa) σ H Q) : tCons (tD W M E f) (tDA W M E fa) σ H Q := by
  obtain ⟨io, hp, as, rl, S, P⟩ := h
  refine (step (rh := RV W) (f := f) rl S P).imp fun x H1 ⟨io2, hp2, a, e2, rl2, ra, P2⟩ => ?_
  refine (step (rh := RVs W) (f := fa) rl2 (M.mono e2 S) P2).imp fun y H4 ⟨io5, hp5, b, e5, rl5, rb, P5⟩ => ?_
  exact P5.ok rl5 (.cons (ra.mono e5) rb)
theorem nD : PA X [] (tDA W M E dNil) := paI pa_nil fun _ _ _ h => nil_in h
theorem aD (ha : PE X a (tD W M E f)) (hr : PA X es (tDA W M E fa)) (hs : starEach (a :: es) X.env = (false, eval a X.env) :: starEach es X.env := by rfl) : PA X (a :: es) (tDA W M E (dCons f fa)) :=
  paI (pa_cons ha hr hs) fun _ _ _ h => cons_in h
theorem opD {op : Operator} (ho : OpR X (binaryOp op) (t2 W r)) (ha : PE X a (tD W M E f)) (hb : PE X b (tD W M E g)) : PE X (.BinOp a op b pos) (tD W M E (dOp r f g)) := peI (pe_op ho ha hb) fun _ _ _ h => op_in h
theorem unD {r : D1} {op : UnaryOp} (ho : UnR X (unaryOp op) (t1 W r)) (ha : PE X a (tD W M E f)) : PE X (.UnaryOp op a pos) (tD W M E (dUn r f)) := peI (pe_un ho ha) fun _ _ _ h => un_in h
theorem cmD {op : CmpOp} (ho : OpR X (compareOp op) (t2 W r)) (ha : PE X a (tD W M E f)) (hb : PE X b (tD W M E g)) (hm : behindInMarks op b = false) : PE X (.Compare a [op] [b] pos) (tD W M E (dOp r f g)) := peI (pe_cmpR ho ha hb hm) fun _ _ _ h => op_in h
end

def dTst (f : DE) : DT := fun s h => (f s h).bind fun a h1 => match a with
  | .bl b => .ok b h1
  | _ => .stuck
def dVal (f : DT) : DE := fun s h => (f s h).bind fun b h1 => .ok (.bl b) h1
def dAnd (f g : DT) : DT := fun s h => (f s h).bind fun b h1 => match b with
  | true => g s h1
  | false => .ok false h1
def dOr (f g : DT) : DT := fun s h => (f s h).bind fun b h1 => match b with
  | true => .ok true h1
  | false => g s h1
def dNot (f : DT) : DT := fun s h => (f s h).bind fun b h1 => .ok (!b) h1
def dIf (c : DT) (f g : DE) : DE := fun s h => (c s h).bind fun b h1 => match b with
  | true => f s h1
  | false => g s h1
/-- a and b, a or b as values of truth -/
def dAndV (f g : DE) : DE := fun s h => (f s h).bind fun a h1 => match a with
  | .bl true => g s h1
  | .bl false => .ok (.bl false) h1
  | _ => .stuck
def dOrV (f g : DE) : DE := fun s h => (f s h).bind fun a h1 => match a with
  | .bl true => .ok (.bl true) h1
  | .bl false => g s h1
  | _ => .stuck
def dNotV (f : DE) : DE := fun s h => (f s h).bind fun a h1 => match a with
  | .bl b => .ok (.bl (!b)) h1
  | _ => .stuck
/-- a op b op' c -/
def dChn (r r' : D2) (f g k : DE) : DE := fun s h => (f s h).bind fun a h1 => (g s h1).bind fun b h2 => (R.of (r a b h2)).bind fun z h3 => match z with
  | .bl true => (k s h3).bind fun c h4 => R.of (r' b c h4)
  | .bl false => .ok (.bl false) h3
  | _ => .stuck
section
variable {W : Wd} {M : Md W} {E : WX} {X : Cx} {a b c : Expr} {es : List Expr} {f g k : DE} {ft gt : DT} {r r' : D2} {pos : Pos}
theorem RV.bl_inv {io : List Addr} {H : Hp} {b : Bool} {x : V} (h : RV W io H (.bl b) x) : x = .bl b := by
  cases h
  rfl
theorem RV.int_inv {io : List Addr} {H : Hp} {b : Int} {x : V} (h : RV W io H (.int b) x) : x = .int b := by
  cases h
  rfl
theorem RV.str_inv {io : List Addr} {H : Hp} {b : Str} {x : V} (h : RV W io H (.str b) x) : x = .str b := by
  cases h
  rfl
theorem RV.non_inv {io : List Addr} {H : Hp} {x : V} (h : RV W io H .non x) : x = .non := by
  cases h
  rfl
theorem tst_in {σ : L2.St} {H : Hp} {Q : Bool → Hp → Prop} (h : tDT W M E (dTst f) σ H Q) : tB (tD W M E f) σ H Q := by
  obtain ⟨io, hp, as, rl, S, P⟩ := h
  refine (step (rh := RV W) (f := f) rl S P).imp fun x H1 ⟨io2, hp2, a, e2, rl2, ra, P2⟩ => ?_
  cases a with
  | bl b =>
    obtain rfl := ra.bl_inv
    exact ⟨b, rfl, P2.ok rl2 rfl⟩
  | _ => exact P2.elim
theorem tstD (h : PE X a (tD W M E f)) (he : ∀ whole, isTrue a X.env whole = (do let v ← whole; standAt a.pos; holding [v] (truthy v)) := by intro _; rfl) : PT X a (tDT W M E (dTst f)) := ptI (pt_val h he) fun _ _ _ q => tst_in q
theorem and_in {σ : L2.St} {H : Hp} {Q : Bool → Hp → Prop} (h : tDT W M E (dAnd ft gt) σ H Q) : tAnd (tDT W M E ft) (tDT W M E gt) σ H Q := by
  obtain ⟨io, hp, as, rl, S, P⟩ := h
  refine (step (rh := fun _ _ b c => b = c) (f := ft) rl S P).imp fun x H1 ⟨io2, hp2, a, e2, rl2, ra, P2⟩ => ?_
  subst ra
  cases a with
  | true => exact iteT ⟨io2, hp2, as, rl2, M.mono e2 S, P2⟩
  | false => exact iteF (P2.ok rl2 rfl)
theorem or_in {σ : L2.St} {H : Hp} {Q : Bool → Hp → Prop} (h : tDT W M E (dOr ft gt) σ H Q) : tOr (tDT W M E ft) (tDT W M E gt) σ H Q := by
  obtain ⟨io, hp, as, rl, S, P⟩ := h
  refine (step (rh := fun _ _ b c => b = c) (f := ft) rl S P).imp fun x H1 ⟨io2, hp2, a, e2, rl2, ra, P2⟩ => ?_
  subst ra
  cases a with
  | true => exact iteT (P2.ok rl2 rfl)
  | false => exact iteF ⟨io2, hp2, as, rl2, M.mono e2 S, P2⟩
theorem not_in {σ : L2.St} {H : Hp} {Q : Bool → Hp → Prop} (h : tDT W M E (dNot ft) σ H Q) : tNot (tDT W M E ft) σ H Q := by
  obtain ⟨io, hp, as, rl, S, P⟩ := h
  refine (step (rh := fun _ _ b c => b = c) (f := ft) rl S P).imp fun x H1 ⟨io2, hp2, a, e2, rl2, ra, P2⟩ => ?_
  subst ra
  exact P2.ok rl2 rfl
/-- the words for tests: and, or with their last part, not, another -/
theorem and1D (ha : PT X a (tDT W M E ft)) : PW X (.BoolOp .And [a] pos) (tDT W M E ft) := pw_and1 ha
theorem or1D (ha : PT X a (tDT W M E ft)) : PW X (.BoolOp .Or [a] pos) (tDT W M E ft) := pw_or1 ha
theorem pwI {e : Expr} {t t' : TT} (h : PW X e t) (i : ∀ σ H Q, t' σ H Q → t σ H Q) : PW X e t' := ⟨fun wh pins s σ H Q I q => h.run wh pins s σ H Q I (i σ H Q q)⟩
theorem andD (ha : PT X a (tDT W M E ft)) (hb : PW X (.BoolOp .And (b :: es) pos) (tDT W M E gt)) : PW X (.BoolOp .And (a :: b :: es) pos) (tDT W M E (dAnd ft gt)) := pwI (pw_and ha hb) fun _ _ _ h => and_in h
theorem orD (ha : PT X a (tDT W M E ft)) (hb : PW X (.BoolOp .Or (b :: es) pos) (tDT W M E gt)) : PW X (.BoolOp .Or (a :: b :: es) pos) (tDT W M E (dOr ft gt)) := pwI (pw_or ha hb) fun _ _ _ h => or_in h
theorem notD (ha : PT X a (tDT W M E ft)) : PT X (.UnaryOp .Not a pos) (tDT W M E (dNot ft)) := ptI (pt_not ha) fun _ _ _ h => not_in h
theorem if_in {σ : L2.St} {H : Hp} {Q : VK} (h : tD W M E (dIf ft f g) σ H Q) : tIf (tDT W M E ft) (tD W M E f) (tD W M E g) σ H Q := by
  obtain ⟨io, hp, as, rl, S, P⟩ := h
  refine (step (rh := fun _ _ b c => b = c) (f := ft) rl S P).imp fun x H1 ⟨io2, hp2, a, e2, rl2, ra, P2⟩ => ?_
  subst ra
  cases a with
  | true => exact iteT ⟨io2, hp2, as, rl2, M.mono e2 S, P2⟩
  | false => exact iteF ⟨io2, hp2, as, rl2, M.mono e2 S, P2⟩
theorem ifD (hc : PT X c (tDT W M E ft)) (ha : PE X a (tD W M E f)) (hb : PE X b (tD W M E g)) : PE X (.IfExp c a b pos) (tD W M E (dIf ft f g)) := peI (pe_ifExp hc ha hb) fun _ _ _ h => if_in h
theorem andV_in {σ : L2.St} {H : Hp} {Q : VK} (h : tD W M E (dAndV f g) σ H Q) : tAndV (tD W M E f) (tD W M E g) σ H Q := by
  obtain ⟨io, hp, as, rl, S, P⟩ := h
  refine (step (rh := RV W) (f := f) rl S P).imp fun x H1 ⟨io2, hp2, a, e2, rl2, ra, P2⟩ => ?_
  cases a with
  | bl b =>
    obtain rfl := ra.bl_inv
    refine ⟨b, rfl, ?_⟩
    cases b with
    | true => exact iteT ⟨io2, hp2, as, rl2, M.mono e2 S, P2⟩
    | false => exact iteF (P2.ok rl2 (.bl false))
  | _ => exact P2.elim
theorem orV_in {σ : L2.St} {H : Hp} {Q : VK} (h : tD W M E (dOrV f g) σ H Q) : tOrV (tD W M E f) (tD W M E g) σ H Q := by
  obtain ⟨io, hp, as, rl, S, P⟩ := h
  refine (step (rh := RV W) (f := f) rl S P).imp fun x H1 ⟨io2, hp2, a, e2, rl2, ra, P2⟩ => ?_
  cases a with
  | bl b =>
    obtain rfl := ra.bl_inv
    refine ⟨b, rfl, ?_⟩
    cases b with
    | true => exact iteT (P2.ok rl2 (.bl true))
    | false => exact iteF ⟨io2, hp2, as, rl2, M.mono e2 S, P2⟩
  | _ => exact P2.elim
theorem notV_in {σ : L2.St} {H : Hp} {Q : VK} (h : tD W M E (dNotV f) σ H Q) : tNotV (tD W M E f) σ H Q := by
  obtain ⟨io, hp, as, rl, S, P⟩ := h
  refine (step (rh := RV W) (f := f) rl S P).imp fun x H1 ⟨io2, hp2, a, e2, rl2, ra, P2⟩ => ?_
  cases a with
  | bl b =>
    obtain rfl := ra.bl_inv
    exact ⟨b, rfl, P2.ok rl2 (.bl (!b))⟩
  | _ => exact P2.elim
theorem andVD (ha : PE X a (tD W M E f)) (hb : PE X (.BoolOp .And (b :: es) pos) (tD W M E g)) : PE X (.BoolOp .And (a :: b :: es) pos) (tD W M E (dAndV f g)) := peI (pe_and ha hb) fun _ _ _ h => andV_in h
theorem orVD (ha : PE X a (tD W M E f)) (hb : PE X (.BoolOp .Or (b :: es) pos) (tD W M E g)) : PE X (.BoolOp .Or (a :: b :: es) pos) (tD W M E (dOrV f g)) := peI (pe_or ha hb) fun _ _ _ h => orV_in h
theorem notVD (ha : PE X a (tD W M E f)) : PE X (.UnaryOp .Not a pos) (tD W M E (dNotV f)) := peI (pe_not ha) fun _ _ _ h => notV_in h
theorem oneVD {op} (ha : PE X a (tD W M E f)) : PE X (.BoolOp op [a] pos) (tD W M E f) := pe_one ha
theorem chn_in {σ : L2.St} {H : Hp} {Q : VK} (h : tD W M E (dChn r r' f g k) σ H Q) : tChain (t2 W r) (t2 W r') (tD W M E f) (tD W M E g) (tD W M E k) σ H Q := by
  obtain ⟨io, hp, as, rl, S, P⟩ := h
  refine (step (rh := RV W) (f := f) rl S P).imp fun x H1 ⟨io2, hp2, a, e2, rl2, ra, P2⟩ => ?_
  refine (step (rh := RV W) (f := g) rl2 (M.mono e2 S) P2).imp fun y H4 ⟨io5, hp5, b, e5, rl5, rb, P5⟩ => ?_
  refine ⟨io5, hp5, a, b, rl5, ra.mono e5, rb, ?_⟩
  cases z : r a b hp5 with
  | none =>
    rw [z] at P5
    exact P5
  | some q =>
    obtain ⟨v, h3⟩ := q
    rw [z] at P5
    intro io6 H6 w e6 rl6 rw6
    cases v with
    | bl c =>
      obtain rfl := rw6.bl_inv
      refine ⟨c, rfl, ?_⟩
      have P6 := Pst.later P5 e6
      cases c with
      | true =>
        refine iteT ((step (rh := RV W) (f := k) rl6 (M.mono e6 (M.mono e5 (M.mono e2 S))) P6).imp fun w7 H7 ⟨io7, hp7, d, e7, rl7, rd, P7⟩ => ?_)
        exact ⟨io7, hp7, b, d, rl7, rb.mono (e6.trans e7), rd, P7.of⟩
      | false => exact iteF (P6.ok rl6 (.bl false))
    | _ => exact P5.elim
theorem chnD {op op' : CmpOp} (ho : OpR X (compareOp op) (t2 W r)) (ho' : OpR X (compareOp op') (t2 W r')) (ha : PE X a (tD W M E f)) (hb : PE X b (tD W M E g)) (hc : PE X c (tD W M E k)) (hm : lastMarks [op, op'] [b, c] = false := by rfl) : PE X (.Compare a [op, op'] [b, c] pos) (tD W M E (dChn r r' f g k)) := peI (pe_chain ho ho' ha hb hc hm) fun _ _ _ h => chn_in h
/-- a comparison as a test -/
theorem ct_in {σ : L2.St} {H : Hp} {Q : Bool → Hp → Prop} (h : tDT W M E (dTst f) σ H Q) : tTest (tD W M E f) σ H Q := tst_in h
theorem cmT {op : CmpOp} (ho : OpR X (compareOp op) (t2 W r)) (ha : PE X a (tD W M E f)) (hb : PE X b (tD W M E g)) (hm : behindInMarks op b = false) : PT X (.Compare a [op] [b] pos) (tDT W M E (dTst (dOp r f g))) :=
  ptI (pt_cmpR ho ha hb hm) fun σ H Q h => by
    obtain ⟨io, hp, as, rl, S, P⟩ := h
    refine op_in (M := M) (E := E) ?_
    exact (tst_in (f := dOp r f g) ⟨io, hp, as, rl, S, P⟩ : tB (tD W M E (dOp r f g)) σ H Q)
theorem chT {op op' : CmpOp} (ho : OpR X (compareOp op) (t2 W r)) (ho' : OpR X (compareOp op') (t2 W r')) (ha : PE X a (tD W M E f)) (hb : PE X b (tD W M E g)) (hc : PE X c (tD W M E k)) (hm : lastMarks [op, op'] [b, c] = false := by rfl) : PT X (.Compare a [op, op'] [b, c] pos) (tDT W M E (dTst (dChn r r' f g k))) :=
  ptI (pt_chain ho ho' ha hb hc hm) fun σ H Q h => chn_in (M := M) (E := E) (tst_in (f := dChn r r' f g k) h : tB (tD W M E (dChn r r' f g k)) σ H Q)
end

def dSkip : DS := fun s h => .nx s h
def dSeq (f g : DS) : DS := fun s h => (f s h).then g
def dDrop (f : DE) : DS := fun s h => (f s h).st s fun _ h1 => .nx s h1
def dRet (f : DE) : DS := fun s h => (f s h).st s fun v h1 => .rt v h1
def dRetN : DS := fun _ h => .rt .non h
def dSet (i : Nat) (f : DE) : DS := fun s h => (f s h).st s fun v h1 => .nx (s.set i (some v)) h1
def dIfS (c : DT) (f g : DS) : DS := fun s h => (c s h).st s fun b h1 => match b with
  | true => f s h1
  | false => g s h1
def dBreak : DS := fun s h => .bk s h
def dCont : DS := fun s h => .ct s h
section
variable {W : Wd} {M : Md W} {E : WX} {X : Cx} {a b c : Expr} {st : Stmt} {sts sts' : List Stmt} {f g k : DE} {ft gt : DT} {fs gs : DS} {pos : Pos}
theorem skip_in {D : Ends} {σ : L2.St} {H : Hp} (h : tS W M E dSkip D σ H) : tNext D σ H := by
  obtain ⟨io, hp, as, rl, S, P⟩ := h
  exact P io H σ Ext.refl rl S
theorem seq_in {D : Ends} {σ : L2.St} {H : Hp} (h : tS W M E (dSeq fs gs) D σ H) : tSeq (tS W M E fs) (tS W M E gs) D σ H := by
  obtain ⟨io, hp, as, rl, S, P⟩ := h
  refine ⟨io, hp, as, rl, S, ?_⟩
  have P' : Pss W M E D io H ((fs as hp).then gs) := P
  cases z : fs as hp with
  | nx s h =>
    rw [z] at P'
    exact fun io' H' σ' e rl' S' => ⟨io', h, s, rl', S', Pss.later P' e⟩
  | rt s h =>
    rw [z] at P'
    exact P'
  | bk s h =>
    rw [z] at P'
    exact P'
  | ct s h =>
    rw [z] at P'
    exact P'
  | exc t fs s h =>
    rw [z] at P'
    exact P'
  | stuck =>
    rw [z] at P'
    exact P'
theorem ss0 : PSs X [] (tS W M E dSkip) := pssI pss_nil fun _ _ _ h => skip_in h
theorem ssC (h1 : PS X st (tS W M E fs)) (h2 : PSs X sts (tS W M E gs)) : PSs X (st :: sts) (tS W M E (dSeq fs gs)) := pssI (pss_cons h1 h2) fun _ _ _ h => seq_in h
theorem ss1 (h1 : PS X st (tS W M E fs)) : PSs X [st] (tS W M E fs) := pss_one h1
theorem sPass : PS X (.Pass pos) (tS W M E dSkip) := psI ps_pass fun _ _ _ h => skip_in h
theorem sDoc {x j pos'} : PS X (.Expr (.Constant (.str x) j pos) pos') (tS W M E dSkip) := psI ps_doc fun _ _ _ h => skip_in h
theorem sBreak : PS X (.Break pos) (tS W M E dBreak) := psI ps_break fun D σ H h => by
  obtain ⟨io, hp, as, rl, S, P⟩ := h
  exact P io H σ Ext.refl rl S
theorem sCont : PS X (.Continue pos) (tS W M E dCont) := psI ps_continue fun D σ H h => by
  obtain ⟨io, hp, as, rl, S, P⟩ := h
  exact P io H σ Ext.refl rl S
theorem sExpr (he : PE X a (tD W M E f)) (hs : swapsWith a none pos.line X.env = pure false := by rfl) : PS X (.Expr a pos) (tS W M E (dDrop f)) := psI (ps_expr he hs) fun D σ H h => by
  obtain ⟨io, hp, as, rl, S, P⟩ := h
  exact (stepS (rh := RV W) (f := f) rl S P).imp fun x H1 ⟨io2, hp2, a, e2, rl2, ra, P2⟩ => P2 io2 H1 σ Ext.refl rl2 (M.mono e2 S)
theorem sRet (he : PE X a (tD W M E f)) : PS X (.Return (some a) pos) (tS W M E (dRet f)) := psI (ps_ret he) fun D σ H h => by
  obtain ⟨io, hp, as, rl, S, P⟩ := h
  exact (stepS (rh := RV W) (f := f) rl S P).imp fun x H1 ⟨io2, hp2, a, e2, rl2, ra, P2⟩ => P2 io2 H1 x Ext.refl rl2 ra
theorem sRetN : PS X (.Return none pos) (tS W M E dRetN) := psI ps_retN fun D σ H h => by
  obtain ⟨io, hp, as, rl, S, P⟩ := h
  exact P io H .non Ext.refl rl .non
theorem sSet {i : Nat} {x : Str} {pos' : Pos} (hN : X.N.Nodup) (hi : X.N[i]? = some x) (hx : Loc X.env.scope x) (he : PE X a (tD W M E f)) (ho : M.ok i) (hs : swapsWith a (some (.Name x pos')) pos.line X.env = pure false := by rfl)
    (hf : X.fn x = true ∨ X.env.scope.names.lookup x = some .local := by first | exact .inl rfl | exact .inr rfl | assumption) : PS X (.Assign [.Name x pos'] a pos) (tS W M E (dSet i f)) := psI (ps_set hN hi hx he hs hf) fun D σ H h => by
  obtain ⟨io, hp, as, rl, S, P⟩ := h
  exact (stepS (rh := RV W) (f := f) rl S P).imp fun x H1 ⟨io2, hp2, a, e2, rl2, ra, P2⟩ => P2 io2 H1 _ Ext.refl rl2 (M.set (M.mono e2 S) ra ho)
theorem sIf (hc : PT X c (tDT W M E ft)) (ha : PSs X sts (tS W M E fs)) (hb : PSs X sts' (tS W M E gs)) : PS X (.If c sts sts' pos) (tS W M E (dIfS ft fs gs)) := psI (ps_if hc ha hb) fun D σ H h => by
  obtain ⟨io, hp, as, rl, S, P⟩ := h
  refine (stepS (rh := fun _ _ b c => b = c) (f := ft) rl S P).imp fun x H1 ⟨io2, hp2, a, e2, rl2, ra, P2⟩ => ?_
  subst ra
  cases a with
  | true => exact iteT ⟨io2, hp2, as, rl2, M.mono e2 S, P2⟩
  | false => exact iteF ⟨io2, hp2, as, rl2, M.mono e2 S, P2⟩
end
end Dn
namespace L2
open PySem PySem.Spec PyProof.Rows
theorem tuple_mul1 (l : Addr) (items : Array Value) (n : Nat) (dd : Option Addr) (sl : Array (Option Value)) (u : Tok) :
    Meets (Builtin.«tuple.__mul__» ⟨[.ref l, .int 1 u], []⟩) (fun _ R s => s.heap.get? l = some { cls := .type "tuple", dict := dd, data := .seq items n, slots := sl } ∧ R (.ok (.ret (Value.ref l))) s) :=
  .of_wp fun prog w A R s h => by
    obtain ⟨hp, g, d, tk, os⟩ := s
    obtain ⟨hl, h⟩ := h
    have f1 := AutoSeq1.idx_int
    wp_walk using wpAny_loadPart' hl
    exact ⟨_, rfl, h⟩
theorem tuple_mul0 (l : Addr) (items : Array Value) (n : Nat) (dd : Option Addr) (sl : Array (Option Value)) (u : Tok) (c1 : items.isEmpty = false) :
    Meets (Builtin.«tuple.__mul__» ⟨[.ref l, .int 0 u], []⟩) (fun _ R s => s.heap.get? l = some { cls := .type "tuple", dict := dd, data := .seq items n, slots := sl } ∧
      R (.ok (.ret (Value.ref s.heap.objs.size))) { s with heap := s.heap.push { cls := Value.type "tuple", data := Data.seq #[] }, toks := s.toks }) :=
  .of_wp fun prog w A R s h => by
    obtain ⟨hp, g, d, tk, os⟩ := s
    obtain ⟨hl, h⟩ := h
    have f1 := AutoSeq1.idx_int
    wp_walk using wpAny_loadPart' hl
    exact ⟨_, rfl, h⟩
def rRepT1 (K : PySem.W.Frag) : R2 := fun x y H Q => ∃ l xs, x = .ref l ∧ y = .int 1 ∧ SqT K H l xs ∧ Q (.ref l) H
def rRepT0 (K : PySem.W.Frag) : R2 := fun x y H Q => ∃ l xs, x = .ref l ∧ y = .int 0 ∧ SqT K H l xs ∧ xs ≠ [] ∧ ∀ p, H p = none → Q (.ref p) (upd H p (.tup []))
section
variable {X : Cx}
theorem op_repT1 : OpR X (binaryOp .Mult) (rRepT1 X.K) := by
  intro pins s σ H x y v u Q I rx ry h
  obtain ⟨l, xs, rfl, rfl, hT, q⟩ := h
  cases rx
  obtain ⟨t, rfl⟩ := ry
  obtain ⟨its, r, ⟨⟨cls, dd, data, sl⟩, ho, hc, n, hd⟩, hs⟩ := I.tuple hT
  simp only at hc hd
  subst hc hd
  refine wpAny_binaryOp_repeat_ref (T := "tuple") (U := "int") (by decide) ⟨_, ho, rfl⟩ (fun s' => typeIs_int s' 1 t) noFill_tuple_mul F.fills_int_mul F.slot_int_rmul repeat_tuple F.slot_int_index.lookup
    (call_meets F.slot_int_rmul (typeIs_int s 1 t) F.entry_int_rmul (F.args_int_rmul_2 _ _) (int_rmul_tuple 1 t l its.toArray n dd sl)
      ⟨ho, rfl, ⟨_, ho, rfl⟩, call_meets F.slot_tuple_mul ⟨_, ho, rfl⟩ F.entry_tuple_mul (F.args_tuple_mul_2 _ _) (tuple_mul1 l its.toArray n dd sl t) ⟨ho, ?_⟩⟩)
  exact ⟨.ref l, H, I, rfl, q⟩
theorem op_repT0 : OpR X (binaryOp .Mult) (rRepT0 X.K) := by
  intro pins s σ H x y v u Q I rx ry h
  obtain ⟨l, xs, rfl, rfl, hT, hne, q⟩ := h
  cases rx
  obtain ⟨t, rfl⟩ := ry
  obtain ⟨its, r, ⟨⟨cls, dd, data, sl⟩, ho, hc, n, hd⟩, hs⟩ := I.tuple hT
  simp only at hc hd
  subst hc hd
  have hle : its.length = xs.length := r.length.symm
  have hi : its.toArray.isEmpty = false := by
    cases its with
    | nil => exact absurd (List.eq_nil_of_length_eq_zero hle.symm) hne
    | cons a b => rfl
  refine wpAny_binaryOp_repeat_ref (T := "tuple") (U := "int") (by decide) ⟨_, ho, rfl⟩ (fun s' => typeIs_int s' 0 t) noFill_tuple_mul F.fills_int_mul F.slot_int_rmul repeat_tuple F.slot_int_index.lookup
    (call_meets F.slot_int_rmul (typeIs_int s 0 t) F.entry_int_rmul (F.args_int_rmul_2 _ _) (int_rmul_tuple 0 t l its.toArray n dd sl)
      ⟨ho, rfl, ⟨_, ho, rfl⟩, call_meets F.slot_tuple_mul ⟨_, ho, rfl⟩ F.entry_tuple_mul (F.args_tuple_mul_2 _ _) (tuple_mul0 l its.toArray n dd sl t hi) ⟨ho, ?_⟩⟩)
  refine ⟨.ref s.heap.objs.size, _, I.laid (t' := s.toks) (o := .tup []) (fun b ob q => Heap.get?_push_of_some _ q) (Nat.le_refl _) ?_, rfl, q _ (I.hok.fresh (Nat.le_refl _))⟩
  exact ⟨by decide, [], .nil, IsTup.new _ _⟩
end
end L2
namespace Dn
open PySem PySem.Spec PyProof.Rows L2

/-- the longest list, the longest text -/
abbrev SZ : Nat := 1000000
theorem szL {n : Nat} (h : n ≤ SZ) : n ≤ sizeLine := by
  rw [sizeLine_eq]
  exact Nat.le_trans h (by decide)
theorem szT {n : Nat} (h : n < SZ) : n < sizeLine := by
  rw [sizeLine_eq]
  exact Nat.lt_of_lt_of_le h (by decide)

def mkL (xs : List AV) (h : Hep) : Op AV := if xs.length ≤ SZ then some (.ref h.length, h ++ [.lst xs]) else none
def mkT (xs : List AV) (h : Hep) : Op AV := if xs.length ≤ SZ then some (.tup xs, h) else none
def setL (n : Nat) (xs : List AV) (v : AV) (h : Hep) : Op AV := if xs.length ≤ SZ then some (v, h.set n (.lst xs)) else none
/-- a list that may be read -/
def lstOf (h : Hep) : AV → Option (List AV)
  | .ref n => match h[n]? with
    | some (.lst xs) => some xs
    | _ => none
  | .rol xs => some xs
  | _ => none
def tupOf : AV → Option (List AV)
  | .tup xs => some xs
  | _ => none
def seqOf (h : Hep) (a : AV) : Option (List AV) := match tupOf a with
  | some xs => some xs
  | none => lstOf h a

section
variable {W : Wd} {io : List Addr} {H : Hp} {hp : Hep}
theorem Rl.atLen (R : Rl W io hp H) (p : Addr) : (io ++ [p])[hp.length]? = some p := by
  rw [List.getElem?_append_right (by rw [R.len]; exact Nat.le_refl _), R.len]
  simp
theorem mkL_in {Q : VK} {xs : List AV} {vs : List V} (P : Pop W (RV W) Q io H (mkL xs hp)) (R : Rl W io hp H) (r : RVs W io H xs vs) : vs.length ≤ sizeLine ∧ ∀ p, H p = none → Q (.ref p) (upd H p (.lst vs)) := by
  unfold mkL at P
  by_cases h : xs.length ≤ SZ
  · rw [if_pos h] at P
    refine ⟨by rw [← r.len]; exact szL h, fun p hn => ?_⟩
    have e := Ext.new (W := W) io (.lst vs) hn [p]
    exact P _ _ _ e (R.new hn (.lst (r.mono e))) (.ref (R.atLen p))
  · rw [if_neg h] at P
    exact P.elim
theorem mkT_in {Q : VK} {xs : List AV} {vs : List V} (P : Pop W (RV W) Q io H (mkT xs hp)) (R : Rl W io hp H) (r : RVs W io H xs vs) :
    vs.length ≤ sizeLine ∧ (∀ p, H p = none → Q (.ref p) (upd H p (.tup vs))) ∧ ∀ a, SqT W.K H a vs → Q (.ref a) H := by
  unfold mkT at P
  by_cases h : xs.length ≤ SZ
  · rw [if_pos h] at P
    refine ⟨by rw [← r.len]; exact szL h, fun p hn => ?_, fun a ha => ?_⟩
    · have e : Ext W io H io (upd H p (.tup vs)) := Ext.new0 hn
      exact P _ _ _ e (R.other hn) (.tup (SqT.of upd_same) (r.mono e))
    · exact P _ _ _ Ext.refl R (.tup ha r)
  · rw [if_neg h] at P
    exact P.elim
theorem setL_in {Q : VK} {n : Nat} {p : Addr} {xs ys : List AV} {vs ws : List V} {a : AV} {v : V} (P : Pop W (RV W) Q io H (setL n ys a hp)) (R : Rl W io hp H) (hi : io[n]? = some p) (hu : H p = some (.lst vs)) (r : RVs W io H ys ws)
    (ra : RV W io H a v) : ws.length ≤ sizeLine ∧ Q v (upd H p (.lst ws)) := by
  unfold setL at P
  by_cases h : ys.length ≤ SZ
  · rw [if_pos h] at P
    have e : Ext W io H io (upd H p (.lst ws)) := Ext.set (.lst ws) hu trivial
    exact ⟨by rw [← r.len]; exact szL h, P _ _ _ e (R.set hi hu trivial (.lst (r.mono e))) (ra.mono e)⟩
  · rw [if_neg h] at P
    exact P.elim
theorem roL_sq {K : PySem.W.Frag} {a : Addr} {vs : List V} (h : RoL K H a vs) : SqL K H a vs := by
  rcases h with ⟨o, h⟩ | (h | h)
  · exact .inl (.inr ⟨o, h⟩)
  · rcases h with h | ⟨o, h⟩
    · cases h
    · cases h
  · exact .inr h
theorem lstOf_in {a : AV} {v : V} {xs : List AV} (e : lstOf hp a = some xs) (R : Rl W io hp H) (r : RV W io H a v) : ∃ p vs, v = .ref p ∧ SqL W.K H p vs ∧ RVs W io H xs vs := by
  cases r with
  | ref h =>
    rename_i n p
    unfold lstOf at e
    cases z : hp[n]? with
    | none =>
      simp only [z] at e
      cases e
    | some o =>
      simp only [z] at e
      cases o with
      | lst ys =>
        cases e
        obtain ⟨vs, e1, r1⟩ := R.lst h z
        exact ⟨p, vs, rfl, SqL.of e1, r1⟩
      | _ => cases e
  | rol h q =>
    cases e
    exact ⟨_, _, rfl, roL_sq h, q⟩
  | _ => cases e
theorem tupOf_in {a : AV} {v : V} {xs : List AV} (e : tupOf a = some xs) (r : RV W io H a v) : ∃ p vs, v = .ref p ∧ SqT W.K H p vs ∧ RVs W io H xs vs := by
  cases r with
  | tup h q =>
    cases e
    exact ⟨_, _, rfl, h, q⟩
  | _ => cases e
theorem seqOf_in {a : AV} {v : V} {xs : List AV} (e : seqOf hp a = some xs) (R : Rl W io hp H) (r : RV W io H a v) : ∃ p vs, v = .ref p ∧ (SqL W.K H p vs ∨ SqT W.K H p vs) ∧ RVs W io H xs vs := by
  unfold seqOf at e
  cases z : tupOf a with
  | some ys =>
    rw [z] at e
    cases e
    obtain ⟨p, vs, a1, a2, a3⟩ := tupOf_in z r
    exact ⟨p, vs, a1, .inr a2, a3⟩
  | none =>
    rw [z] at e
    obtain ⟨p, vs, a1, a2, a3⟩ := lstOf_in e R r
    exact ⟨p, vs, a1, .inl a2, a3⟩
end

def mulOk (i j : Int) : Bool := decide (-(2 ^ 64) < i ∧ i < 2 ^ 64) || (decide (-(2 ^ 64) < j ∧ j < 2 ^ 64) || decide (i.natAbs < 2 ^ 1000 ∧ j.natAbs < 2 ^ 1000))
def addAV : D2 := fun a b h => match a, b with
  | .int i, .int j => some (.int (i + j), h)
  | .str x, .str y => if x.length + y.length ≤ SZ then some (.str (x ++ y), h) else none
  | .tup xs, .tup ys => mkT (xs ++ ys) h
  | .ref m, .ref n => (match h[m]?, h[n]? with
    | some (.lst xs), some (.lst ys) => mkL (xs ++ ys) h
    | _, _ => none)
  | _, _ => none
def subAV : D2 := fun a b h => match a, b with
  | .int i, .int j => some (.int (i - j), h)
  | _, _ => none
def mulAV : D2 := fun a b h => match a, b with
  | .int i, .int j => if mulOk i j = true then some (.int (i * j), h) else none
  | .ref m, .int k => (match h[m]? with
    | some (.lst xs) => if -(2 ^ 63) ≤ k ∧ k < 2 ^ 63 then mkL (List.replicate k.toNat xs).flatten h else none
    | _ => none)
  | .tup xs, .int k => if xs ≠ [] ∧ xs.length ≤ 1000 ∧ 0 ≤ k ∧ k ≤ 1000 then mkT (List.replicate k.toNat xs).flatten h else none
  | _, _ => none
def fdivAV : D2 := fun a b h => match a, b with
  | .int i, .int j => if 0 < j ∧ j < 1073741824 then some (.int (i / j), h) else none
  | _, _ => none
def modAV : D2 := fun a b h => match a, b with
  | .int i, .int j => if 0 < j then some (.int (i % j), h) else none
  | _, _ => none
def powAV : D2 := fun a b h => match a, b with
  | .int i, .int j => if 0 ≤ j ∧ j ≤ 100 ∧ i.natAbs < 2 ^ 1000 then some (.int (i ^ j.toNat), h) else none
  | _, _ => none
def negAV : D1 := fun a h => match a with
  | .int i => some (.int (-i), h)
  | _ => none

section
variable {W : Wd} {X : Cx}
theorem oAdd (hK : X.K = W.K) : OpR X (binaryOp .Add) (t2 W addAV) := op_imp (((op_add.or op_add_str).or op_cat).or op_catA) fun x y H Q ⟨io, hp, a, b, rl, ra, rb, P⟩ => by
  rw [hK]
  cases a with
  | int i =>
    cases b with
    | int j =>
      obtain rfl := ra.int_inv
      obtain rfl := rb.int_inv
      exact .inl (.inl (.inl ⟨i, j, rfl, rfl, P.ok rl (.int _)⟩))
    | _ => exact P.elim
  | str i =>
    cases b with
    | str j =>
      obtain rfl := ra.str_inv
      obtain rfl := rb.str_inv
      have P' : Pop W (RV W) Q io H (if i.length + j.length ≤ SZ then some (.str (i ++ j), hp) else none) := P
      by_cases h : i.length + j.length ≤ SZ
      · rw [if_pos h] at P'
        exact .inl (.inl (.inr ⟨i, j, rfl, rfl, szL h, P'.ok rl (.str _)⟩))
      · rw [if_neg h] at P'
        exact P'.elim
    | _ => exact P.elim
  | tup xs =>
    cases b with
    | tup ys =>
      obtain ⟨p, vs, rfl, h1, r1⟩ := tupOf_in (xs := xs) rfl ra
      obtain ⟨q, ws, rfl, h2, r2⟩ := tupOf_in (xs := ys) rfl rb
      obtain ⟨z, k1, k2⟩ := mkT_in P rl (r1.app r2)
      refine .inr ⟨p, q, vs, ws, rfl, rfl, h1, h2, by simpa using z, fun e => ?_, fun _ e => ?_, fun _ _ => k1⟩
      · subst e
        exact k2 q (by simpa using h2)
      · subst e
        exact k2 p (by simpa using h1)
    | _ => exact P.elim
  | ref m =>
    cases b with
    | ref n =>
      have P' : Pop W (RV W) Q io H (match hp[m]?, hp[n]? with
        | some (.lst xs), some (.lst ys) => mkL (xs ++ ys) hp
        | _, _ => none) := P
      cases z1 : hp[m]? with
      | none =>
        rw [z1] at P'
        exact P'.elim
      | some o1 =>
        cases o1 with
        | lst xs =>
          cases z2 : hp[n]? with
          | none =>
            rw [z1, z2] at P'
            exact P'.elim
          | some o2 =>
            cases o2 with
            | lst ys =>
              rw [z1, z2] at P'
              cases ra with
              | ref e1 =>
                cases rb with
                | ref e2 =>
                  obtain ⟨vs, a1, r1⟩ := rl.lst e1 z1
                  obtain ⟨ws, a2, r2⟩ := rl.lst e2 z2
                  obtain ⟨z, k1⟩ := mkL_in P' rl (r1.app r2)
                  exact .inl (.inr ⟨_, _, vs, ws, rfl, rfl, a1, a2, by simpa using z, k1⟩)
            | _ =>
              rw [z1, z2] at P'
              exact P'.elim
        | _ =>
          rw [z1] at P'
          exact P'.elim
    | _ => exact P.elim
  | _ => exact P.elim
theorem oSub : OpR X (binaryOp .Sub) (t2 W subAV) := op_imp op_sub fun x y H Q ⟨io, hp, a, b, rl, ra, rb, P⟩ => by
  cases a with
  | int i =>
    cases b with
    | int j =>
      obtain rfl := ra.int_inv
      obtain rfl := rb.int_inv
      exact ⟨i, j, rfl, rfl, P.ok rl (.int _)⟩
    | _ => exact P.elim
  | _ => exact P.elim
theorem mulOk_ok {i j : Int} (h : mulOk i j = true) : IntMulOk i j := by
  unfold mulOk at h
  simp only [Bool.or_eq_true, decide_eq_true_eq] at h
  rcases h with h | h | h
  · exact CMul.ok (.inl h)
  · exact CMul.ok (.inr h)
  · exact CMulW.ok (wide_mul h.1 h.2 (by decide) (by decide) (by decide))
theorem op_mulA : OpR X (binaryOp .Mult) (rI (fun i j => mulOk i j = true) fun i j => .int (i * j)) := opI fun _ _ _ _ _ _ _ hc q => mul_int q (mulOk_ok hc)
theorem oMul (hK : X.K = W.K) : OpR X (binaryOp .Mult) (t2 W mulAV) := op_imp ((op_mulA.or op_rep).or ((op_repT.or op_repT1).or op_repT0)) fun x y H Q ⟨io, hp, a, b, rl, ra, rb, P⟩ => by
  rw [hK]
  cases a with
  | int i =>
    cases b with
    | int j =>
      obtain rfl := ra.int_inv
      obtain rfl := rb.int_inv
      have P' : Pop W (RV W) Q io H (if mulOk i j = true then some (.int (i * j), hp) else none) := P
      by_cases h : mulOk i j = true
      · rw [if_pos h] at P'
        exact .inl (.inl ⟨i, j, rfl, rfl, h, P'.ok rl (.int _)⟩)
      · rw [if_neg h] at P'
        exact P'.elim
    | _ => exact P.elim
  | ref m =>
    cases b with
    | int k =>
      obtain rfl := rb.int_inv
      have P' : Pop W (RV W) Q io H (match hp[m]? with
        | some (.lst xs) => if -(2 ^ 63) ≤ k ∧ k < 2 ^ 63 then mkL (List.replicate k.toNat xs).flatten hp else none
        | _ => none) := P
      cases z1 : hp[m]? with
      | none =>
        rw [z1] at P'
        exact P'.elim
      | some o1 =>
        rw [z1] at P'
        cases o1 with
        | lst xs =>
          have P2 : Pop W (RV W) Q io H (if -(2 ^ 63) ≤ k ∧ k < 2 ^ 63 then mkL (List.replicate k.toNat xs).flatten hp else none) := P'
          by_cases h : -(2 ^ 63) ≤ k ∧ k < 2 ^ 63
          · rw [if_pos h] at P2
            cases ra with
            | ref e1 =>
              obtain ⟨vs, a1, r1⟩ := rl.lst e1 z1
              obtain ⟨z, k1⟩ := mkL_in P2 rl (r1.rep k.toNat)
              refine .inl (.inr ⟨_, k, vs, rfl, rfl, a1, h.1, h.2, ?_, k1⟩)
              simpa [Nat.mul_comm] using z
          · rw [if_neg h] at P2
            exact P2.elim
        | _ => exact P'.elim
    | _ => exact P.elim
  | tup xs =>
    cases b with
    | int k =>
      obtain rfl := rb.int_inv
      have P' : Pop W (RV W) Q io H (if xs ≠ [] ∧ xs.length ≤ 1000 ∧ 0 ≤ k ∧ k ≤ 1000 then mkT (List.replicate k.toNat xs).flatten hp else none) := P
      by_cases h : xs ≠ [] ∧ xs.length ≤ 1000 ∧ 0 ≤ k ∧ k ≤ 1000
      · rw [if_pos h] at P'
        obtain ⟨p, vs, rfl, h1, r1⟩ := tupOf_in (xs := xs) rfl ra
        obtain ⟨z, k1, k2⟩ := mkT_in P' rl (r1.rep k.toNat)
        have hl : vs.length = xs.length := r1.len.symm
        have hne : vs ≠ [] := fun e => h.1 (List.eq_nil_of_length_eq_zero (by rw [← hl, e]; rfl))
        by_cases h2 : 2 ≤ k
        · exact .inr (.inl (.inl ⟨p, k, vs, rfl, rfl, h1, hne, h2, h.2.2.2, by rw [hl]; exact h.2.1, k1⟩))
        · by_cases h3 : k = 1
          · subst h3
            exact .inr (.inl (.inr ⟨p, vs, rfl, rfl, h1, k2 p (by simpa using h1)⟩))
          · have h4 : k = 0 := by omega
            subst h4
            exact .inr (.inr ⟨p, vs, rfl, rfl, h1, hne, k1⟩)
      · rw [if_neg h] at P'
        exact P'.elim
    | _ => exact P.elim
  | _ => exact P.elim
theorem oFdiv : OpR X (binaryOp .FloorDiv) (t2 W fdivAV) := op_imp op_fdiv fun x y H Q ⟨io, hp, a, b, rl, ra, rb, P⟩ => by
  cases a with
  | int i =>
    cases b with
    | int j =>
      obtain rfl := ra.int_inv
      obtain rfl := rb.int_inv
      have P' : Pop W (RV W) Q io H (if 0 < j ∧ j < 1073741824 then some (.int (i / j), hp) else none) := P
      by_cases h : 0 < j ∧ j < 1073741824
      · rw [if_pos h] at P'
        exact ⟨i, j, rfl, rfl, h, P'.ok rl (.int _)⟩
      · rw [if_neg h] at P'
        exact P'.elim
    | _ => exact P.elim
  | _ => exact P.elim
theorem oMod : OpR X (binaryOp .Mod) (t2 W modAV) := op_imp op_mod fun x y H Q ⟨io, hp, a, b, rl, ra, rb, P⟩ => by
  cases a with
  | int i =>
    cases b with
    | int j =>
      obtain rfl := ra.int_inv
      obtain rfl := rb.int_inv
      have P' : Pop W (RV W) Q io H (if 0 < j then some (.int (i % j), hp) else none) := P
      by_cases h : 0 < j
      · rw [if_pos h] at P'
        exact ⟨i, j, rfl, rfl, h, P'.ok rl (.int _)⟩
      · rw [if_neg h] at P'
        exact P'.elim
    | _ => exact P.elim
  | _ => exact P.elim
theorem op_powA : OpR X (binaryOp .Pow) (rI (fun i j => 0 ≤ j ∧ j ≤ 100 ∧ i.natAbs < 2 ^ 1000) fun i j => .int (i ^ j.toNat)) := opI fun i j _ _ _ _ _ hc q => pow_int hc.1 (by
  have hb : Builtin.Int.intBits i ≤ 1000 := by
    unfold Builtin.Int.intBits
    split
    · omega
    · have := PySem.Flt.log2_lt_of (k := 1000) (by decide) hc.2.2
      omega
  have h2 := hc.2.1
  have h0 := hc.1
  have : (Builtin.Int.intBits i : Int) * j ≤ 1000 * 100 := Int.mul_le_mul (by omega) h2 h0 (by decide)
  exact Int.le_trans this (by decide)) q
theorem oPow : OpR X (binaryOp .Pow) (t2 W powAV) := op_imp op_powA fun x y H Q ⟨io, hp, a, b, rl, ra, rb, P⟩ => by
  cases a with
  | int i =>
    cases b with
    | int j =>
      obtain rfl := ra.int_inv
      obtain rfl := rb.int_inv
      have P' : Pop W (RV W) Q io H (if 0 ≤ j ∧ j ≤ 100 ∧ i.natAbs < 2 ^ 1000 then some (.int (i ^ j.toNat), hp) else none) := P
      by_cases h : 0 ≤ j ∧ j ≤ 100 ∧ i.natAbs < 2 ^ 1000
      · rw [if_pos h] at P'
        exact ⟨i, j, rfl, rfl, h, P'.ok rl (.int _)⟩
      · rw [if_neg h] at P'
        exact P'.elim
    | _ => exact P.elim
  | _ => exact P.elim
theorem uNeg : UnR X (unaryOp .USub) (t1 W negAV) := fun pins s σ H x v Q I rx ⟨io, hp, a, rl, ra, P⟩ => by
  cases a with
  | int i =>
    obtain rfl := ra.int_inv
    exact un_neg pins s σ H _ v Q I rx ⟨i, rfl, P.ok rl (.int _)⟩
  | _ => exact P.elim
end

section
variable {W : Wd} {io : List Addr} {H : Hp} {hp : Hep}
theorem mapM_cons_some {A B : Type} {f : A → Option B} {x : A} {xs : List A} {ds : List B} (h : (x :: xs).mapM f = some ds) : ∃ d r, f x = some d ∧ xs.mapM f = some r ∧ ds = d :: r := by
  rw [List.mapM_cons] at h
  cases e : f x with
  | none =>
    rw [e] at h
    cases h
  | some d =>
    rw [e] at h
    cases e2 : xs.mapM f with
    | none =>
      rw [e2] at h
      cases h
    | some r =>
      rw [e2] at h
      cases h
      exact ⟨d, r, rfl, rfl, rfl⟩
theorem toD_list (n : Nat) (ih : ∀ (a : AV) (v : V) (d : PyData), toD n hp a = some d → RV W io H a v → Dp W.K H v d) : ∀ (xs : List AV) (vs : List V) (ds : List PyData), xs.mapM (toD n hp) = some ds → RVs W io H xs vs → DpAll W.K H vs ds
  | [], _, ds, h, .nil => by
    cases h
    exact .nil
  | x :: xs, _, ds, h, .cons r q => by
    obtain ⟨d, rr, h1, h2, rfl⟩ := mapM_cons_some h
    exact .cons (ih x _ d h1 r) (toD_list n ih xs _ rr h2 q)
theorem toD_in (R : Rl W io hp H) : ∀ (n : Nat) (a : AV) (v : V) (d : PyData), toD n hp a = some d → RV W io H a v → Dp W.K H v d
  | 0, _, _, _, h, _ => by cases h
  | n + 1, a, v, d, h, r => by
    have ih := toD_in R n
    cases r with
    | non =>
      cases h
      exact .non
    | bl b =>
      cases h
      exact .bl b
    | int i =>
      cases h
      exact .int i
    | str x =>
      cases h
      exact .str x
    | tup s q =>
      rename_i xs
      have h' : (xs.mapM (toD n hp)).map .tuple = some d := h
      obtain ⟨ds, h1, rfl⟩ := Option.map_eq_some_iff.mp h'
      exact .tup s (toD_list n ih _ _ ds h1 q)
    | rol s q =>
      rename_i xs
      have h' : (xs.mapM (toD n hp)).map .list = some d := h
      obtain ⟨ds, h1, rfl⟩ := Option.map_eq_some_iff.mp h'
      exact .lst (roL_sq s) (toD_list n ih _ _ ds h1 q)
    | ref e =>
      rename_i k p
      have h' : (match hp[k]? with
        | some (.lst xs) => (xs.mapM (toD n hp)).map .list
        | _ => none) = some d := h
      cases z : hp[k]? with
      | none =>
        rw [z] at h'
        cases h'
      | some o =>
        rw [z] at h'
        cases o with
        | lst xs =>
          have h2 : (xs.mapM (toD n hp)).map .list = some d := h'
          obtain ⟨ds, h1, rfl⟩ := Option.map_eq_some_iff.mp h2
          obtain ⟨vs, e1, r1⟩ := R.lst e z
          exact .lst (SqL.of e1) (toD_list n ih _ _ ds h1 r1)
        | _ => cases h'
    | adr a => cases h
    | ty a => cases h
    | cls a => cases h
end
/-- the depth of data -/
abbrev DD : Nat := 50
def eqD (a b : AV) (h : Hep) : Option Bool := match toD DD h a, toD DD h b with
  | some d, some e => if SeqAt.shaped d = true ∧ SeqAt.shaped e = true then some (PyData.eqv d e) else none
  | _, _ => none
def eqAV : D2 := fun a b h => (eqD a b h).map fun c => (.bl c, h)
def neAV : D2 := fun a b h => (eqD a b h).map fun c => (.bl (!c), h)
section
variable {W : Wd} {X : Cx}
theorem eqD_in {io : List Addr} {H : Hp} {hp : Hep} {a b : AV} {x y : V} {c : Bool} (e : eqD a b hp = some c) (R : Rl W io hp H) (ra : RV W io H a x) (rb : RV W io H b y) :
    ∃ d f, Dp W.K H x d ∧ Dp W.K H y f ∧ SeqAt.shaped d = true ∧ SeqAt.shaped f = true ∧ c = PyData.eqv d f := by
  unfold eqD at e
  cases z1 : toD DD hp a with
  | none =>
    rw [z1] at e
    cases e
  | some d =>
    cases z2 : toD DD hp b with
    | none =>
      rw [z1, z2] at e
      cases e
    | some f =>
      rw [z1, z2] at e
      have e' : (if SeqAt.shaped d = true ∧ SeqAt.shaped f = true then some (PyData.eqv d f) else none) = some c := e
      by_cases h : SeqAt.shaped d = true ∧ SeqAt.shaped f = true
      · rw [if_pos h] at e'
        cases e'
        exact ⟨d, f, toD_in R DD a x d z1 ra, toD_in R DD b y f z2 rb, h.1, h.2, rfl⟩
      · rw [if_neg h] at e'
        cases e'
theorem oEq (hK : X.K = W.K) (hu : X.A.units + 64 < cLine) : OpR X (compareOp .Eq) (t2 W eqAV) := op_imp (op_eqD hu) fun x y H Q ⟨io, hp, a, b, rl, ra, rb, P⟩ => by
  rw [hK]
  unfold eqAV at P
  cases z : eqD a b hp with
  | none =>
    rw [z] at P
    exact P.elim
  | some c =>
    rw [z] at P
    obtain ⟨d, f, h1, h2, h3, h4, rfl⟩ := eqD_in z rl ra rb
    exact ⟨d, f, h1, h2, h3, h4, Pop.ok P rl (.bl _)⟩
theorem oNe (hK : X.K = W.K) (hu : X.A.units + 64 < cLine) : OpR X (compareOp .NotEq) (t2 W neAV) := op_imp (op_neD hu) fun x y H Q ⟨io, hp, a, b, rl, ra, rb, P⟩ => by
  rw [hK]
  unfold neAV at P
  cases z : eqD a b hp with
  | none =>
    rw [z] at P
    exact P.elim
  | some c =>
    rw [z] at P
    obtain ⟨d, f, h1, h2, h3, h4, rfl⟩ := eqD_in z rl ra rb
    exact ⟨d, f, h1, h2, h3, h4, Pop.ok P rl (.bl _)⟩
end
end Dn
namespace Dn
open PySem PySem.Spec PyProof.Rows L2

section
variable {k : Type} [DecidableEq k]
variable {W : Wd} {io : List Addr} {H : Hp}
theorem RKs.vals : ∀ {xs : List (k × AV)} {vs : List (k × V)}, RKs W io H xs vs → RVs W io H (xs.map (·.2)) (vs.map (·.2))
  | _, _, .nil => .nil
  | _, _, .cons r q => .cons r (RKs.vals q)
end
def keyOf : AV → Option Key
  | .int i => some (.inl i)
  | .str x => some (.inr x)
  | _ => none
def ofKey : Key → AV
  | .inl i => .int i
  | .inr x => .str x
section
variable {W : Wd} {io : List Addr} {H : Hp}
theorem keyOf_in {a : AV} {v : V} {q : Key} (e : keyOf a = some q) (r : RV W io H a v) : v = kV q := by
  cases r with
  | int i =>
    cases e
    rfl
  | str x =>
    cases e
    rfl
  | _ => cases e
theorem rv_key (q : Key) : RV W io H (ofKey q) (kV q) := by
  cases q with
  | inl i => exact .int i
  | inr x => exact .str x
def keysOf : List AV → Option (List Key)
  | [] => some []
  | a :: r => match keyOf a, keysOf r with
    | some q, some l => some (q :: l)
    | _, _ => none
theorem keysOf_in : ∀ {xs : List AV} {vs : List V} {l : List Key}, keysOf xs = some l → RVs W io H xs vs → vs = l.map kV
  | [], _, l, e, .nil => by
    cases e
    rfl
  | a :: r, _, l, e, .cons ra t => by
    unfold keysOf at e
    cases z : keyOf a with
    | none =>
      rw [z] at e
      cases e
    | some q =>
      cases z2 : keysOf r with
      | none =>
        rw [z, z2] at e
        cases e
      | some l2 =>
        rw [z, z2] at e
        cases e
        rw [keyOf_in z ra, keysOf_in z2 t]
        rfl
theorem keysOf_map : ∀ (l : List Key), keysOf (l.map ofKey) = some l
  | [] => rfl
  | q :: r => by
    rw [List.map_cons]
    unfold keysOf
    rw [keysOf_map r]
    cases q <;> rfl
end

def cmpAV (fi : Int → Int → Bool) (fs : List Nat → List Nat → Bool) : D2 := fun a b h => match a, b with
  | .int i, .int j => some (.bl (fi i j), h)
  | .str x, .str y => some (.bl (fs x.cps.toList y.cps.toList), h)
  | _, _ => none
abbrev ltAV : D2 := cmpAV (fun i j => decide (i < j)) (fun x y => decide (x < y))
abbrev leAV : D2 := cmpAV (fun i j => decide (i ≤ j)) (fun x y => !decide (y < x))
abbrev gtAV : D2 := cmpAV (fun i j => decide (j < i)) (fun x y => decide (y < x))
abbrev geAV : D2 := cmpAV (fun i j => decide (j ≤ i)) (fun x y => !decide (x < y))
def isNonB : AV → Bool
  | .non => true
  | _ => false
def isNonAV : D2 := fun a b h => match b with
  | .non => some (.bl (isNonB a), h)
  | _ => none
def notNonAV : D2 := fun a b h => match b with
  | .non => some (.bl (!isNonB a), h)
  | _ => none
section
variable {W : Wd} {X : Cx}
theorem cmp_in {op : CmpOp} {fi : Int → Int → Bool} {fs : List Nat → List Nat → Bool} (h1 : OpR X (compareOp op) (rI0 fun i j => .bl (fi i j))) (h2 : OpR X (compareOp op) (fun x y H Q => ∃ i j, x = .str i ∧ y = .str j ∧ Q (.bl (fs i.cps.toList j.cps.toList)) H)) :
    OpR X (compareOp op) (t2 W (cmpAV fi fs)) := op_imp (h1.or h2) fun x y H Q ⟨io, hp, a, b, rl, ra, rb, P⟩ => by
  cases a with
  | int i =>
    cases b with
    | int j =>
      obtain rfl := ra.int_inv
      obtain rfl := rb.int_inv
      exact .inl ⟨i, j, rfl, rfl, P.ok rl (.bl _)⟩
    | _ => exact P.elim
  | str i =>
    cases b with
    | str j =>
      obtain rfl := ra.str_inv
      obtain rfl := rb.str_inv
      exact .inr ⟨i, j, rfl, rfl, P.ok rl (.bl _)⟩
    | _ => exact P.elim
  | _ => exact P.elim
theorem oLt : OpR X (compareOp .Lt) (t2 W ltAV) := cmp_in op_lt op_lt_str
theorem oLe : OpR X (compareOp .LtE) (t2 W leAV) := cmp_in op_le op_le_str
theorem oGt : OpR X (compareOp .Gt) (t2 W gtAV) := cmp_in op_gt op_gt_str
theorem oGe : OpR X (compareOp .GtE) (t2 W geAV) := cmp_in op_ge op_ge_str
theorem non_dec {io : List Addr} {H : Hp} {a : AV} {v : V} (r : RV W io H a v) : isNonB a = decide (v = .non) := by
  cases r <;> rfl
theorem oIs : OpR X (compareOp .Is) (t2 W isNonAV) := op_imp op_isN fun x y H Q ⟨io, hp, a, b, rl, ra, rb, P⟩ => by
  cases b with
  | non =>
    obtain rfl := rb.non_inv
    refine ⟨rfl, ?_⟩
    rw [← non_dec ra]
    exact Pop.ok P rl (.bl _)
  | _ => exact P.elim
theorem oIsNot : OpR X (compareOp .IsNot) (t2 W notNonAV) := op_imp op_notN fun x y H Q ⟨io, hp, a, b, rl, ra, rb, P⟩ => by
  cases b with
  | non =>
    obtain rfl := rb.non_inv
    refine ⟨rfl, ?_⟩
    rw [← non_dec ra]
    exact Pop.ok P rl (.bl _)
  | _ => exact P.elim
end

def flatA : AV → Bool
  | .non => true
  | .bl _ => true
  | .int _ => true
  | .str _ => true
  | _ => false
def toV0 : AV → V
  | .bl b => .bl b
  | .int i => .int i
  | .str x => .str x
  | _ => .non
def inStr (x y : Str) : Bool := !(Builtin.Str.occurrences y x 0 y.length 1).isEmpty
/-- is a in b -/
def inB (a b : AV) (h : Hep) : Option Bool := match b with
  | .str y => (match a with
    | .str x => some (inStr x y)
    | _ => none)
  | .tup xs => if flatA a = true ∧ xs.all flatA = true then some (inV (toV0 a) (xs.map toV0)) else none
  | .ref n => (match h[n]? with
    | some (.lst xs) => (match toD DD h a, xs.mapM (toD DD h) with
      | some d, some ds => if SeqAt.shaped d = true ∧ SeqAt.shaped (.list ds) = true then some (ds.any fun z => PyData.eqv z d) else none
      | _, _ => none)
    | some (.dK kvs) => (keyOf a).map fun q => (dget kvs q).isSome
    | some (.frz (.dK kvs)) => (keyOf a).map fun q => (dget kvs q).isSome
    | _ => none)
  | _ => none
def inAV : D2 := fun a b h => (inB a b h).map fun c => (.bl c, h)
def notInAV : D2 := fun a b h => (inB a b h).map fun c => (.bl (!c), h)
section
variable {W : Wd} {X : Cx}
theorem flat_in {io : List Addr} {H : Hp} {a : AV} {v : V} (r : RV W io H a v) (f : flatA a = true) : v = toV0 a ∧ flatV v = true := by
  cases r with
  | non => exact ⟨rfl, rfl⟩
  | bl b => exact ⟨rfl, rfl⟩
  | int b => exact ⟨rfl, rfl⟩
  | str b => exact ⟨rfl, rfl⟩
  | _ => cases f
theorem flats_in {io : List Addr} {H : Hp} : ∀ {xs : List AV} {vs : List V}, RVs W io H xs vs → xs.all flatA = true → vs = xs.map toV0 ∧ vs.all flatV = true
  | _, _, .nil, _ => ⟨rfl, rfl⟩
  | _, _, .cons r t, f => by
    rw [List.all_cons, Bool.and_eq_true] at f
    obtain ⟨e1, e2⟩ := flat_in r f.1
    obtain ⟨e3, e4⟩ := flats_in t f.2
    refine ⟨by rw [List.map_cons, ← e1, ← e3], ?_⟩
    rw [List.all_cons, e2, e4]
    rfl
/-- what a dict gives, by values -/
def rDIn (neg : Bool) : R2 := fun y x H Q => ∃ a o, x = .ref a ∧ DGet H a y o ∧ Q (.bl (if neg then !o.isSome else o.isSome)) H
theorem op_dIn (hu : X.A.units + 1 < cLine) : OpR X (compareOp .In) (rDIn false) := fun pins s σ H x y v u Q I rx ry ⟨a, o, ey, g, q⟩ => by
  subst ey
  obtain rfl : u = Value.ref a := ry
  exact d_in hu I g rx fun s3 I3 => ⟨.bl o.isSome, H, I3, rfl, q⟩
theorem op_dNotIn (hu : X.A.units + 1 < cLine) : OpR X (compareOp .NotIn) (rDIn true) := fun pins s σ H x y v u Q I rx ry ⟨a, o, ey, g, q⟩ => by
  subst ey
  obtain rfl : u = Value.ref a := ry
  exact d_notIn hu I g rx fun s3 I3 => ⟨.bl (!o.isSome), H, I3, rfl, q⟩
/-- the four ways of «in» -/
def rIn4 (K : PySem.W.Frag) (neg : Bool) : R2 := fun x y H Q =>
  ((∃ i j, x = .str i ∧ y = .str j ∧ Q (.bl (if neg then !(inStr i j) else inStr i j)) H) ∨ rIn K neg x y H Q) ∨
  ((∃ d ds, Dp K H x d ∧ Dp K H y (.list ds) ∧ SeqAt.shaped d = true ∧ SeqAt.shaped (.list ds) = true ∧ Q (.bl (if neg then !(ds.any fun z => PyData.eqv z d) else ds.any fun z => PyData.eqv z d)) H) ∨ rDIn neg x y H Q)
theorem op_in4 (hu : X.A.units + 65 < cLine) : OpR X (compareOp .In) (rIn4 X.K false) :=
  OpR.or (OpR.or op_in_str op_in_seq) (OpR.or (op_inD hu) (op_dIn (by omega)))
theorem op_notIn4 (hu : X.A.units + 65 < cLine) : OpR X (compareOp .NotIn) (rIn4 X.K true) :=
  OpR.or (OpR.or op_notin_str op_notIn_seq) (OpR.or (op_notInD hu) (op_dNotIn (by omega)))
theorem dget_in {io : List Addr} {H : Hp} {p : Addr} {kvs : List (Key × AV)} {vs : List (Key × V)} {a : AV} {x : V} {q : Key} (hr : Rd H p (.dK vs)) (r : RKs W io H kvs vs) (e : keyOf a = some q) (ra : RV W io H a x) :
    ∃ o, DGet H p x o ∧ RVo W io H (dget kvs q) o := ⟨_, .inl ⟨vs, q, hr, keyOf_in e ra, rfl⟩, r.get q⟩
theorem RVo.some_eq {io : List Addr} {H : Hp} {o : Option AV} {o' : Option V} (r : RVo W io H o o') : o.isSome = o'.isSome := by
  cases o <;> cases o' <;> first | rfl | exact r.elim
theorem tup_key {io : List Addr} {H : Hp} {hp : Hep} (rl : Rl W io hp H) {ks : List AV} {x : V} {q : List Key} (e : keysOf ks = some q) (ra : RV W io H (.tup ks) x) : ∃ b, x = .ref b ∧ SqT W.K H b (q.map kV) := by
  obtain ⟨p, vs, rfl, h1, r1⟩ := tupOf_in (xs := ks) rfl ra
  rw [keysOf_in e r1] at h1
  exact ⟨p, rfl, h1⟩
theorem inB_in {io : List Addr} {H : Hp} {hp : Hep} {neg : Bool} {a b : AV} {x y : V} {c : Bool} {Q : VK} (e : inB a b hp = some c) (R : Rl W io hp H) (ra : RV W io H a x) (rb : RV W io H b y)
    (q : Q (.bl (if neg then !c else c)) H) : rIn4 W.K neg x y H Q := by
  cases b with
  | str j =>
    cases a with
    | str i =>
      cases e
      obtain rfl := ra.str_inv
      obtain rfl := rb.str_inv
      exact .inl (.inl ⟨i, j, rfl, rfl, q⟩)
    | _ => cases e
  | tup xs =>
    have e' : (if flatA a = true ∧ xs.all flatA = true then some (inV (toV0 a) (xs.map toV0)) else none) = some c := e
    by_cases h : flatA a = true ∧ xs.all flatA = true
    · rw [if_pos h] at e'
      cases e'
      obtain ⟨p, vs, rfl, h1, r1⟩ := tupOf_in (xs := xs) rfl rb
      obtain ⟨e1, e2⟩ := flat_in ra h.1
      obtain ⟨e3, e4⟩ := flats_in r1 h.2
      rw [← e1, ← e3] at q
      exact .inl (.inr ⟨p, vs, rfl, .inr h1, e2, e4, q⟩)
    · rw [if_neg h] at e'
      cases e'
  | ref n =>
    cases rb with
    | ref hi =>
      rename_i p
      have e0 : (match hp[n]? with
        | some (.lst xs) => (match toD DD hp a, xs.mapM (toD DD hp) with
          | some d, some ds => if SeqAt.shaped d = true ∧ SeqAt.shaped (.list ds) = true then some (ds.any fun z => PyData.eqv z d) else none
          | _, _ => none)
        | some (.dK kvs) => (keyOf a).map fun q => (dget kvs q).isSome
        | some (.frz (.dK kvs)) => (keyOf a).map fun q => (dget kvs q).isSome
        | _ => none) = some c := e
      cases z : hp[n]? with
      | none =>
        rw [z] at e0
        cases e0
      | some o =>
        rw [z] at e0
        cases o with
        | lst xs =>
          have e1 : (match toD DD hp a, xs.mapM (toD DD hp) with
            | some d, some ds => if SeqAt.shaped d = true ∧ SeqAt.shaped (.list ds) = true then some (ds.any fun z => PyData.eqv z d) else none
            | _, _ => none) = some c := e0
          cases z1 : toD DD hp a with
          | none =>
            rw [z1] at e1
            cases e1
          | some d =>
            cases z2 : xs.mapM (toD DD hp) with
            | none =>
              rw [z1, z2] at e1
              cases e1
            | some ds =>
              rw [z1, z2] at e1
              have e2 : (if SeqAt.shaped d = true ∧ SeqAt.shaped (.list ds) = true then some (ds.any fun z => PyData.eqv z d) else none) = some c := e1
              by_cases h : SeqAt.shaped d = true ∧ SeqAt.shaped (.list ds) = true
              · rw [if_pos h] at e2
                cases e2
                obtain ⟨vs, e3, r3⟩ := R.lst hi z
                exact .inr (.inl ⟨d, ds, toD_in R DD a x d z1 ra, .lst (SqL.of e3) (toD_list DD (toD_in R DD) xs vs ds z2 r3), h.1, h.2, q⟩)
              · rw [if_neg h] at e2
                cases e2
        | dK kvs =>
          obtain ⟨w, e1, rfl⟩ := Option.map_eq_some_iff.mp (show (keyOf a).map (fun q => (dget kvs q).isSome) = some c from e0)
          obtain ⟨vs, e3, r3⟩ := R.dK hi z
          obtain ⟨o, g, ro⟩ := dget_in (.inl e3) r3 e1 ra
          rw [ro.some_eq] at q
          exact .inr (.inr ⟨p, o, rfl, g, q⟩)
        | frz o2 =>
          cases o2 with
          | dK kvs =>
            obtain ⟨w, e1, rfl⟩ := Option.map_eq_some_iff.mp (show (keyOf a).map (fun q => (dget kvs q).isSome) = some c from e0)
            obtain ⟨u, e3, r3⟩ := R.at hi z
            cases r3 with
            | frz r4 =>
              cases r4 with
              | dK r5 =>
                obtain ⟨o, g, ro⟩ := dget_in (.inr ⟨_, e3⟩) r5 e1 ra
                rw [ro.some_eq] at q
                exact .inr (.inr ⟨p, o, rfl, g, q⟩)
          | _ => cases e0
        | ins t fs => cases e0
        | dT kvs => cases e0
  | _ => cases e
theorem oIn (hK : X.K = W.K) (hu : X.A.units + 65 < cLine) : OpR X (compareOp .In) (t2 W inAV) := op_imp (op_in4 hu) fun x y H Q ⟨io, hp, a, b, rl, ra, rb, P⟩ => by
  rw [hK]
  unfold inAV at P
  cases z : inB a b hp with
  | none =>
    rw [z] at P
    exact P.elim
  | some c =>
    rw [z] at P
    exact inB_in (neg := false) z rl ra rb (Pop.ok P rl (.bl _))
theorem oNotIn (hK : X.K = W.K) (hu : X.A.units + 65 < cLine) : OpR X (compareOp .NotIn) (t2 W notInAV) := op_imp (op_notIn4 hu) fun x y H Q ⟨io, hp, a, b, rl, ra, rb, P⟩ => by
  rw [hK]
  unfold notInAV at P
  cases z : inB a b hp with
  | none =>
    rw [z] at P
    exact P.elim
  | some c =>
    rw [z] at P
    exact inB_in (neg := true) z rl ra rb (Pop.ok P rl (.bl _))
end

def cutA (xs : List AV) (lo hi : Option Int) : List AV := (xs.drop (HT.sIx xs.length 0 lo)).take (HT.sIx xs.length xs.length hi - HT.sIx xs.length 0 lo)
def idxAV : D2 := fun a b h => match seqOf h a with
  | some xs => (match b with
    | .int i => (atI xs i).map fun v => (v, h)
    | _ => none)
  | none => (match a with
    | .str z => (match b with
      | .int i => if z.length ≤ SZ then (atI z.cps.toList i).map fun c => (.str ⟨#[c]⟩, h) else none
      | _ => none)
    | .ref n => (match h[n]? with
      | some (.dK kvs) => (keyOf b).bind fun q => (dget kvs q).map fun v => (v, h)
      | some (.frz (.dK kvs)) => (keyOf b).bind fun q => (dget kvs q).map fun v => (v, h)
      | _ => none)
    | _ => none)
def sliceAV (a : AV) (lo hi : Option Int) (h : Hep) : Op AV := match tupOf a with
  | some xs => mkT (cutA xs lo hi) h
  | none => (match lstOf h a with
    | some xs => mkL (cutA xs lo hi) h
    | none => (match a with
      | .str z => if z.length ≤ SZ then some (.str (cutS z lo hi), h) else none
      | _ => none))
section
variable {W : Wd} {X : Cx}
theorem ix_imp {r r' : R2} (h : IxR X r) (i : ∀ x y H Q, r' x y H Q → r x y H Q) : IxR X r' := fun value slice pins s σ H x y v u Q I r1 r2 q => h value slice pins s σ H x y v u Q I r1 r2 (i x y H Q q)
def rIxDk : R2 := fun x y H Q => ∃ a v, x = .ref a ∧ DGet H a y (some v) ∧ Q v H
theorem ix_dict (hu : X.A.units + 1 < cLine) : IxR X rIxDk := by
  intro value slice pins s σ H x y v u Q I rx ry h hs
  obtain ⟨a, w, rfl, g, q⟩ := h
  obtain rfl : v = Value.ref a := rx
  exact tail_any (dict_typeIs I g) PySem.F.slot_dict_getitem.lookup (d_getItem hu I g ry fun w' s3 I3 rw' => ⟨w, H, I3, rw', q⟩) hs
theorem RVs.atI {io : List Addr} {H : Hp} {xs : List AV} {vs : List V} {i : Int} {x : AV} (r : RVs W io H xs vs) (e : L2.atI xs i = some x) : ∃ v, L2.atI vs i = some v ∧ RV W io H x v := by
  unfold L2.atI at e ⊢
  rw [← r.len]
  cases z : ixN xs.length i with
  | none =>
    rw [z] at e
    cases e
  | some j =>
    rw [z] at e
    exact r.get e
theorem xIdx (hK : X.K = W.K) (hu : X.A.units + 1 < cLine) : IxR X (t2 W idxAV) := ix_imp (IxR.or ix_seq (ix_dict hu)) fun x y H Q ⟨io, hp, a, b, rl, ra, rb, P⟩ => by
  rw [hK]
  unfold idxAV at P
  cases z : seqOf hp a with
  | some xs =>
    rw [z] at P
    obtain ⟨p, vs, rfl, h1, r1⟩ := seqOf_in z rl ra
    cases b with
    | int i =>
      obtain rfl := rb.int_inv
      have P' : Pop W (RV W) Q io H ((L2.atI xs i).map fun v => (v, hp)) := P
      cases z2 : L2.atI xs i with
      | none =>
        rw [z2] at P'
        exact P'.elim
      | some v =>
        rw [z2] at P'
        obtain ⟨w, e2, r2⟩ := r1.atI z2
        have q : Q w H := Pop.ok P' rl r2
        rcases h1 with h1 | h1
        · exact .inl (.inl ⟨p, vs, i, w, rfl, rfl, h1, e2, q⟩)
        · exact .inl (.inr (.inl ⟨p, vs, i, w, rfl, rfl, h1, e2, q⟩))
    | _ => exact P.elim
  | none =>
    rw [z] at P
    cases a with
    | str t =>
      obtain rfl := ra.str_inv
      cases b with
      | int i =>
        obtain rfl := rb.int_inv
        have P' : Pop W (RV W) Q io H (if t.length ≤ SZ then (L2.atI t.cps.toList i).map (fun c => (AV.str ⟨#[c]⟩, hp)) else none) := P
        by_cases h : t.length ≤ SZ
        · rw [if_pos h] at P'
          cases z2 : L2.atI t.cps.toList i with
          | none =>
            rw [z2] at P'
            exact P'.elim
          | some c =>
            rw [z2] at P'
            exact .inl (.inr (.inr ⟨t, i, c, rfl, rfl, szL h, z2, Pop.ok P' rl (.str _)⟩))
        · rw [if_neg h] at P'
          exact P'.elim
      | _ => exact P.elim
    | ref n =>
      cases ra with
      | @ref _ p hi =>
        have P0 : Pop W (RV W) Q io H (match hp[n]? with
          | some (.dK kvs) => (keyOf b).bind fun q => (dget kvs q).map fun v => (v, hp)
          | some (.frz (.dK kvs)) => (keyOf b).bind fun q => (dget kvs q).map fun v => (v, hp)
          | _ => none) := P
        have fin : ∀ {kvs : List (Key × AV)} {vs : List (Key × V)}, Rd H p (.dK vs) → RKs W io H kvs vs → Pop W (RV W) Q io H ((keyOf b).bind fun q => (dget kvs q).map fun v => (v, hp)) → rIxDk (.ref p) y H Q := by
          intro kvs vs hr r P1
          cases z2 : keyOf b with
          | none =>
            rw [z2] at P1
            exact P1.elim
          | some q =>
            rw [z2] at P1
            obtain ⟨o, g, ro⟩ := dget_in hr r z2 rb
            have P2 : Pop W (RV W) Q io H ((dget kvs q).map fun v => (v, hp)) := P1
            cases z3 : dget kvs q with
            | none =>
              rw [z3] at P2
              exact P2.elim
            | some v =>
              rw [z3] at P2 ro
              cases o with
              | none => exact ro.elim
              | some w => exact ⟨p, w, rfl, g, Pop.ok P2 rl ro⟩
        cases z1 : hp[n]? with
        | none =>
          rw [z1] at P0
          exact P0.elim
        | some o =>
          rw [z1] at P0
          cases o with
          | dK kvs =>
            obtain ⟨vs, e3, r3⟩ := rl.dK hi z1
            exact .inr (fin (.inl e3) r3 P0)
          | frz o2 =>
            cases o2 with
            | dK kvs =>
              obtain ⟨u, e3, r3⟩ := rl.at hi z1
              cases r3 with
              | frz r4 =>
                cases r4 with
                | dK r5 => exact .inr (fin (.inr ⟨_, e3⟩) r5 P0)
            | _ => exact P0.elim
          | _ => exact P0.elim
    | _ => exact P.elim
theorem ixD {a b : Expr} {f g : DE} {r : D2} {M : Md W} {E : WX} {pos : Pos} (hr : IxR X (t2 W r)) (ha : PE X a (tD W M E f)) (hb : PE X b (tD W M E g)) (hs : PlainIx b) : PE X (.Subscript a b pos) (tD W M E (dOp r f g)) := peI (pe_ix hr ha hb hs) fun _ _ _ h => op_in h

abbrev DO := Sl → Hep → R (Option Int)
def dNoP : DO := fun _ h => .ok none h
def dPrt (f : DE) : DO := fun s h => (f s h).bind fun a h1 => match a with
  | .int i => .ok (some i) h1
  | _ => .stuck
def dSlc (f : DE) (l u : DO) : DE := fun s h => (f s h).bind fun a h1 => (l s h1).bind fun lo h2 => (u s h2).bind fun hi h3 => R.of (sliceAV a lo hi h3)
abbrev rlO : Rel (Option Int) (Option Int) := fun _ _ a b => a = b
theorem poI {e : Option Expr} {t t' : TO} (h : PO X e t) (i : ∀ σ H Q, t' σ H Q → t σ H Q) : PO X e t' := ⟨fun pins s σ H Q I q => h.run pins s σ H Q I (i σ H Q q)⟩
section
variable {M : Md W} {E : WX} {e : Expr} {lo hi : Option Expr} {f : DE} {l u : DO} {pos p2 : Pos}
theorem noP : PO X none (tG W M rlO E dNoP) := poI po_none fun σ H Q ⟨io, hp, as, rl, S, P⟩ => P.ok rl rfl
theorem prtD (h : PE X e (tD W M E f)) : PO X (some e) (tG W M rlO E (dPrt f)) := poI (po_some h) fun σ H Q ⟨io, hp, as, rl, S, P⟩ =>
  (step (rh := RV W) (f := f) rl S P).imp fun x H1 ⟨io2, hp2, a, e2, rl2, ra, P2⟩ => by
    cases a with
    | int i =>
      obtain rfl := ra.int_inv
      exact ⟨i, rfl, P2.ok rl2 rfl⟩
    | _ => exact P2.elim
theorem RVs.cut {io : List Addr} {H : Hp} {xs : List AV} {vs : List V} (r : RVs W io H xs vs) (lo hi : Option Int) : RVs W io H (cutA xs lo hi) (cutV vs lo hi) := by
  unfold cutA cutV
  rw [r.len]
  exact (r.drop _).take _
theorem cut_whole {vs : List V} {lo hi : Option Int} (h : HT.sIx vs.length 0 lo = 0 ∧ HT.sIx vs.length vs.length hi = vs.length) : cutV vs lo hi = vs := by
  unfold cutV
  rw [h.1, h.2]
  simp
def rSl3 (K : PySem.W.Frag) : V → Option Int → Option Int → Hp → VK → Prop := fun x lo hi H Q => (rSlA K x lo hi H Q ∨ rSlL K x lo hi H Q) ∨ rSlS x lo hi H Q
theorem sl3 : SlR X (rSl3 X.K) := SlR.or (SlR.or sl_tupA sl_list) sl_str
theorem slcD (hK : X.K = W.K) (he : PE X e (tD W M E f)) (hl : PO X lo (tG W M rlO E l)) (hu : PO X hi (tG W M rlO E u)) : PE X (.Subscript e (.Slice lo hi none p2) pos) (tD W M E (dSlc f l u)) :=
  peI (pe_slice sl3 he hl hu) fun σ H Q ⟨io, hp, as, rl, S, P⟩ =>
    (step (rh := RV W) (f := f) rl S P).imp fun x H1 ⟨io1, hp1, a, e1, rl1, ra, P1⟩ =>
      (step (rh := rlO) (f := l) rl1 (M.mono e1 S) P1).imp fun o H2 ⟨io2, hp2, o2, e2, rl2, ro, P2⟩ =>
        (step (rh := rlO) (f := u) rl2 (M.mono e2 (M.mono e1 S)) P2).imp fun o' H3 ⟨io3, hp3, o3, e3, rl3, ro', P3⟩ => by
          subst ro ro'
          rw [hK]
          have ra := (ra.mono e2).mono e3
          have P4 := P3.of
          unfold sliceAV at P4
          cases z : tupOf a with
          | some xs =>
            rw [z] at P4
            obtain ⟨p, vs, rfl, h1, r1⟩ := tupOf_in z ra
            obtain ⟨_, k1, k2⟩ := mkT_in P4 rl3 (r1.cut o2 o3)
            exact .inl (.inl ⟨p, vs, rfl, h1, fun hw => k2 p (by rw [cut_whole hw]; exact h1), fun _ => k1⟩)
          | none =>
            rw [z] at P4
            cases z2 : lstOf hp3 a with
            | some xs =>
              rw [z2] at P4
              obtain ⟨p, vs, rfl, h1, r1⟩ := lstOf_in z2 rl3 ra
              obtain ⟨_, k1⟩ := mkL_in P4 rl3 (r1.cut o2 o3)
              exact .inl (.inr ⟨p, vs, rfl, h1, k1⟩)
            | none =>
              rw [z2] at P4
              cases a with
              | str t =>
                obtain rfl := ra.str_inv
                have P5 : Pop W (RV W) Q io3 H3 (if t.length ≤ SZ then some (AV.str (cutS t o2 o3), hp3) else none) := P4
                by_cases h : t.length ≤ SZ
                · rw [if_pos h] at P5
                  exact .inr ⟨t, rfl, szL h, Pop.ok P5 rl3 (.str _)⟩
                · rw [if_neg h] at P5
                  exact P5.elim
              | _ => exact P4.elim
/-- xs[::-1] of a list -/
def revAV : D1 := fun a h => match lstOf h a with
  | some xs => mkL xs.reverse h
  | none => none
theorem revD {k : Nat} {p1 p3 : Pos} (hK : X.K = W.K) (he : PE X e (tD W M E f)) : PE X (.Subscript e (.Slice none none (some (.UnaryOp .USub (.Constant (.int 1) k p1) p2)) p3) pos) (tD W M E (dUn revAV f)) :=
  peI (pe_revL he) fun σ H Q h => by
    refine (un_in (M := M) (E := E) h).imp fun x H1 ⟨io2, hp2, a, rl2, ra, P2⟩ => ?_
    rw [hK]
    unfold revAV at P2
    cases z : lstOf hp2 a with
    | some xs =>
      rw [z] at P2
      obtain ⟨p, vs, rfl, h1, r1⟩ := lstOf_in z rl2 ra
      exact ⟨p, vs, rfl, h1, (mkL_in P2 rl2 r1.rev).2⟩
    | none =>
      rw [z] at P2
      exact P2.elim
end
end

def dLst (f : DA) : DE := fun s h => (f s h).bind fun xs h1 => R.of (mkL xs h1)
def dTup (f : DA) : DE := fun s h => (f s h).bind fun xs h1 => R.of (mkT xs h1)
section
variable {W : Wd} {X : Cx} {M : Md W} {E : WX} {es : List Expr} {f : DA} {pos : Pos}
theorem lstD (h : PA X es (tDA W M E f)) : PE X (.List es pos) (tD W M E (dLst f)) := peI (pe_lst h) fun σ H Q ⟨io, hp, as, rl, S, P⟩ =>
  (step (rh := RVs W) (f := f) rl S P).imp fun x H1 ⟨io2, hp2, a, e2, rl2, ra, P2⟩ => mkL_in P2.of rl2 ra
theorem tupD {k : Nat} (h : PA X es (tDA W M E f)) : PE X (.Tuple es k pos) (tD W M E (dTup f)) := peI (pe_tup h) fun σ H Q ⟨io, hp, as, rl, S, P⟩ =>
  (step (rh := RVs W) (f := f) rl S P).imp fun x H1 ⟨io2, hp2, a, e2, rl2, ra, P2⟩ => by
    obtain ⟨k1, k2, _⟩ := mkT_in P2.of rl2 ra
    exact ⟨k1, k2⟩
end
end Dn
namespace Dn
open PySem PySem.Spec PyProof.Rows L2

def pickD (w i : Nat) (kv : Key × AV) : AV := match w with
  | 0 => ofKey kv.1
  | 1 => kv.2
  | 2 => .tup [ofKey kv.1, kv.2]
  | _ => .tup [.int i, ofKey kv.1]
/-- the item of a turn: none is a fault, some none the end -/
def Src.next (s : Src) (i : Nat) (h : Hep) : Option (Option AV) := match s with
  | .fix xs => some xs[i]?
  | .at n => (match h[n]? with
    | some (.lst xs) => some xs[i]?
    | _ => none)
  | .enF xs => some (xs[i]?.map fun x => .tup [.int i, x])
  | .enA n => (match h[n]? with
    | some (.lst xs) => some (xs[i]?.map fun x => .tup [.int i, x])
    | _ => none)
  | .zip m n => (match h[m]?, h[n]? with
    | some (.lst xs), some (.lst ys) => some (match xs[i]?, ys[i]? with
      | some x, some y => some (.tup [x, y])
      | _, _ => none)
    | _, _ => none)
  | .dK n w => (match h[n]? with
    | some (.frz (.dK kvs)) => some (kvs[i]?.map (pickD w i))
    | _ => none)
abbrev DI := Sl → Hep → R Src
/-- the iterator J gives what the source gives, in every later heap -/
def RSrc (W : Wd) : Rel Src It := fun io H src J => ∀ io' H' hp, Ext W io H io' H' → Rl W io' hp H' →
  (∀ i, src.next i hp = some none → J.stop i H') ∧
  ∀ i x, src.next i hp = some (some x) → J.go i H' ∧ ∀ v H2, J.yld i H' v H2 → Ext W io' H' io' H2 ∧ Rl W io' hp H2 ∧ RV W io' H2 x v

/-- a target -/
abbrev DG := AV → Sl → Option Sl
abbrev DGs := List AV → Sl → Option Sl
def dgN (i : Nat) : DG := fun v s => some (s.set i (some v))
def dgT (g : DGs) : DG := fun v s => match tupOf v with
  | some xs => g xs s
  | none => none
def dg0 : DGs := fun xs s => match xs with
  | [] => some s
  | _ => none
def dgC (g : DG) (r : DGs) : DGs := fun xs s => match xs with
  | x :: t => (g x s).bind fun s1 => r t s1
  | [] => none
/-- C: what is kept of the slots -/
abbrev CS := L2.St → L2.St → Prop
def tgG (W : Wd) (M : Md W) (C : CS) (g : DG) : TG := fun v σ H Q => ∃ io hp as x, Rl W io hp H ∧ M.rel io H as σ ∧ RV W io H x v ∧ match g x as with
  | some as' => ∀ σ', M.rel io H as' σ' → C σ σ' → Q σ' H
  | none => False
def tgGs (W : Wd) (M : Md W) (C : CS) (g : DGs) : TGs := fun vs σ H Q => ∃ io hp as xs, Rl W io hp H ∧ M.rel io H as σ ∧ RVs W io H xs vs ∧ match g xs as with
  | some as' => ∀ σ', M.rel io H as' σ' → C σ σ' → Q σ' H
  | none => False
def anyC : CS := fun _ _ => True
def wipC (vs : List Nat) : CS := fun σ σ' => wipe σ' vs = wipe σ vs
structure CSok (C : CS) : Prop where
  rf : ∀ σ, C σ σ
  tr : ∀ a b c, C a b → C b c → C a c
theorem anyC_ok : CSok anyC := ⟨fun _ => trivial, fun _ _ _ _ _ => trivial⟩
theorem wipC_ok (vs : List Nat) : CSok (wipC vs) := ⟨fun _ => rfl, fun _ _ _ h k => Eq.trans k h⟩
theorem wipe_set {i : Nat} {x : Option V} : ∀ {vs : List Nat} (σ : L2.St), i ∈ vs → wipe (σ.set i x) vs = wipe σ vs
  | v :: vs, σ, h => by
    unfold wipe
    by_cases e : i ∈ vs
    · rw [wipe_set σ e]
    · have ev : i = v := by
        rcases List.mem_cons.mp h with h | h
        · exact h
        · exact absurd h e
      subst ev
      apply List.ext_getElem?
      intro j
      by_cases hj : i = j
      · subst hj
        by_cases hl : i < σ.length
        · rw [List.getElem?_set_self (by rw [wipe_length]; simpa using hl), List.getElem?_set_self (by rw [wipe_length]; exact hl)]
        · rw [List.getElem?_eq_none (by simp [wipe_length]; omega), List.getElem?_eq_none (by simp [wipe_length]; omega)]
      · rw [List.getElem?_set_ne hj, List.getElem?_set_ne hj]
        by_cases hm : j ∈ vs
        · have h1 : ∀ (τ : L2.St), τ.length = σ.length → (wipe τ vs)[j]? = if j < σ.length then some none else none := fun τ hl => by
            have := wipe_at (vs := vs) τ hm
            rw [this, hl]
          rw [h1 _ (by simp), h1 _ rfl]
        · rw [wipe_out hm, wipe_out hm, List.getElem?_set_ne hj]
where
  wipe_at {j : Nat} : ∀ {vs : List Nat} (τ : L2.St), j ∈ vs → (wipe τ vs)[j]? = if j < τ.length then some none else none
    | v :: vs, τ, h => by
      unfold wipe
      by_cases e : v = j
      · subst e
        by_cases hl : v < τ.length
        · rw [List.getElem?_set_self (by rw [wipe_length]; exact hl), if_pos hl]
        · rw [List.getElem?_eq_none (by simp [wipe_length]; omega), if_neg hl]
      · rw [List.getElem?_set_ne e]
        rcases List.mem_cons.mp h with h | h
        · exact absurd h.symm e
        · exact wipe_at τ h
theorem wipe_wipe (σ : L2.St) (vs : List Nat) : wipe (wipe σ vs) vs = wipe σ vs := by
  have go : ∀ ws : List Nat, (∀ w ∈ ws, w ∈ vs) → wipe (wipe σ ws) vs = wipe σ vs := by
    intro ws
    induction ws with
    | nil => intro _; rfl
    | cons w ws ih =>
      intro h
      show wipe ((wipe σ ws).set w none) vs = _
      rw [wipe_set _ (h w List.mem_cons_self)]
      exact ih fun v hv => h v (List.mem_cons_of_mem _ hv)
  exact go vs fun _ h => h

section
variable {W : Wd} {M : Md W} {X : Cx} {pos : Pos} {C : CS}
theorem pgI {e : Expr} {t t' : TG} (h : PG X e t) (i : ∀ v σ H Q, t' v σ H Q → t v σ H Q) : PG X e t' := ⟨fun pins s σ H v u Q I r q => h.run pins s σ H v u Q I r (i v σ H Q q)⟩
theorem pgsI {e : List Expr} {t t' : TGs} (h : PGs X e t) (i : ∀ v σ H Q, t' v σ H Q → t v σ H Q) : PGs X e t' := ⟨fun pins s σ H v u Q I r q => h.run pins s σ H v u Q I r (i v σ H Q q)⟩
theorem gN {i : Nat} {x : Str} (hN : X.N.Nodup) (hi : X.N[i]? = some x) (hx : Loc X.env.scope x) (ho : M.ok i) (hC : ∀ σ v, C σ (σ.set i (some v))) (hf : X.fn x = true ∨ X.env.scope.names.lookup x = some .local := by first | exact .inl rfl | exact .inr rfl | assumption) : PG X (.Name x pos) (tgG W M C (dgN i)) :=
  pgI (pg_name hN hi hx hf) fun v σ H Q ⟨io, hp, as, y, rl, S, r, k⟩ => k _ (M.set S r ho) (hC _ _)
theorem gs0 (hC : CSok C) : PGs X [] (tgGs W M C dg0) := pgsI pgs_nil fun v σ H Q ⟨io, hp, as, xs, rl, S, r, k⟩ => by
  cases xs with
  | nil =>
    cases r
    exact ⟨rfl, k σ S (hC.rf σ)⟩
  | cons x t => exact k.elim
theorem gsC {e : Expr} {es : List Expr} {g : DG} {gs : DGs} (hC : CSok C) (h1 : PG X e (tgG W M C g)) (h2 : PGs X es (tgGs W M C gs)) (hs : (assignEach (e :: es) X.env).map (·.2) = assign e X.env :: (assignEach es X.env).map (·.2) := by rfl) : PGs X (e :: es) (tgGs W M C (dgC g gs)) :=
  pgsI (pgs_cons h1 h2 hs) fun v σ H Q ⟨io, hp, as, xs, rl, S, r, k⟩ => by
    cases xs with
    | nil => exact k.elim
    | cons x t =>
      cases r with
      | cons r1 r2 =>
        refine ⟨_, _, rfl, io, hp, as, x, rl, S, r1, ?_⟩
        have k' : match (g x as).bind (fun s1 => gs t s1) with
          | some as' => ∀ σ', M.rel io H as' σ' → C σ σ' → Q σ' H
          | none => False := k
        cases z : g x as with
        | none =>
          rw [z] at k'
          exact k'
        | some as' =>
          rw [z] at k'
          have k2 : match gs t as' with
            | some as' => ∀ σ', M.rel io H as' σ' → C σ σ' → Q σ' H
            | none => False := k'
          intro σ' S' c1
          refine ⟨io, hp, as', t, rl, S', r2, ?_⟩
          cases z2 : gs t as' with
          | none =>
            rw [z2] at k2
            exact k2
          | some as3 =>
            rw [z2] at k2
            exact fun σ3 S3 c3 => k2 σ3 S3 (hC.tr _ _ _ c1 c3)
theorem gT {es : List Expr} {kk : Nat} {gs : DGs} {n : Nat} (hK : X.K = W.K) (hc : X.calm = true) (h : PGs X es (tgGs W M C gs)) (hl : ∀ xs s, gs xs s ≠ none → xs.length = n) (hn : (assignEach es X.env).length = n := by rfl) (hst : (assignEach es X.env).findIdx? (·.1) = none := by rfl) :
    PG X (.Tuple es kk pos) (tgG W M C (dgT gs)) := pgI (pg_tup hc h hn hst) fun v σ H Q ⟨io, hp, as, y, rl, S, r, k⟩ => by
  unfold dgT at k
  cases z : tupOf y with
  | none =>
    rw [z] at k
    exact k.elim
  | some xs =>
    rw [z] at k
    obtain ⟨p, vs, rfl, h1, r1⟩ := tupOf_in z r
    rw [hK]
    refine ⟨p, vs, rfl, h1, ?_, io, hp, as, xs, rl, S, r1, k⟩
    rw [← r1.len]
    refine hl xs as fun q => ?_
    simp only [q] at k
theorem dg0_len : ∀ xs s, dg0 xs s ≠ none → xs.length = 0 := fun xs s h => by
  cases xs with
  | nil => rfl
  | cons x t => exact absurd rfl h
theorem dgC_len {g : DG} {gs : DGs} {n : Nat} (h : ∀ xs s, gs xs s ≠ none → xs.length = n) : ∀ xs s, dgC g gs xs s ≠ none → xs.length = n + 1 := fun xs s k => by
  cases xs with
  | nil => exact absurd rfl k
  | cons x t =>
    have k' : (g x s).bind (fun s1 => gs t s1) ≠ none := k
    cases z : g x s with
    | none =>
      rw [z] at k'
      exact absurd rfl k'
    | some s1 =>
      rw [z] at k'
      have := h t s1 k'
      simp [this]
end

def SR.loop (r : SR) (k : Sl → Hep → SR) : SR := match r with
  | .nx s h => k s h
  | .ct s h => k s h
  | .bk s h => .nx s h
  | r => r
def dLoop (src : Src) (g : DG) (body : DS) : Nat → Nat → Sl → Hep → SR
  | 0, _, _, _ => .stuck
  | k + 1, i, s, h => match src.next i h with
    | none => .stuck
    | some none => .nx s h
    | some (some x) => match g x s with
      | none => .stuck
      | some s1 => (body s1 h).loop fun s2 h2 => dLoop src g body k (i + 1) s2 h2
def dFor (f : DI) (g : DG) (body : DS) : DS := fun s h => (f s h).st s fun src h1 => dLoop src g body (src.len h1 + 1) 0 s h1
section
variable {W : Wd} {M : Md W} {E : WX} {X : Cx} {tg iter : Expr} {body : List Stmt} {f : DI} {g : DG} {fb : DS} {pos : Pos}
theorem sFor (hp : PassesOwn (model X.prog X.w) X.A X.env X.xe) (hc : X.calm = true) (hi : PI X tg iter (tG W M (RSrc W) E f)) (hg : PG X tg (tgG W M anyC g)) (hb : PSs X body (tS W M E fb))
    (hs : ∀ x, foldedSetIterable iter X.env x = pure x := by intro _; rfl) : PS X (.For tg iter body [] pos) (tS W M E (dFor f g fb)) :=
  psI (ps_for hp hc hi hg hb hs) fun D σ H ⟨io, hp, as, rl, S, P⟩ => by
    refine (stepS (rh := RSrc W) (f := f) rl S P).imp fun J H1 ⟨io1, hp1, src, e1, rl1, rs, P1⟩ => ?_
    refine ⟨fun i m σ2 H2 => ∃ io2 hp2 as2, Ext W io1 H1 io2 H2 ∧ Rl W io2 hp2 H2 ∧ M.rel io2 H2 as2 σ2 ∧ Pss W M E D io2 H2 (dLoop src g fb m i as2 hp2), ⟨_, io1, hp1, as, Ext.refl, rl1, M.mono e1 S, P1⟩, ?_⟩
    rintro i m σ2 H2 ⟨io2, hp2, as2, e2, rl2, S2, P2⟩
    obtain ⟨hstop, hgo⟩ := rs io2 H2 hp2 e2 rl2
    cases m with
    | zero => exact P2.elim
    | succ m =>
      unfold dLoop at P2
      cases z : src.next i hp2 with
      | none =>
        rw [z] at P2
        exact P2.elim
      | some o =>
        cases o with
        | none =>
          rw [z] at P2
          exact .inl ⟨hstop i z, P2 io2 H2 σ2 Ext.refl rl2 S2⟩
        | some x =>
          rw [z] at P2
          obtain ⟨go, hy⟩ := hgo i x z
          refine .inr ⟨go, fun σ3 H3 => ∃ io3 hp3 as3, Ext W io1 H1 io3 H3 ∧ Rl W io3 hp3 H3 ∧ M.rel io3 H3 as3 σ3 ∧ Pss W M E D io3 H3 (dLoop src g fb m (i + 1) as3 hp3), fun σ' H' q => ⟨m, Nat.lt_succ_self m, q⟩, fun v H3 hyl => ?_⟩
          obtain ⟨e3, rl3, r3⟩ := hy v H3 hyl
          refine ⟨io2, hp2, as2, x, rl3, M.mono e3 S2, r3, ?_⟩
          have P3 := Pss.later P2 e3
          cases z2 : g x as2 with
          | none =>
            simp only [z2] at P3
            exact P3
          | some as3 =>
            simp only [z2] at P3
            intro σ' S' _
            refine ⟨io2, hp2, as3, rl3, S', ?_⟩
            cases z3 : fb as3 hp2 with
            | nx s h =>
              rw [z3] at P3
              exact fun io' H' σ2 e r S2 => ⟨io', h, s, (e2.trans e3).trans e, r, S2, Pss.later P3 e⟩
            | ct s h =>
              rw [z3] at P3
              exact fun io' H' σ2 e r S2 => ⟨io', h, s, (e2.trans e3).trans e, r, S2, Pss.later P3 e⟩
            | bk s h =>
              rw [z3] at P3
              exact P3
            | rt v h =>
              rw [z3] at P3
              exact P3
            | exc t fs s h =>
              rw [z3] at P3
              exact P3
            | stuck =>
              rw [z3] at P3
              exact P3
end

def dWhl (c : DT) (body : DS) : Nat → DS
  | 0 => fun _ _ => .stuck
  | k + 1 => fun s h => (c s h).st s fun b h1 => match b with
    | false => .nx s h1
    | true => (body s h1).loop fun s2 h2 => dWhl c body k s2 h2
section
variable {W : Wd} {M : Md W} {E : WX} {X : Cx} {c : Expr} {body : List Stmt} {ft : DT} {fb : DS} {pos : Pos}
theorem sWhl (n : Nat) (hp : PassesOwn (model X.prog X.w) X.A X.env X.xe) (hc : PT X c (tDT W M E ft)) (hb : PSs X body (tS W M E fb)) : PS X (.While c body [] pos) (tS W M E (dWhl ft fb n)) :=
  psI (ps_while hp hc hb) fun D σ H ⟨io, hp, as, rl, S, P⟩ => by
    refine ⟨fun m σ2 H2 => ∃ io2 hp2 as2, Rl W io2 hp2 H2 ∧ M.rel io2 H2 as2 σ2 ∧ Pss W M E D io2 H2 (dWhl ft fb m as2 hp2), ⟨n, io, hp, as, rl, S, P⟩, ?_⟩
    rintro m σ2 H2 ⟨io2, hp2, as2, rl2, S2, P2⟩
    cases m with
    | zero => exact P2.elim
    | succ m =>
      refine (stepS (rh := fun _ _ b c => b = c) (f := ft) rl2 S2 P2).imp fun b H3 ⟨io3, hp3, b', e3, rl3, rb, P3⟩ => ?_
      subst rb
      cases b' with
      | false => exact iteF (P3 io3 H3 σ2 Ext.refl rl3 (M.mono e3 S2))
      | true =>
        refine iteT ⟨fun σ4 H4 => ∃ io4 hp4 as4, Rl W io4 hp4 H4 ∧ M.rel io4 H4 as4 σ4 ∧ Pss W M E D io4 H4 (dWhl ft fb m as4 hp4), fun σ' H' q => ⟨m, Nat.lt_succ_self m, q⟩, io3, hp3, as2, rl3, M.mono e3 S2, ?_⟩
        cases z3 : fb as2 hp3 with
        | nx s h =>
          simp only [z3] at P3
          exact fun io' H' σ2 e r S2 => ⟨io', h, s, r, S2, Pss.later P3 e⟩
        | ct s h =>
          simp only [z3] at P3
          exact fun io' H' σ2 e r S2 => ⟨io', h, s, r, S2, Pss.later P3 e⟩
        | bk s h =>
          simp only [z3] at P3
          exact P3
        | rt v h =>
          simp only [z3] at P3
          exact P3
        | exc t fs s h =>
          simp only [z3] at P3
          exact P3
        | stuck =>
          simp only [z3] at P3
          exact P3
end

def R.noX {T : Type} : R T → R T
  | .exc _ _ _ => .stuck
  | r => r
def wipeS (s : Sl) : List Nat → Sl
  | [] => s
  | v :: vs => (wipeS s vs).set v none
/-- one more item in the list at D -/
def addAt (D : Nat) (y : AV) (h : Hep) : Option Hep := match h[D]? with
  | some (.lst acc) => if acc.length < SZ then some (h.set D (.lst (acc ++ [y]))) else none
  | _ => none
def dLcL (src : Src) (g : DG) (tt : DT) (te : DE) (D : Nat) (s0 : Sl) : Nat → Nat → Hep → R AV
  | 0, _, _ => .stuck
  | k + 1, i, h => match src.next i h with
    | none => .stuck
    | some none => .ok (.ref D) h
    | some (some x) => match g x s0 with
      | none => .stuck
      | some s1 => (tt s1 h).noX.bind fun b h1 => match b with
        | false => dLcL src g tt te D s0 k (i + 1) h1
        | true => (te s1 h1).noX.bind fun y h2 => match addAt D y h2 with
          | none => .stuck
          | some h3 => dLcL src g tt te D s0 k (i + 1) h3
def dLc (f : DI) (g : DG) (tt : DT) (te : DE) (vs : List Nat) : DE := fun s h => (f s h).bind fun src h1 => dLcL src g tt te h1.length (wipeS s vs) (src.len h1 + 1) 0 (h1 ++ [.lst []])
def dYes : DT := fun _ h => .ok true h
section
variable {W : Wd} {M : Md W} {E : WX} {X : Cx} {pos : Pos}
theorem wipe_rel {io : List Addr} {H : Hp} {as : Sl} {σ : L2.St} (S : M.rel io H as σ) : ∀ {vs : List Nat}, (∀ v ∈ vs, M.ok v) → M.rel io H (wipeS as vs) (wipe σ vs)
  | [], _ => S
  | v :: vs, h => M.wipe (wipe_rel S fun w hw => h w (List.mem_cons_of_mem _ hw)) (h v List.mem_cons_self)
theorem step0 {T U T' U' : Type} {rh : Rel T U} {rh' : Rel T' U'} {σ σ0 : L2.St} {H : Hp} {io : List Addr} {hp : Hep} {as : Sl} {f : Sl → Hep → R T} {k : T → Hep → R T'} {Q : U' → Hp → Prop} (rl : Rl W io hp H) (S : M.rel io H as σ)
    (P : Pst W rh' E σ0 Q io H ((f as hp).noX.bind k)) : tG W M rh E0x f σ H (fun x H1 => ∃ io1 hp1 a, Ext W io H io1 H1 ∧ Rl W io1 hp1 H1 ∧ rh io1 H1 a x ∧ Pst W rh' E σ0 Q io1 H1 (k a hp1)) := by
  refine ⟨io, hp, as, rl, S, ?_⟩
  cases e : f as hp with
  | ok a hp1 =>
    rw [e] at P
    exact fun io' H' x e' r' q => ⟨io', hp1, a, e', r', q, Pst.later P e'⟩
  | exc t fs hp1 =>
    rw [e] at P
    exact P.elim
  | stuck =>
    rw [e] at P
    exact P
theorem lc_in {f : DI} {g : DG} {tt : DT} {te : DE} {vs : List Nat} {σ : L2.St} {H : Hp} {Q : VK} (ok : ∀ v ∈ vs, M.ok v)
    (h : tD W M E (dLc f g tt te vs) σ H Q) : tLc (tG W M (RSrc W) E f) (tgG W M (wipC vs) g) (tDT W M E0x tt) (tD W M E0x te) vs σ H Q := by
  obtain ⟨io, hp, as, rl, S, P⟩ := h
  refine (step (rh := RSrc W) (f := f) rl S P).imp fun J H1 ⟨io1, hp1, src, e1, rl1, rs, P1⟩ => ?_
  intro D hD
  have eD := Ext.new (W := W) io1 (.lst []) hD [D]
  have rlD : Rl W (io1 ++ [D]) (hp1 ++ [.lst []]) (upd H1 D (.lst [])) := rl1.new hD (.lst .nil)
  have wS : M.rel io1 H1 (wipeS as vs) (wipe σ vs) := wipe_rel (M.mono e1 S) ok
  have atD := rl1.atLen D
  refine ⟨fun i m H2 => ∃ io2 hp2, Ext W (io1 ++ [D]) (upd H1 D (.lst [])) io2 H2 ∧ Rl W io2 hp2 H2 ∧ Pst W (RV W) E σ Q io2 H2 (dLcL src g tt te hp1.length (wipeS as vs) m i hp2), ⟨_, _, _, Ext.refl, rlD, Pst.later P1 eD⟩, ?_⟩
  rintro i m H2 ⟨io2, hp2, e2, rl2, P2⟩
  have e12 := eD.trans e2
  obtain ⟨hstop, hgo⟩ := rs io2 H2 hp2 e12 rl2
  cases m with
  | zero => exact P2.elim
  | succ m =>
    unfold dLcL at P2
    cases z : src.next i hp2 with
    | none =>
      rw [z] at P2
      exact P2.elim
    | some o =>
      cases o with
      | none =>
        rw [z] at P2
        exact .inl ⟨hstop i z, P2.ok rl2 (.ref (e2.at atD))⟩
      | some x =>
        rw [z] at P2
        obtain ⟨go, hy⟩ := hgo i x z
        refine .inr ⟨go, fun H3 => ∃ io3 hp3, Ext W (io1 ++ [D]) (upd H1 D (.lst [])) io3 H3 ∧ Rl W io3 hp3 H3 ∧ Pst W (RV W) E σ Q io3 H3 (dLcL src g tt te hp1.length (wipeS as vs) m (i + 1) hp3), fun H' q => ⟨m, Nat.lt_succ_self m, q⟩, fun v H3 hyl => ?_⟩
        obtain ⟨e3, rl3, r3⟩ := hy v H3 hyl
        refine ⟨io2, hp2, wipeS as vs, x, rl3, M.mono e3 (M.mono e12 wS), r3, ?_⟩
        have P3 := Pst.later P2 e3
        cases z2 : g x (wipeS as vs) with
        | none =>
          simp only [z2] at P3
          exact P3
        | some as3 =>
          simp only [z2] at P3
          intro σ' S' hw
          refine ⟨Eq.trans hw (wipe_wipe σ vs), ?_⟩
          have S2' : M.rel io2 H3 as3 σ' := S'
          refine (step0 (rh := fun _ _ b c => b = c) (f := tt) (σ := σ') rl3 S2' P3).imp fun b H4 q4 => ?_
          · obtain ⟨io4, hp4, b', e4, rl4, rb, P4⟩ := q4
            subst rb
            cases b' with
            | false => exact iteF ⟨io4, hp4, (e2.trans e3).trans e4, rl4, P4⟩
            | true =>
              refine iteT ((step0 (rh := RV W) (f := te) (σ := σ') rl4 (M.mono e4 S2') P4).imp fun y H5 ⟨io5, hp5, a, e5, rl5, ra, P5⟩ => ?_)
              unfold addAt at P5
              have atD5 : io5[hp1.length]? = some D := e5.at (e4.at (e3.at (e2.at atD)))
              cases z5 : hp5[hp1.length]? with
              | none =>
                simp only [z5] at P5
                exact P5.elim
              | some o5 =>
                cases o5 with
                | lst acc =>
                  simp only [z5] at P5
                  by_cases hl : acc.length < SZ
                  · simp only [if_pos hl] at P5
                    obtain ⟨avs, ea, rac⟩ := rl5.lst atD5 z5
                    refine ⟨avs, ea, by rw [← rac.len]; exact szT hl, ?_⟩
                    have es : Ext W io5 H5 io5 (upd H5 D (.lst (avs ++ [y]))) := Ext.set _ ea trivial
                    exact ⟨io5, _, (((e2.trans e3).trans e4).trans e5).trans es, rl5.set atD5 ea trivial (.lst ((rac.app (.cons ra .nil)).mono es)), Pst.later P5 es⟩
                  · simp only [if_neg hl] at P5
                    exact P5.elim
                | _ =>
                  simp only [z5] at P5
                  exact P5.elim
theorem lcD {elt tg iter : Expr} {ifs : List Expr} {scope : Scope} {own : List (Str × Nat)} {f : DI} {g : DG} {tt : DT} {te : DE} (hc : X.calm = true) (hN : X.N.Nodup) (hi : PI X tg iter (tG W M (RSrc W) E f)) (ok : BlkOk X.N X.env.scope scope own)
    (hg : ∀ (s : Shared) (H : Hp) (C : Addr) (cl : List (Str × Addr)) (fp : List Addr), PG (X.blk s H scope (compEnvC scope cl C X.env) fp) tg (tgG W M (wipC (own.map (·.2))) g))
    (ht : ∀ (s : Shared) (H : Hp) (C : Addr) (cl : List (Str × Addr)) (fp : List Addr), PTs (X.blk s H scope (compEnvC scope cl C X.env) fp) ifs (tDT W M E0x tt))
    (he : ∀ (s : Shared) (H : Hp) (C : Addr) (cl : List (Str × Addr)) (fp : List Addr), PE (X.blk s H scope (compEnvC scope cl C X.env) fp) elt (tD W M E0x te)) (ho : ∀ v ∈ own.map (·.2), M.ok v) (hs : ∀ x, foldedSetIterable iter X.env x = pure x := by intro _; rfl) :
    PE X (.ListComp elt [⟨tg, iter, ifs, 0⟩] scope pos) (tD W M E (dLc f g tt te (own.map (·.2)))) := peI (pe_lc hc hN hi ok hg ht he hs) fun _ _ _ h => lc_in ho h
theorem sSetLc {i : Nat} {y : Str} {py spos : Pos} {elt tg iter : Expr} {ifs : List Expr} {scope : Scope} {own : List (Str × Nat)} {f : DI} {g : DG} {tt : DT} {te : DE} (hc : X.calm = true) (hN : X.N.Nodup) (hy : X.N[i]? = some y) (hyl : X.env.scope.names.lookup y = some .local)
    (hsw : swapsWith (.ListComp elt [⟨tg, iter, ifs, 0⟩] scope pos) (some (.Name y py)) spos.line X.env = pure true) (hi : PI X tg iter (tG W M (RSrc W) E f)) (ok : BlkOk X.N X.env.scope scope own)
    (hg : ∀ (s : Shared) (H : Hp) (C : Addr) (cl : List (Str × Addr)) (fp : List Addr), PG (X.blk s H scope (compEnvC scope cl C X.env) fp) tg (tgG W M (wipC (own.map (·.2))) g))
    (ht : ∀ (s : Shared) (H : Hp) (C : Addr) (cl : List (Str × Addr)) (fp : List Addr), PTs (X.blk s H scope (compEnvC scope cl C X.env) fp) ifs (tDT W M E0x tt))
    (he : ∀ (s : Shared) (H : Hp) (C : Addr) (cl : List (Str × Addr)) (fp : List Addr), PE (X.blk s H scope (compEnvC scope cl C X.env) fp) elt (tD W M E0x te)) (ho : ∀ v ∈ own.map (·.2), M.ok v) (hoi : M.ok i) (hs : ∀ x, foldedSetIterable iter X.env x = pure x := by intro _; rfl) :
    PS X (.Assign [.Name y py] (.ListComp elt [⟨tg, iter, ifs, 0⟩] scope pos) spos) (tS W M E (dSet i (dLc f g tt te (own.map (·.2))))) := psI (ps_setLc hc hN hy hyl hsw hi ok hg ht he hs) fun D σ H ⟨io, hp, as, rl, S, P⟩ => by
  refine lc_in (M := M) (E := E) ho ?_
  refine (stepS (rh := RV W) (f := dLc f g tt te (own.map (·.2))) rl S P).imp fun x H1 ⟨io2, hp2, a, e2, rl2, ra, P2⟩ => ?_
  exact P2 io2 H1 _ Ext.refl rl2 (M.set (M.mono e2 S) ra hoi)
theorem yesD : PTs X [] (tDT W M E0x dYes) := ⟨fun pins s σ H Q I ⟨io, hp, as, rl, S, P⟩ => pts_nil.run pins s σ H Q I (P.ok rl rfl)⟩
theorem oneT {c : Expr} {ft : DT} (h : PT X c (tDT W M E0x ft)) : PTs X [c] (tDT W M E0x ft) := pts_one h
end

def dSrc (f : DE) : DI := fun s h => (f s h).bind fun a h1 => match a with
  | .ref n => (match h1[n]? with
    | some (.lst _) => .ok (.at n) h1
    | _ => .stuck)
  | .tup xs => .ok (.fix xs) h1
  | .rol xs => .ok (.fix xs) h1
  | .str x => .ok (.fix (x.cps.toList.map fun c => .str ⟨#[c]⟩)) h1
  | _ => .stuck
def rngL (lo : Int) (n : Nat) : List AV := (List.range n).map fun i => .int (lo + (i : Nat))
def dRg1 (f : DA) : DI := fun s h => (f s h).bind fun as h1 => match as with
  | [.int j] => if -(2 ^ 62) ≤ j ∧ j < 2 ^ 62 then .ok (.fix (rngL 0 j.toNat)) h1 else .stuck
  | _ => .stuck
def dRg2 (f : DA) : DI := fun s h => (f s h).bind fun as h1 => match as with
  | [.int i, .int j] => if -(2 ^ 62) ≤ i ∧ i < 2 ^ 62 ∧ -(2 ^ 62) ≤ j ∧ j < 2 ^ 62 then .ok (.fix (rngL i (j - i).toNat)) h1 else .stuck
  | _ => .stuck
section
variable {W : Wd} {M : Md W} {E : WX} {X : Cx} {tg : Expr}
theorem piI {e : Expr} {t t' : TI} (h : PI X tg e t) (i : ∀ σ H Q, t' σ H Q → t σ H Q) : PI X tg e t' := ⟨fun pins s σ H R I q => h.run pins s σ H R I (i σ H R q)⟩
theorem src_list {io : List Addr} {H : Hp} {n : Nat} {p : Addr} (hi : io[n]? = some p) : RSrc W io H (.at n) (Itl W.K p) := fun io' H' hp e rl => by
  have hp' := e.at hi
  refine ⟨fun i z => ?_, fun i x z => ?_⟩
  all_goals
    unfold Src.next at z
    dsimp only at z
    cases z1 : hp[n]? with
    | none =>
      rw [z1] at z
      cases z
    | some o =>
      rw [z1] at z
      cases o with
      | lst xs =>
        have z' := Option.some.inj z
        obtain ⟨vs, ev, rv⟩ := rl.lst hp' z1
        first
          | exact ⟨vs, SqL.of ev, by rw [← rv.len]; exact List.getElem?_eq_none_iff.mp z'⟩
          | (obtain ⟨v, e1, r1⟩ := rv.get z'
             refine ⟨⟨vs, v, SqL.of ev, e1⟩, fun w H2 ⟨eH, hw⟩ => ?_⟩
             subst eH
             have := hw vs (SqL.of ev)
             rw [e1] at this
             cases this
             exact ⟨Ext.refl, rl, r1⟩)
      | _ => cases z
theorem src_fixed {io : List Addr} {H : Hp} {xs : List AV} {vs : List V} {J : It} (r : RVs W io H xs vs) (h1 : ∀ i H', (∃ l, Ext W io H l H') → vs.length ≤ i → J.stop i H') (h2 : ∀ i v H', (∃ l, Ext W io H l H') → vs[i]? = some v → J.go i H' ∧ ∀ w H2, J.yld i H' w H2 → H2 = H' ∧ w = v) : RSrc W io H (.fix xs) J := fun io' H' hp e rl => by
  refine ⟨fun i z => ?_, fun i x z => ?_⟩
  · have z' : xs[i]? = none := Option.some.inj z
    exact h1 i H' ⟨_, e⟩ (by rw [← r.len]; exact List.getElem?_eq_none_iff.mp z')
  · have z' : xs[i]? = some x := Option.some.inj z
    obtain ⟨v, e1, r1⟩ := r.get z'
    obtain ⟨g, k⟩ := h2 i v H' ⟨_, e⟩ e1
    refine ⟨g, fun w H2 y => ?_⟩
    obtain ⟨rfl, rfl⟩ := k w H2 y
    exact ⟨Ext.refl, rl, r1.mono e⟩
theorem src_range {io : List Addr} {H : Hp} {lo : Int} {n : Nat} : RSrc W io H (.fix (rngL lo n)) (Itr lo n) := by
  have hv : RVs W io H (rngL lo n) ((List.range n).map fun i => V.int (lo + (i : Nat))) := by
    unfold rngL
    generalize List.range n = l
    induction l with
    | nil => exact .nil
    | cons a r ih => exact .cons (.int _) ih
  refine src_fixed hv (fun i H' _ h => ?_) fun i v H' _ h => ?_
  · rw [List.length_map, List.length_range] at h
    exact h
  · rw [List.getElem?_map] at h
    by_cases hi : i < n
    · rw [List.getElem?_range hi] at h
      cases h
      exact ⟨hi, fun w H2 ⟨a, b⟩ => ⟨a, b⟩⟩
    · rw [List.getElem?_eq_none (by simpa using hi)] at h
      cases h
/-- a list, a tuple, a text: what pyIter does with the value -/
theorem iter_val {pins : List (Addr × Obj)} {σ : L2.St} {H : Hp} {s : Shared} {R : It → Hp → Prop} {x : V} {v : Value} (I : Inv X pins σ H s) (r : RelV x v)
    (h : (∃ a, x = .ref a ∧ (∃ xs, SqL X.K H a xs) ∧ R (Itl X.K a) H) ∨ (∃ a, x = .ref a ∧ (∃ xs, SqT X.K H a xs) ∧ R (Itt X.K a) H) ∨ (∃ z, x = .str z ∧ R (Its z) H)) :
    wpAny (model X.prog X.w) X.A (pyIter v) (PIE X pins σ tg R) X.xe s := by
  have newFp : ∀ b ∈ [s.heap.objs.size], FpOk X pins H b := fun b hb => by
    rw [List.mem_singleton] at hb
    subst hb
    exact I.fpOk (Nat.le_refl _) (I.hok.fresh (Nat.le_refl _))
  rcases h with ⟨a, ex, ⟨xs, hq⟩, q⟩ | ⟨a, ex, ⟨xs, hq⟩, q⟩ | ⟨z, ex, q⟩
  · subst ex
    obtain rfl : v = Value.ref a := r
    obtain ⟨its, _, pl, _⟩ := I.list hq
    exact wpAny_pyIter_list pl.isList ⟨_, _, _, _, H, rfl, I.kept (t' := s.toks) fun b o e => Heap.get?_push_of_some _ e, turn_list a _, ⟨_, Heap.get?_push_size _ rfl, rfl, rfl⟩, newFp, q⟩
  · subst ex
    obtain rfl : v = Value.ref a := r
    obtain ⟨its, _, pt, _⟩ := I.tuple hq
    exact wpAny_pyIter_tuple (items := its.toArray) pt ⟨_, _, _, _, H, rfl, I.kept (t' := s.toks) fun b o e => Heap.get?_push_of_some _ e, turn_tuple a _, ⟨_, Heap.get?_push_size _ rfl, rfl, rfl⟩, newFp, q⟩
  · subst ex
    obtain ⟨t, rfl⟩ := r
    cases hz : z.cps.all (· < 128) with
    | true => exact wpAny_pyIter_ascii hz (pi_one (tk := s.toks) I _ (turn_str _ z t "str_ascii_iterator" (.inl rfl)) ⟨_, Heap.get?_push_size _ rfl, rfl, rfl⟩ q)
    | false => exact wpAny_pyIter_wide hz (pi_one (tk := s.toks) I _ (turn_str _ z t "str_iterator" (.inr rfl)) ⟨_, Heap.get?_push_size _ rfl, rfl, rfl⟩ q)
theorem chars_rv {io : List Addr} {H : Hp} (l : List Nat) : RVs W io H (l.map fun c => .str ⟨#[c]⟩) (l.map fun c => .str ⟨#[c]⟩) := by
  induction l with
  | nil => exact .nil
  | cons a r ih => exact .cons (.str _) ih
/-- for .. in e -/
theorem srcD {e : Expr} {f : DE} (hK : X.K = W.K) (he : PE X e (tD W M E f)) : PI X tg e (tG W M (RSrc W) E (dSrc f)) := by
  refine ⟨fun pins s σ H R I ⟨io, hp, as, rl, S, P⟩ => ?_⟩
  refine thn (he.run pins s σ H _ I (step (rh := RV W) (f := f) rl S P)) fun v s1 ⟨x, H1, I1, r1, io2, hp2, a, e2, rl2, ra, P2⟩ => ?_
  refine iter_val I1 r1 ?_
  rw [hK]
  cases a with
  | ref n =>
    cases ra with
    | @ref _ p hi =>
      have P3 : Pst W (RSrc W) E σ R io2 H1 (match hp2[n]? with
        | some (.lst _) => .ok (.at n) hp2
        | _ => .stuck) := P2
      cases z : hp2[n]? with
      | none =>
        rw [z] at P3
        exact P3.elim
      | some o =>
        rw [z] at P3
        cases o with
        | lst xs =>
          obtain ⟨vs, ev, _⟩ := rl2.lst hi z
          exact .inl ⟨p, rfl, ⟨vs, SqL.of ev⟩, Pst.ok P3 rl2 (src_list hi)⟩
        | _ => exact P3.elim
  | tup xs =>
    obtain ⟨p, vs, ex, h1, rtu⟩ := tupOf_in (xs := xs) rfl ra
    subst ex
    refine .inr (.inl ⟨p, rfl, ⟨vs, h1⟩, Pst.ok P2 rl2 (src_fixed rtu (fun i H' ⟨l, e⟩ h => ⟨vs, e.tup _ _ h1, h⟩) fun i w H' ⟨l, e⟩ h => ⟨⟨vs, w, e.tup _ _ h1, h⟩, fun w' H2 ⟨eH, hw⟩ => ⟨eH, ?_⟩⟩)⟩)
    have := hw vs (e.tup _ _ h1)
    rw [h] at this
    exact (Option.some.inj this).symm
  | rol xs =>
    cases ra with
    | rol hro rro =>
      refine .inl ⟨_, rfl, ⟨_, roL_sq hro⟩, Pst.ok P2 rl2 (src_fixed rro (fun i H' ⟨l, e⟩ h => ⟨_, roL_sq (e.rol _ _ hro), h⟩) fun i w H' ⟨l, e⟩ h => ⟨⟨_, w, roL_sq (e.rol _ _ hro), h⟩, fun w' H2 ⟨eH, hw⟩ => ⟨eH, ?_⟩⟩)⟩
      have := hw _ (roL_sq (e.rol _ _ hro))
      rw [h] at this
      exact (Option.some.inj this).symm
  | str z =>
    obtain rfl := ra.str_inv
    refine .inr (.inr ⟨z, rfl, Pst.ok P2 rl2 (src_fixed (chars_rv z.cps.toList) (fun i H' _ h => ?_) fun i w H' _ h => ?_)⟩)
    · rw [List.length_map, Array.length_toList] at h
      exact h
    · rw [List.getElem?_map, Array.getElem?_toList] at h
      obtain ⟨c, hc, rfl⟩ := Option.map_eq_some_iff.mp h
      obtain ⟨hl, _⟩ := Array.getElem?_eq_some_iff.mp hc
      refine ⟨hl, fun w' H2 ⟨eH, c', hc', ew⟩ => ⟨eH, ?_⟩⟩
      rw [hc] at hc'
      cases hc'
      exact ew
  | _ => exact P2.elim
theorem rg1D {a : Expr} {fa : DA} {p pos : Pos} (hg : Gl X "range") (hm : X.mg "range" = none) (ha : PA X [a] (tDA W M E fa)) (hs : starEach [a] X.env = [(false, eval a X.env)] := by rfl) : PI X tg (.Call (.Name "range" p) [a] [] pos) (tG W M (RSrc W) E (dRg1 fa)) :=
  piI (pi_range1 hg hm ha hs) fun σ H Q ⟨io, hp, as, rl, S, P⟩ => (step (rh := RVs W) (f := fa) rl S P).imp fun xs H1 ⟨io2, hp2, bs, e2, rl2, ra, P2⟩ => by
    match bs, ra, P2 with
    | [.int j], .cons (.int _) .nil, P2 =>
      have P3 : Pst W (RSrc W) E σ Q io2 H1 (if -(2 ^ 62) ≤ j ∧ j < 2 ^ 62 then .ok (.fix (rngL 0 j.toNat)) hp2 else .stuck) := P2
      by_cases h : -(2 ^ 62) ≤ j ∧ j < 2 ^ 62
      · rw [if_pos h] at P3
        exact ⟨j, rfl, h.1, h.2, Pst.ok P3 rl2 src_range⟩
      · rw [if_neg h] at P3
        exact P3.elim
theorem rg2D {a b : Expr} {fa : DA} {p pos : Pos} (hg : Gl X "range") (hm : X.mg "range" = none) (ha : PA X [a, b] (tDA W M E fa)) (hs : starEach [a, b] X.env = [(false, eval a X.env), (false, eval b X.env)] := by rfl) (hs2 : starEach [b] X.env = [(false, eval b X.env)] := by rfl) :
    PI X tg (.Call (.Name "range" p) [a, b] [] pos) (tG W M (RSrc W) E (dRg2 fa)) :=
  piI (pi_range2 hg hm ha hs hs2) fun σ H Q ⟨io, hp, as, rl, S, P⟩ => (step (rh := RVs W) (f := fa) rl S P).imp fun xs H1 ⟨io2, hp2, bs, e2, rl2, ra, P2⟩ => by
    match bs, ra, P2 with
    | [.int i, .int j], .cons (.int _) (.cons (.int _) .nil), P2 =>
      have P3 : Pst W (RSrc W) E σ Q io2 H1 (if -(2 ^ 62) ≤ i ∧ i < 2 ^ 62 ∧ -(2 ^ 62) ≤ j ∧ j < 2 ^ 62 then .ok (.fix (rngL i (j - i).toNat)) hp2 else .stuck) := P2
      by_cases h : -(2 ^ 62) ≤ i ∧ i < 2 ^ 62 ∧ -(2 ^ 62) ≤ j ∧ j < 2 ^ 62
      · rw [if_pos h] at P3
        exact ⟨i, j, rfl, h, Pst.ok P3 rl2 src_range⟩
      · rw [if_neg h] at P3
        exact P3.elim
end
end Dn
namespace Dn
open PySem PySem.Spec PyProof.Rows L2

/-- the slots at the entry -/
def dStart (N : Nat) (as : List AV) : Sl := as.map some ++ List.replicate (N - as.length) none
def dFun (N : Nat) (b : DS) : DF := fun as h => (b (dStart N as) h).fin
theorem RVs.at_inv {W : Wd} {io : List Addr} {H : Hp} : ∀ {xs : List AV} {vs : List V}, RVs W io H xs vs → ∀ {i : Nat} {x : AV}, xs[i]? = some x → ∃ v, vs[i]? = some v ∧ RV W io H x v := fun h => fun e => h.get e
theorem start_rel {W : Wd} {io : List Addr} {H : Hp} {as : List AV} {vs : List V} {N : List Str} {n : Nat} (r : RVs W io H as vs) (hN : N.length = n) : (std W).rel io H (dStart n as) (L2.start N vs) := by
  subst hN
  refine ⟨?_, fun i v a => ?_⟩
  · unfold dStart L2.start
    simp [r.len]
  · unfold dStart at a
    have hi : i < as.length := by
      by_cases hi : i < as.length
      · exact hi
      · rw [List.getElem?_append_right (by simpa using hi), List.getElem?_replicate] at a
        split at a <;> cases a
    rw [List.getElem?_append_left (by simpa using hi), List.getElem?_map] at a
    cases e : as[i]? with
    | none =>
      rw [e] at a
      cases a
    | some y =>
      rw [e] at a
      cases a
      obtain ⟨x, e2, rx⟩ := r.get e
      refine ⟨x, ?_, rx⟩
      unfold L2.start
      rw [List.getElem?_append_left (by simpa [← r.len] using hi), List.getElem?_map, e2]
      rfl

section
variable {P : Program} {w : World} {mg : Str → Option Value} {base : Heap} {W : Wd} {x qual : Str} {params : Arguments} {body : List Stmt} {scope : Scope} {dvs : List V} {kws : List (Str × V)} {f : Addr} {fd : FuncData}
/-- the context of a def's body -/
abbrev cxD (W : Wd) (P : Program) (w : World) (mg : Str → Option Value) (base : Heap) (N : List Str) (qual : Str) (scope : Scope) (f : Addr) (cdv : Value) (A : Around) (outer : List Env) (s : Shared) (H : Hp) (E : XK) : Cx :=
  cxOf (L2.CX P w) P w W.K mg base N qual scope f cdv A outer s H E
/-- what a def's body may let out -/
abbrev wxE (E : XK) : WX := fun cls d _ H => E cls d H
/-- THE RULE: a def keeps its promise if its body is read as b -/
theorem fnD {N ps : List Str} {k n : Nat} {b : DS} (F : FunD W.K x qual params body scope dvs kws f fd) (S : FnScope N ps scope) (hn : ps.length = n)
    (hb : ∀ (cdv : Value) (A : Around) (outer : List Env) (s : Shared) (H : Hp) (E : XK), Room k (A.deeper (envOfC qual scope s.heap.objs.size f cdv)) → Takes (cxD W P w mg base N qual scope f cdv A outer s H E) (wxE E) →
      PSs (cxD W P w mg base N qual scope f cdv A outer s H E) body (tS W (std W) (wxE E) b)) : FnOk P w W.K mg base (L2.CX P w) (k + 1) f fd ps (spD W n (dFun N.length b)) := by
  refine F.ok S (fun vs H Q E h => ?_) fun cdv A outer s H vs Q E hr h => ⟨_, hb cdv A outer s H E hr (takes_of rfl rfl rfl rfl), ?_⟩
  · obtain ⟨io, hp, as, hl, _, r, _⟩ := h
    rw [← r.len, hl, hn]
  · obtain ⟨io, hp, as, hl, rl, r, P⟩ := h
    refine ⟨io, hp, dStart N.length as, rl, start_rel r rfl, ?_⟩
    unfold dFun at P
    cases e : b (dStart N.length as) hp with
    | nx s h =>
      rw [e] at P
      exact fun io' H' σ' e' rl' _ => P io' H' .non e' rl' .non
    | rt s h =>
      rw [e] at P
      exact P
    | bk s h =>
      rw [e] at P
      exact P.elim
    | ct s h =>
      rw [e] at P
      exact P.elim
    | exc t fs s h =>
      rw [e] at P
      exact fun io' H' σ' cls d e' rl' _ rx => P io' H' cls d e' rl' rx
    | stuck =>
      rw [e] at P
      exact P
end

theorem sel_vals {vs : List V} {us : List Value} (h : Vals vs us) : ∀ ix : List Nat, Vals (sel ix vs) (sel ix us)
  | [] => .nil
  | i :: ix => by
    show Vals ((i :: ix).filterMap _) ((i :: ix).filterMap _)
    rw [List.filterMap_cons, List.filterMap_cons]
    cases e : vs[i]? with
    | none =>
      have : us[i]? = none := by
        rw [List.getElem?_eq_none_iff] at e ⊢
        rw [← h.length]
        exact e
      rw [this]
      exact sel_vals h ix
    | some v =>
      obtain ⟨u, e2, r⟩ := h.get e
      rw [e2]
      exact .cons r (sel_vals h ix)
theorem sel_rel {W : Wd} {io : List Addr} {H : Hp} {as : List AV} {vs : List V} (h : RVs W io H as vs) : ∀ ix : List Nat, RVs W io H (sel ix as) (sel ix vs)
  | [] => .nil
  | i :: ix => by
    show RVs W io H ((i :: ix).filterMap _) ((i :: ix).filterMap _)
    rw [List.filterMap_cons, List.filterMap_cons]
    cases e : as[i]? with
    | none =>
      have : vs[i]? = none := by
        rw [List.getElem?_eq_none_iff] at e ⊢
        rw [← h.len]
        exact e
      rw [this]
      exact sel_rel h ix
    | some v =>
      obtain ⟨u, e2, r⟩ := h.get e
      rw [e2]
      exact .cons r (sel_rel h ix)
/-- defaults are the same in every heap -/
def RW0s (W : Wd) (as : List AV) (vs : List V) : Prop := ∀ io H, RVs W io H as vs
section
variable {W : Wd} {x qual : Str} {params : Arguments} {body : List Stmt} {scope : Scope} {dvs : List V} {kws : List (Str × V)} {f : Addr} {fd : FuncData} {ps : List Str}
/-- no default is taken, the def has none -/
theorem bnN (F : FunD W.K x qual params body scope [] kws f fd) (n : Nat) (ks : List Str) (ix : List Nat)
    (h : ∀ (kV doc pm : Value) (an : Option Addr) (cdv ct : Value) (us ws : List Value), us.length = n → ws.length = ks.length → bindArgs (PySem.W.fnOf x qual params body scope .none kV doc pm an cdv ct) ⟨us, ks.zip ws⟩ = pure (ps.zip (sel ix (us ++ ws)))) : BnD W fd ps n ks ix [] := by
  obtain ⟨oc, od, dV, kV, doc, pm, an, cdv, ct, osl, rfl, lk, hcd, hD, hK⟩ := F.ex
  rcases hD with ⟨_, rfl⟩ | ⟨e, _⟩
  · refine ⟨fun us ws => sel ix (us ++ ws), fun vs zs => sel ix (vs ++ zs), ⟨fun s us ws X l1 l2 => .of_eq (h kV doc pm an cdv ct us ws l1 l2), fun r1 r2 => sel_vals (r1.append r2) ix⟩, fun io H as bs vs zs r1 r2 => ?_⟩
    rw [List.append_nil]
    exact sel_rel (r1.app r2) ix
  · exact absurd rfl e
/-- the def has defaults: its :: us :: keywords -/
theorem bnP (F : FunD W.K x qual params body scope dvs kws f fd) (n : Nat) (ks : List Str) (ix : List Nat) (hd : dvs ≠ []) {dfl : List AV} (hf : RW0s W dfl dvs)
    (h : ∀ (T : Addr) (kV doc pm : Value) (an : Option Addr) (cdv ct : Value) (us its ws : List Value), us.length = n → its.length = dvs.length → ws.length = ks.length →
      ∃ k, bindArgs (PySem.W.fnOf x qual params body scope (.ref T) kV doc pm an cdv ct) ⟨us, ks.zip ws⟩ = seqItems? (.ref T) >>= k ∧ k (some its.toArray) = pure (ps.zip (sel ix (us ++ its ++ ws)))) : BnD W fd ps n ks ix dfl := by
  obtain ⟨oc, od, dV, kV, doc, pm, an, cdv, ct, osl, rfl, lk, hcd, hD, hK⟩ := F.ex
  rcases hD with ⟨e, _⟩ | ⟨_, T, o, its, m, rfl, lT, oT, rT⟩
  · exact absurd e hd
  · refine ⟨fun us ws => sel ix (us ++ its ++ ws), fun vs zs => sel ix (vs ++ dvs ++ zs), ⟨fun s us ws X l1 l2 => ?_, fun r1 r2 => sel_vals ((r1.append rT).append r2) ix⟩, fun io H as bs vs zs r1 r2 => sel_rel ((r1.app (hf io H)).app r2) ix⟩
    obtain ⟨k, e1, e2⟩ := h T kV doc pm an cdv ct us its ws l1 rT.length.symm l2
    refine BindsTo.of_looks fun M => ?_
    rw [e1]
    exact looks_items X lT oT (.of_pure e2)
/-- keyword-only parameters lack, no positional default -/
theorem bnK (F : FunD W.K x qual params body scope [] kws f fd) (n : Nat) (ks : List Str) (ms : List (Str × V)) (ix : List Nat) (hk : kws ≠ []) (hms : ∀ q ∈ ms, q ∈ kws) {dfl : List AV} (hf : RW0s W dfl (ms.map (·.2)))
    (h : ∀ (D : Addr) (doc pm : Value) (an : Option Addr) (cdv ct : Value) (us mv ws : List Value), us.length = n → mv.length = ms.length → ws.length = ks.length →
      KwChain D ((ms.map (·.1)).zip mv) (bindArgs (PySem.W.fnOf x qual params body scope .none (.ref D) doc pm an cdv ct) ⟨us, ks.zip ws⟩) (ps.zip (sel ix (us ++ mv ++ ws)))) : BnD W fd ps n ks ix dfl := by
  obtain ⟨mv, hb⟩ := FunD.kbinds0 F n ks ms (fun us mv ws => sel ix (us ++ mv ++ ws)) hk hms (fun r1 r2 r3 => sel_vals ((r1.append r2).append r3) ix) h
  exact ⟨_, _, hb, fun io H as bs vs zs r1 r2 => sel_rel ((r1.app (hf io H)).app r2) ix⟩
end

section
variable {W : Wd} {M : Md W} {E : WX} {X : Cx} {k j n m : Nat} {f : Addr} {fd : FuncData} {ps ks : List Str} {F : DF} {x : Str} {p pos apos kpos : Pos} {e o : Expr} {es : List Expr} {kws : List Keyword} {fa fk : DA} {fe : DE} {ix : List Nat} {dfl : List AV}
/-- f(a, .., k = v, ..): the positional values, then the keywords' -/
def dCall (F : DF) (n m : Nat) (ix : List Nat) (dfl : List AV) (fa fk : DA) : DE := fun s h => (fa s h).bind fun a h1 => (fk s h1).bind fun b h2 => if a.length = n ∧ b.length = m then F (sel ix (a ++ dfl ++ b)) h2 else .stuck
theorem run_gen {pins : List (Addr × Obj)} {σ : L2.St} {H : Hp} {s : Shared} {Q : VK} {us ws : List Value} {vs zs : List V} {sp : Sp} {g : List Value → List Value → List Value} {gV : List V → List V → List V}
    (hF : FnOk X.prog X.w X.K X.mg X.base (L2.CX X.prog X.w) j f fd ps sp) (hr : Room j X.A) (hb : KBn X.K fd ps n ks g gV) (tk : Takes X E)
    (I : Inv X pins σ H s) (r : Vals vs us) (rz : Vals zs ws) (l1 : vs.length = n) (l2 : zs.length = ks.length) (h : sp (gV vs zs) H Q (WE E σ)) : wpAny (model X.prog X.w) X.A (call (.ref f) us (ks.zip ws)) (EP X pins σ Q) X.xe s := by
  have r2 := hb.rel r rz
  refine wpAny_call (codeAny_mono (hF.run X.A X.stack s H ⟨us, ks.zip ws⟩ (g us ws) (gV vs zs) Q (WE E σ) hr I.env0 (hb.to s us ws I.kIn (r.length.symm.trans l1) (rz.length.symm.trans l2)) r2 h) fun r s' hq => ?_)
  cases r with
  | error e => exact passAt tk σ pins H s e s' I hq
  | ok fl =>
    cases fl with
    | ret u => exact I.after hq
    | next => exact False.elim hq
    | brk => exact False.elim hq
    | cont => exact False.elim hq
/-- behind the arguments -/
theorem call_at {σ : L2.St} {io : List Addr} {hp : Hep} {H : Hp} {Q : VK} {a b : List AV} {vs zs : List V} {gV : List V → List V → List V} (rl : Rl W io hp H) (ra : RVs W io H a vs) (rb : RVs W io H b zs)
    (hg : ∀ io H as bs vs zs, RVs W io H as vs → RVs W io H bs zs → RVs W io H (sel ix (as ++ dfl ++ bs)) (gV vs zs)) (hl : (sel ix (a ++ dfl ++ b)).length = j)
    (P : Pst W (RV W) E σ Q io H (F (sel ix (a ++ dfl ++ b)) hp)) : spD W j F (gV vs zs) H Q (WE E σ) :=
  ⟨io, hp, _, hl, rl, hg _ _ _ _ _ _ ra rb, P.fn⟩
/-- dCall, and the places are as many as the parameters -/
def dCallC (F : DF) (n m q : Nat) (ix : List Nat) (dfl : List AV) (fa fk : DA) : DE := fun s h => (fa s h).bind fun a h1 => (fk s h1).bind fun b h2 => if a.length = n ∧ b.length = m ∧ (sel ix (a ++ dfl ++ b)).length = q then F (sel ix (a ++ dfl ++ b)) h2 else .stuck
theorem args_in {σ : L2.St} {H : Hp} {Q : VK} (h : tD W M E (dCallC F n m j ix dfl fa fk) σ H Q) :
    tDA W M E fa σ H fun vs H1 => tDA W M E fk σ H1 fun zs H2 => vs.length = n ∧ zs.length = m ∧ ∀ gV : List V → List V → List V, (∀ io H as bs vs zs, RVs W io H as vs → RVs W io H bs zs → RVs W io H (sel ix (as ++ dfl ++ bs)) (gV vs zs)) → spD W j F (gV vs zs) H2 Q (WE E σ) := by
  obtain ⟨io, hp, as, rl, S, P⟩ := h
  refine (step (rh := RVs W) (f := fa) rl S P).imp fun vs H1 ⟨io2, hp2, a, e2, rl2, ra, P2⟩ => ?_
  refine (step (rh := RVs W) (f := fk) rl2 (M.mono e2 S) P2).imp fun zs H4 ⟨io5, hp5, b, e5, rl5, rb, P5⟩ => ?_
  by_cases hc : a.length = n ∧ b.length = m ∧ (sel ix (a ++ dfl ++ b)).length = j
  · rw [if_pos hc] at P5
    have ra' := ra.mono e5
    exact ⟨ra'.len.symm.trans hc.1, rb.len.symm.trans hc.2.1, fun gV hg => call_at rl5 ra' rb hg hc.2.2 P5⟩
  · rw [if_neg hc] at P5
    exact P5.elim
theorem callD (hF : FnOk X.prog X.w X.K X.mg X.base (L2.CX X.prog X.w) j f fd ps (spD W n F)) (hr : Room k X.A) (hj : j ≤ k) (hm : X.mg x = some (.ref f)) (hkp : PySem.W.keepIn X.K (.ref f) = true) (hK : X.K = W.K) (hb : BnD W fd ps m ks ix dfl) (tk : Takes X E)
    (ha : PA X (e :: es) (tDA W M E fa)) (hkw : PK X kws (tDA W M E fk)) (hg : Gl X x := by rfl) (hall : (backToKw pos (keywordEach kws X.env)).all (·.1.isSome) = true := by rfl) (hks : (backToKw pos (keywordEach kws X.env)).filterMap (·.1) = ks := by rfl)
    (hdb : (x == ("__debug__" : Str)) = false := by decide) (he : starEach (e :: es) X.env = (false, eval e X.env) :: starEach es X.env := by rfl)
    (hpl : ((backTo pos (starEach (e :: es) X.env)).any (·.1) || (backToKw pos (keywordEach kws X.env)).any (·.1.isNone)) = false := by rfl) :
    PE X (.Call (.Name x p) (e :: es) kws pos) (tD W M E (dCallC F m ks.length n ix dfl fa fk)) := by
  obtain ⟨g, gV, kb, hg2⟩ := hb
  rw [← hK] at kb
  refine ⟨fun pins s σ H Q I h => ?_⟩
  refine wpAny_Call_Name_kw (ld_glob I hg hm ?_ hdb)
  refine PySem.W.callWith_KW (h₀ := X.base) I.ok.mod.kin hkp hall (thn (ha.run pos pins s σ H _ I (args_in h)) fun us s1 ⟨vs, H1, I1, r, q⟩ => ?_) hpl he
  refine thn (hkw.run pos pins s1 σ H1 _ I1 q) fun ws s2 ⟨zs, H2, I2, rz, l1, l2, q2⟩ => ⟨I2.kIn, ?_⟩
  rw [hks]
  exact run_gen hF (hr.mono hj) kb tk I2 r rz l1 l2 (q2 gV hg2)
theorem callD0 (hF : FnOk X.prog X.w X.K X.mg X.base (L2.CX X.prog X.w) j f fd ps (spD W n F)) (hr : Room k X.A) (hj : j ≤ k) (hm : X.mg x = some (.ref f)) (hkp : PySem.W.keepIn X.K (.ref f) = true) (hK : X.K = W.K) (hb : BnD W fd ps 0 ks ix dfl) (tk : Takes X E)
    (hkw : PK X kws (tDA W M E fk)) (hg : Gl X x := by rfl) (hall : (backToKw pos (keywordEach kws X.env)).all (·.1.isSome) = true := by rfl) (hks : (backToKw pos (keywordEach kws X.env)).filterMap (·.1) = ks := by rfl)
    (hdb : (x == ("__debug__" : Str)) = false := by decide)
    (hpl : ((backTo pos (starEach [] X.env)).any (·.1) || (backToKw pos (keywordEach kws X.env)).any (·.1.isNone)) = false := by rfl) :
    PE X (.Call (.Name x p) [] kws pos) (tD W M E (dCallC F 0 ks.length n ix dfl dNil fk)) := by
  obtain ⟨g, gV, kb, hg2⟩ := hb
  rw [← hK] at kb
  refine ⟨fun pins s σ H Q I h => ?_⟩
  refine wpAny_Call_Name_kw (ld_glob I hg hm ?_ hdb)
  refine PySem.W.callWith_KW0 (h₀ := X.base) I.ok.mod.kin hkp hall ?_ hpl
  have h0 := nil_in (args_in h)
  refine thn (hkw.run pos pins s σ H _ I h0) fun ws s2 ⟨zs, H2, I2, rz, l1, l2, q2⟩ => ⟨I2.kIn, ?_⟩
  rw [hks]
  exact run_gen hF (hr.mono hj) kb tk I2 .nil rz l1 l2 (q2 gV hg2)
/-- keywords' values -/
theorem kNil : PK X [] (tDA W M E dNil) := ⟨fun pos pins s σ H Q I h => pk_nil.run pos pins s σ H Q I (nil_in h)⟩
theorem kCons {nm : Option Str} {f : DE} (ha : PE X e (tD W M E f)) (hr : PK X kws (tDA W M E fa)) : PK X (⟨nm, e, kpos⟩ :: kws) (tDA W M E (dCons f fa)) := ⟨fun pos pins s σ H Q I h => (pk_cons ha hr).run pos pins s σ H Q I (cons_in h)⟩

def dMake (t : Nat) (F : DF) (n m q : Nat) (ix : List Nat) (dfl : List AV) (fa fk : DA) : DE := fun s h => (fa s h).bind fun a h1 => (fk s h1).bind fun b h2 =>
  if a.length = n ∧ b.length = m ∧ (sel ix (.ref h2.length :: a ++ dfl ++ b)).length = q then
    (F (sel ix (.ref h2.length :: a ++ dfl ++ b)) (h2 ++ [.ins t []])).bind fun v h3 => match v with
      | .non => .ok (.ref h2.length) h3
      | _ => .stuck
  else .stuck
theorem mkargs_in {t : Nat} {C : Addr} (hk : W.ct.kit t = true) (hC : W.cl t = C) {σ : L2.St} {H : Hp} {Q : VK} (h : tD W M E (dMake t F n m j ix dfl fa fk) σ H Q) :
    tDA W M E fa σ H fun vs H1 => tDA W M E fk σ H1 fun zs H2 => vs.length = n ∧ zs.length = m ∧ ∀ gV : List V → List V → List V, (∀ io H as bs vs zs, RVs W io H as vs → RVs W io H bs zs → RVs W io H (sel ix (as ++ dfl ++ bs)) (gV vs zs)) →
      ∀ x dx, H2 x = none → H2 dx = none → dx ≠ x → spD W j F (gV (.ref x :: vs) zs) (upd (upd H2 dx (.own x)) x (.ins C dx [])) (fun v H3 => v = .non ∧ Q (.ref x) H3) (WE E σ) := by
  subst hC
  obtain ⟨io, hp, as, rl, S, P⟩ := h
  refine (step (rh := RVs W) (f := fa) rl S P).imp fun vs H1 ⟨io2, hp2, a, e2, rl2, ra, P2⟩ => ?_
  refine (step (rh := RVs W) (f := fk) rl2 (M.mono e2 S) P2).imp fun zs H4 ⟨io5, hp5, b, e5, rl5, rb, P5⟩ => ?_
  by_cases hc : a.length = n ∧ b.length = m ∧ (sel ix (.ref hp5.length :: a ++ dfl ++ b)).length = j
  · rw [if_pos hc] at P5
    have ra' := ra.mono e5
    refine ⟨ra'.len.symm.trans hc.1, rb.len.symm.trans hc.2.1, fun gV hg x dx hx hdx hne => ?_⟩
    have rlA : Rl W io5 hp5 (upd H4 dx (.own x)) := rl5.other hdx
    have eA : Ext W io5 H4 io5 (upd H4 dx (.own x)) := Ext.new0 hdx
    have hx' : upd H4 dx (.own x) x = none := by
      rw [upd_ne (Ne.symm hne)]
      exact hx
    have eB : Ext W io5 (upd H4 dx (.own x)) (io5 ++ [x]) (upd (upd H4 dx (.own x)) x (.ins (W.cl t) dx [])) := Ext.new io5 _ hx' [x]
    have rlB : Rl W (io5 ++ [x]) (hp5 ++ [.ins t []]) (upd (upd H4 dx (.own x)) x (.ins (W.cl t) dx [])) := rlA.new hx' (.ins hk .nil)
    have eC := eA.trans eB
    refine ⟨io5 ++ [x], hp5 ++ [.ins t []], sel ix (.ref hp5.length :: a ++ dfl ++ b), hc.2.2, rlB, ?_, ?_⟩
    · refine hg _ _ (.ref hp5.length :: a) b (.ref x :: vs) zs (.cons (.ref ?_) (ra'.mono eC)) (rb.mono eC)
      rw [← rl5.len]
      simp
    · have P6 := Pst.later P5 eC
      cases z : F (sel ix (.ref hp5.length :: a ++ dfl ++ b)) (hp5 ++ [.ins t []]) with
      | ok v h3 =>
        rw [z] at P6
        cases v with
        | non =>
          intro io' H' y e' rl' ry
          refine ⟨ry.non_inv, P6 io' H' (.ref x) e' rl' (.ref (e'.at ?_))⟩
          rw [← rl5.len]
          simp
        | _ => exact P6.elim
      | exc t' fs h3 =>
        rw [z] at P6
        exact P6
      | stuck =>
        rw [z] at P6
        exact P6
  · rw [if_neg hc] at P5
    exact P5.elim
theorem run_mk {C : Addr} {pins : List (Addr × Obj)} {σ : L2.St} {H : Hp} {s : Shared} {Q : VK} {us ws : List Value} {vs zs : List V} {sp : Sp} {g : List Value → List Value → List Value} {gV : List V → List V → List V} (N : Mk X.K C f) (hF : FnOk X.prog X.w X.K X.mg X.base (L2.CX X.prog X.w) j f fd ps sp) (hr : Room (j + 1) X.A) (hb : KBn X.K fd ps (n + 1) ks g gV) (tk : Takes X E)
    (I : Inv X pins σ H s) (r : Vals vs us) (rz : Vals zs ws) (l1 : vs.length = n) (l2 : zs.length = ks.length)
    (h : ∀ x dx, H x = none → H dx = none → dx ≠ x → sp (gV (.ref x :: vs) zs) (upd (upd H dx (.own x)) x (.ins C dx [])) (fun v H2 => v = .non ∧ Q (.ref x) H2) (WE E σ)) :
    wpAny (model X.prog X.w) X.A (call (.ref C) us (ks.zip ws)) (EP X pins σ Q) X.xe s := by
  have hq := h (s.heap.objs.size + 1) s.heap.objs.size (I.hok.fresh (Nat.le_succ _)) (I.hok.fresh (Nat.le_refl _)) (Nat.ne_of_lt (Nat.lt_succ_self _))
  have I2 := Inv.made (C := C) I
  have r1 : Vals (V.ref (s.heap.objs.size + 1) :: vs) (Value.ref (s.heap.objs.size + 1) :: us) := .cons rfl r
  have r2 := hb.rel r1 rz
  have n1 : (Value.ref (s.heap.objs.size + 1) :: us).length = n + 1 := by
    rw [List.length_cons, ← r.length, l1]
  refine wpAny_call (make_map (f := f) I.kIn N.makes N.init (beq_iff_eq.mp N.fn) (codeAny_mono (hF.run _ X.stack _ _ ⟨Value.ref (s.heap.objs.size + 1) :: us, ks.zip ws⟩ (g (Value.ref (s.heap.objs.size + 1) :: us) ws) _ _ (WE E σ) (hr.make C us (ks.zip ws))
    (I2.env0.make C us (ks.zip ws)) (hb.to _ (Value.ref (s.heap.objs.size + 1) :: us) ws I2.kIn n1 (rz.length.symm.trans l2)) r2 hq) fun r s' hq' => ?_))
  cases r with
  | error e => exact passAt tk σ pins _ _ e s' I2 hq'
  | ok fl =>
    cases fl with
    | ret u =>
      obtain ⟨v, H', I3, rv, ev, q3⟩ := I2.after hq'
      subst ev
      exact ⟨rv, ⟨V.ref (s.heap.objs.size + 1), H', I3, rfl, q3⟩⟩
    | next => exact False.elim hq'
    | brk => exact False.elim hq'
    | cont => exact False.elim hq'
theorem makeD0 {t : Nat} {C : Addr} (hkt : W.ct.kit t = true) (hC : W.cl t = C) (N : Mk X.K C f) (hF : FnOk X.prog X.w X.K X.mg X.base (L2.CX X.prog X.w) j f fd ps (spD W n F)) (hr : Room k X.A) (hj : j + 1 ≤ k) (hm : X.mg x = some (.ref C)) (hK : X.K = W.K) (hb : BnD W fd ps 1 ks ix dfl) (tk : Takes X E)
    (hkw : PK X kws (tDA W M E fk)) (hg : Gl X x := by rfl) (hall : (backToKw pos (keywordEach kws X.env)).all (·.1.isSome) = true := by rfl) (hks : (backToKw pos (keywordEach kws X.env)).filterMap (·.1) = ks := by rfl)
    (hdb : (x == ("__debug__" : Str)) = false := by decide)
    (hpl : ((backTo pos (starEach [] X.env)).any (·.1) || (backToKw pos (keywordEach kws X.env)).any (·.1.isNone)) = false := by rfl) :
    PE X (.Call (.Name x p) [] kws pos) (tD W M E (dMake t F 0 ks.length n ix dfl dNil fk)) := by
  obtain ⟨g, gV, kb, hg2⟩ := hb
  rw [← hK] at kb
  refine ⟨fun pins s σ H Q I h => ?_⟩
  refine wpAny_Call_Name_kw (ld_glob I hg hm ?_ hdb)
  refine PySem.W.callWith_KW0 (h₀ := X.base) I.ok.mod.kin N.kp hall ?_ hpl
  have h0 := nil_in (mkargs_in hkt hC h)
  refine thn (hkw.run pos pins s σ H _ I h0) fun ws s2 ⟨zs, H2, I2, rz, l1, l2, q2⟩ => ⟨I2.kIn, ?_⟩
  rw [hks]
  exact run_mk (us := []) (vs := []) N hF (hr.mono hj) kb tk I2 .nil rz l1 l2 (q2 gV hg2)
theorem makeD {t : Nat} {C : Addr} (hkt : W.ct.kit t = true) (hC : W.cl t = C) (N : Mk X.K C f) (hF : FnOk X.prog X.w X.K X.mg X.base (L2.CX X.prog X.w) j f fd ps (spD W n F)) (hr : Room k X.A) (hj : j + 1 ≤ k) (hm : X.mg x = some (.ref C)) (hK : X.K = W.K) (hb : BnD W fd ps (m + 1) ks ix dfl) (tk : Takes X E)
    (ha : PA X (e :: es) (tDA W M E fa)) (hkw : PK X kws (tDA W M E fk)) (hg : Gl X x := by rfl) (hall : (backToKw pos (keywordEach kws X.env)).all (·.1.isSome) = true := by rfl) (hks : (backToKw pos (keywordEach kws X.env)).filterMap (·.1) = ks := by rfl)
    (hdb : (x == ("__debug__" : Str)) = false := by decide) (he : starEach (e :: es) X.env = (false, eval e X.env) :: starEach es X.env := by rfl)
    (hpl : ((backTo pos (starEach (e :: es) X.env)).any (·.1) || (backToKw pos (keywordEach kws X.env)).any (·.1.isNone)) = false := by rfl) :
    PE X (.Call (.Name x p) (e :: es) kws pos) (tD W M E (dMake t F m ks.length n ix dfl fa fk)) := by
  obtain ⟨g, gV, kb, hg2⟩ := hb
  rw [← hK] at kb
  refine ⟨fun pins s σ H Q I h => ?_⟩
  refine wpAny_Call_Name_kw (ld_glob I hg hm ?_ hdb)
  refine PySem.W.callWith_KW (h₀ := X.base) I.ok.mod.kin N.kp hall (thn (ha.run pos pins s σ H _ I (mkargs_in hkt hC h)) fun us s1 ⟨vs, H1, I1, r, q⟩ => ?_) hpl he
  refine thn (hkw.run pos pins s1 σ H1 _ I1 q) fun ws s2 ⟨zs, H2, I2, rz, l1, l2, q2⟩ => ⟨I2.kIn, ?_⟩
  rw [hks]
  exact run_mk N hF (hr.mono hj) kb tk I2 r rz l1 l2 (q2 gV hg2)
end
end Dn
namespace Dn
open PySem PySem.Spec PyProof.Rows L2

section
variable {W : Wd} {M : Md W} {E : WX} {X : Cx}
def dStuck : DS := fun _ _ => .stuck
def eStuck : DE := fun _ _ => .stuck
theorem wallS {st : Stmt} : PS X st (tS W M E dStuck) := ⟨fun pins s σ H D I h => by
  obtain ⟨io, hp, as, _, _, P⟩ := h
  exact P.elim⟩
theorem wallSs {st : List Stmt} : PSs X st (tS W M E dStuck) := ⟨fun pins s σ H D I h => by
  obtain ⟨io, hp, as, _, _, P⟩ := h
  exact P.elim⟩
theorem wallE {e : Expr} : PE X e (tD W M E eStuck) := ⟨fun pins s σ H Q I h => by
  obtain ⟨io, hp, as, _, _, P⟩ := h
  exact P.elim⟩
end

def dAsg (f : DE) (g : DG) : DS := fun s h => (f s h).st s fun v h1 => match g v s with
  | some s' => .nx s' h1
  | none => .stuck
def dPar2 (i j : Nat) (f : DA) : DS := fun s h => (f s h).st s fun xs h1 => match xs with
  | [a, b] => .nx ((s.set i (some a)).set j (some b)) h1
  | _ => .stuck
def dPar3 (i j l : Nat) (f : DA) : DS := fun s h => (f s h).st s fun xs h1 => match xs with
  | [a, b, c] => .nx (((s.set i (some a)).set j (some b)).set l (some c)) h1
  | _ => .stuck
section
variable {W : Wd} {M : Md W} {E : WX} {X : Cx} {f : DE} {fa : DA} {e a b c tg : Expr} {es : List Expr} {g : DG} {pos : Pos}
/-- a name of the top that holds a value of the written part -/
theorem gcD {x : Str} {v : AV} {y : V} {u : Value} (hm : X.mg x = some u) (hr : RelV y u) (r : RW0 W v y) (hg : Gl X x := by rfl) (hdb : (x == ("__debug__" : Str)) = false := by decide) :
    PE X (.Name x pos) (tD W M E (dC v)) := cD (pe_glob hg hm hr hdb) r
/-- a built-in type, by its name -/
theorem tyD {x : Str} {n : String} (hm : X.mg x = none) (hv : bootBuiltins x = some (.type n)) (hg : Gl X x := by rfl) (hn : x ≠ "__name__" := by decide) (hdb : (x == ("__debug__" : Str)) = false := by decide) :
    PE X (.Name x pos) (tD W M E (dC (.ty n))) := cD (pe_bltn hg hm hv (v := .ty n) rfl hn hdb) fun _ _ => .ty n
/-- an own class, by its name -/
theorem clD {x : Str} {t : Nat} {C : Addr} (hC : W.cl t = C) (hm : X.mg x = some (.ref C)) (hg : Gl X x := by rfl) (hdb : (x == ("__debug__" : Str)) = false := by decide) :
    PE X (.Name x pos) (tD W M E (dC (.cls t))) := cD (pe_glob hg hm (v := .ref C) rfl hdb) fun _ _ => by
  subst hC
  exact .cls t
theorem sAsg (he : PE X e (tD W M E f)) (hg : PG X tg (tgG W M anyC g)) (hs : swapsWithSole [tg] e pos.line X.env = pure false := by rfl) (hw : swappedStores [tg] e X.env = pure none := by rfl)
    (h1 : (assignEach [tg] X.env).map (·.2) = [assign tg X.env] := by rfl) : PS X (.Assign [tg] e pos) (tS W M E (dAsg f g)) := psI (ps_asg he hg hs hw h1) fun D σ H h => by
  obtain ⟨io, hp, as, rl, S, P⟩ := h
  refine (stepS (rh := RV W) (f := f) rl S P).imp fun x H1 ⟨io2, hp2, a, e2, rl2, ra, P2⟩ => ?_
  refine ⟨io2, hp2, as, a, rl2, M.mono e2 S, ra, ?_⟩
  cases z : g a as with
  | none =>
    rw [z] at P2
    exact P2.elim
  | some s' =>
    rw [z] at P2
    exact fun σ' S' _ => P2 io2 H1 σ' Ext.refl rl2 S'
theorem sPar2 {i j : Nat} {x y : Str} {px py pt : Pos} {kt k2 pt2} (hc : X.calm = true) (hN : X.N.Nodup) (hi : X.N[i]? = some x) (hj : X.N[j]? = some y) (hij : i ≠ j)
    (hx : X.env.scope.names.lookup x = some .local) (hy : X.env.scope.names.lookup y = some .local) (ha : PA X [a, b] (tDA W M E fa)) (o1 : M.ok i) (o2 : M.ok j)
    (hw : swappedStores [.Tuple [.Name x px, .Name y py] kt pt] (.Tuple [a, b] k2 pt2) X.env = pure (some [x, y]) := by rfl)
    (hs : swapsWithSole [.Tuple [.Name x px, .Name y py] kt pt] (.Tuple [a, b] k2 pt2) pos.line X.env = pure false := by rfl) :
    PS X (.Assign [.Tuple [.Name x px, .Name y py] kt pt] (.Tuple [a, b] k2 pt2) pos) (tS W M E (dPar2 i j fa)) := psI (ps_par hc hN hi hj hij hx hy ha hw hs) fun D σ H h => by
  obtain ⟨io, hp, as, rl, S, P⟩ := h
  refine (stepS (rh := RVs W) (f := fa) rl S P).imp fun x H1 ⟨io2, hp2, a, e2, rl2, ra, P2⟩ => ?_
  match a, ra, P2 with
  | [_, _], .cons r1 (.cons r2 .nil), P2 => exact ⟨_, _, rfl, P2 io2 H1 _ Ext.refl rl2 (M.set (M.set (M.mono e2 S) r1 o1) r2 o2)⟩
theorem sPar3 {i j l : Nat} {x y z : Str} {px py pz pt : Pos} {kt k2 pt2} (hc : X.calm = true) (hN : X.N.Nodup) (hi : X.N[i]? = some x) (hj : X.N[j]? = some y) (hl : X.N[l]? = some z) (hij : i ≠ j) (hil : i ≠ l) (hjl : j ≠ l)
    (hx : X.env.scope.names.lookup x = some .local) (hy : X.env.scope.names.lookup y = some .local) (hz : X.env.scope.names.lookup z = some .local) (ha : PA X [a, b, c] (tDA W M E fa)) (o1 : M.ok i) (o2 : M.ok j) (o3 : M.ok l)
    (hw : swappedStores [.Tuple [.Name x px, .Name y py, .Name z pz] kt pt] (.Tuple [a, b, c] k2 pt2) X.env = pure (some [x, y, z]) := by rfl)
    (hs : swapsWithSole [.Tuple [.Name x px, .Name y py, .Name z pz] kt pt] (.Tuple [a, b, c] k2 pt2) pos.line X.env = pure false := by rfl) :
    PS X (.Assign [.Tuple [.Name x px, .Name y py, .Name z pz] kt pt] (.Tuple [a, b, c] k2 pt2) pos) (tS W M E (dPar3 i j l fa)) := psI (ps_par3 hc hN hi hj hl hij hil hjl hx hy hz ha hw hs) fun D σ H h => by
  obtain ⟨io, hp, as, rl, S, P⟩ := h
  refine (stepS (rh := RVs W) (f := fa) rl S P).imp fun x H1 ⟨io2, hp2, a, e2, rl2, ra, P2⟩ => ?_
  match a, ra, P2 with
  | [_, _, _], .cons r1 (.cons r2 (.cons r3 .nil)), P2 => exact ⟨_, _, _, rfl, P2 io2 H1 _ Ext.refl rl2 (M.set (M.set (M.set (M.mono e2 S) r1 o1) r2 o2) r3 o3)⟩

def dStar (f : DE) (g : DA) : DA := fun s h => (f s h).bind fun a h1 => match seqOf h1 a with
  | some xs => (g s h1).bind fun b h2 => .ok (xs ++ b) h2
  | none => .stuck
theorem star_at {pins : List (Addr × Obj)} {σ : L2.St} {H : Hp} {s : Shared} {p : Addr} {vs : List V} {Q : List Value → Shared → Prop} (I : Inv X pins σ H s) (h : SqL X.K H p vs ∨ SqT X.K H p vs)
    (q : ∀ (us : List Value) (h' : Heap), Vals vs us → Inv X pins σ H { s with heap := h' } → Q us { s with heap := h' }) : PySem.W.StarOf (model X.prog X.w) X.A X.xe (.ref p) Q s := by
  have go : ∀ (T : String) (its : List Value) (o : Obj) (n : Nat), Vals vs its → vs.length ≤ sizeLine → s.heap.get? p = some o → o.cls = .type T → o.data = .seq its.toArray n → (T = "list" ∨ T = "tuple") → PySem.W.StarOf (model X.prog X.w) X.A X.xe (.ref p) Q s := fun T its o n r hz ho hc hd hT => by
    have z : wpAny (model X.prog X.w) X.A (collect (.ref p)) Q X.xe s := by
      refine wpAny_collect_seq p hT ho hc hd (fun h' hk => ?_) (by rw [List.size_toArray, ← r.length]; exact hz)
      exact q its h' r (I.kept (t' := s.toks) hk)
    have hT' : s.TypeIs (.ref p) T := ⟨o, ho, hc⟩
    unfold PySem.W.StarOf notIterableAtAll
    rcases hT with rfl | rfl
    · exact wpAny_bind (wpAny_specialOf hT' PySem.F.slot_list_iter.lookup (wpAny_pure ⟨rfl, z⟩))
    · exact wpAny_bind (wpAny_specialOf hT' PySem.F.slot_tuple_iter.lookup (wpAny_pure ⟨rfl, z⟩))
  rcases h with h | h
  · obtain ⟨its, r, pl, hz⟩ := I.list h
    obtain ⟨o, ho, hc, n, hd⟩ := pl.isList
    exact go "list" its o n r hz ho hc hd (.inl rfl)
  · obtain ⟨its, r, pl, hz⟩ := I.tuple h
    obtain ⟨o, ho, hc, n, hd⟩ := pl
    exact go "tuple" its o n r hz ho hc hd (.inr rfl)
theorem starD {p : Pos} (hK : X.K = W.K) (he : PE X e (tD W M E f)) (hr : PA X es (tDA W M E fa)) (hs : starEach (.Starred e p :: es) X.env = (true, eval e X.env) :: starEach es X.env := by rfl) : PA X (.Starred e p :: es) (tDA W M E (dStar f fa)) := by
  refine ⟨fun pos pins s σ H Q I h => ?_⟩
  obtain ⟨io, hp, as, rl, S, P⟩ := h
  refine PySem.W.items_star ?_ hs
  refine thn (he.run pins s σ H _ I (step (rh := RV W) (f := f) rl S P)) fun v s1 ⟨x, H1, I1, rx, io2, hp2, a, e2, rl2, ra, P2⟩ => ?_
  cases z : seqOf hp2 a with
  | none =>
    rw [z] at P2
    exact P2.elim
  | some xs =>
    rw [z] at P2
    obtain ⟨q, vs, rfl, hq, rvs⟩ := seqOf_in z rl2 ra
    cases (show v = Value.ref q from rx)
    rw [← hK] at hq
    refine star_at I1 hq fun us h' r' I2 => ?_
    refine thn (hr.run pos pins _ σ H1 _ I2 (step (rh := RVs W) (f := fa) rl2 (M.mono e2 S) P2)) fun ws s3 ⟨zs, H3, I3, rz, io5, hp5, b, e5, rl5, rb, P5⟩ => ?_
    exact ⟨vs ++ zs, H3, I3, r'.append rz, P5.ok rl5 ((rvs.mono e5).app rb)⟩
end
end Dn
namespace Dn
open PySem PySem.Spec PyProof.Rows L2

def lenA (h : Hep) : AV → Option Nat
  | .str x => if x.length ≤ SZ then some x.length else none
  | .tup xs => some xs.length
  | .rol xs => some xs.length
  | .ref n => match h[n]? with
    | some (.lst xs) => some xs.length
    | some (.dK kvs) => some kvs.length
    | _ => none
  | _ => none
def lenL : DL := fun as h => match as with
  | [a] => (lenA h a).map fun n => (.int (n : Nat), h)
  | _ => none
def absL : DL := fun as h => match as with
  | [.int i] => some (.int (i.natAbs : Nat), h)
  | _ => none
def maxL : DL := fun as h => match as with
  | [.int i, .int j] => some (.int (max i j), h)
  | _ => none
def minL : DL := fun as h => match as with
  | [.int i, .int j] => some (.int (min i j), h)
  | _ => none
def intL : DL := fun as h => match as with
  | [.int i] => some (.int i, h)
  | [.bl b] => some (.int (if b then 1 else 0), h)
  | _ => none
def blsOf : List AV → Option (List Bool)
  | [] => some []
  | .bl b :: r => (blsOf r).map (b :: ·)
  | _ => none
def intsOf : List AV → Option (List Int)
  | [] => some []
  | .int i :: r => (intsOf r).map (i :: ·)
  | _ => none
def allL : DL := fun as h => match as with
  | [a] => ((lstOf h a).bind blsOf).map fun bs => (.bl (bs.all id), h)
  | _ => none
def anyL : DL := fun as h => match as with
  | [a] => ((lstOf h a).bind blsOf).map fun bs => (.bl (bs.any id), h)
  | _ => none
def sumL : DL := fun as h => match as with
  | [a] => ((lstOf h a).bind intsOf).map fun ns => (.int ns.sum, h)
  | _ => none
def listL : DL := fun as h => match as with
  | [a] => match seqOf h a with
    | some xs => some (.ref h.length, h ++ [.lst xs])
    | none => match a with
      | .ref n => match h[n]? with
        | some (.dK kvs) => some (.ref h.length, h ++ [.lst (kvs.map fun kv => ofKey kv.1)])
        | _ => none
      | _ => none
  | _ => none
def tupleL : DL := fun as h => match as with
  | [a] => (seqOf h a).map fun xs => (.tup xs, h)
  | _ => none
section
variable {W : Wd} {M : Md W} {E : WX} {X : Cx}
theorem blsOf_in {io : List Addr} {H : Hp} : ∀ {xs : List AV} {vs : List V} {bs : List Bool}, blsOf xs = some bs → RVs W io H xs vs → vs = bs.map V.bl
  | [], _, _, e, .nil => by
    cases e
    rfl
  | x :: xs, _, _, e, .cons r t => by
    cases x with
    | bl b =>
      have e' : (blsOf xs).map (b :: ·) = some _ := e
      cases z : blsOf xs with
      | none =>
        rw [z] at e'
        cases e'
      | some l =>
        rw [z] at e'
        cases e'
        rw [r.bl_inv, blsOf_in z t]
        rfl
    | _ => cases e
theorem intsOf_in {io : List Addr} {H : Hp} : ∀ {xs : List AV} {vs : List V} {bs : List Int}, intsOf xs = some bs → RVs W io H xs vs → vs = bs.map V.int
  | [], _, _, e, .nil => by
    cases e
    rfl
  | x :: xs, _, _, e, .cons r t => by
    cases x with
    | int b =>
      have e' : (intsOf xs).map (b :: ·) = some _ := e
      cases z : intsOf xs with
      | none =>
        rw [z] at e'
        cases e'
      | some l =>
        rw [z] at e'
        cases e'
        rw [r.int_inv, intsOf_in z t]
        rfl
    | _ => cases e
theorem one_inv {io : List Addr} {H : Hp} {a : AV} {vs : List V} (r : RVs W io H [a] vs) : ∃ x, vs = [x] ∧ RV W io H a x := by
  cases r with
  | cons r t =>
    cases t
    exact ⟨_, rfl, r⟩
theorem two_inv {io : List Addr} {H : Hp} {a b : AV} {vs : List V} (r : RVs W io H [a, b] vs) : ∃ x y, vs = [x, y] ∧ RV W io H a x ∧ RV W io H b y := by
  cases r with
  | cons r t =>
    obtain ⟨y, rfl, r2⟩ := one_inv t
    exact ⟨_, _, rfl, r, r2⟩
theorem call_or {F : Value} {r r' : List V → Hp → VK → Prop} (h : CallR X F r) (h' : CallR X F r') : CallR X F (fun xs H Q => r xs H Q ∨ r' xs H Q) := fun pins s σ H xs us Q I rr q => q.elim (h pins s σ H xs us Q I rr) (h' pins s σ H xs us Q I rr)
theorem cLen (hK : X.K = W.K) : CallR X (.builtin "len") (tl W lenL) := call_imp (call_or call_len call_lenD) fun xs H Q ⟨io, hp, as, rl, ra, P⟩ => by
  match as, ra, P with
  | [a], ra, P =>
    obtain ⟨x, rfl, r⟩ := one_inv ra
    have P' : Pop W (RV W) Q io H ((lenA hp a).map fun n => (AV.int (n : Nat), hp)) := P
    cases z : lenA hp a with
    | none =>
      rw [z] at P'
      exact P'.elim
    | some n =>
      rw [z] at P'
      have q : Q (.int (n : Nat)) H := P'.ok rl (.int _)
      cases r with
      | str y =>
        left
        unfold lenA at z
        dsimp only at z
        by_cases hz : y.length ≤ SZ
        · rw [if_pos hz] at z
          cases z
          exact ⟨_, _, rfl, ⟨szL hz, rfl⟩, q⟩
        · rw [if_neg hz] at z
          cases z
      | tup h r =>
        left
        cases z
        refine ⟨_, _, rfl, .inr ⟨_, by rw [hK]; exact h, r.len⟩, q⟩
      | rol h r =>
        left
        cases z
        refine ⟨_, _, rfl, .inl ⟨_, by rw [hK]; exact roL_sq h, r.len⟩, q⟩
      | @ref n a h =>
        unfold lenA at z
        dsimp only at z
        cases e : hp[n]? with
        | none =>
          rw [e] at z
          cases z
        | some o =>
          rw [e] at z
          cases o with
          | lst xs =>
            cases z
            obtain ⟨vs, e1, r1⟩ := rl.lst h e
            left
            exact ⟨_, _, rfl, .inl ⟨vs, .inl (.inl e1), r1.len⟩, q⟩
          | dK kvs =>
            cases z
            obtain ⟨vs, e1, r1⟩ := rl.dK h e
            right
            refine ⟨_, vs, rfl, e1, ?_⟩
            rw [← r1.len]
            exact q
          | _ => cases z
      | _ => cases z
  | [], ra, P => exact P.elim
  | _ :: _ :: _, ra, P => exact P.elim
theorem cAbs : CallR X (.builtin "abs") (tl W absL) := call_imp call_abs fun xs H Q ⟨io, hp, as, rl, ra, P⟩ => by
  match as, ra, P with
  | [.int i], ra, P =>
    obtain ⟨x, rfl, r⟩ := one_inv ra
    obtain rfl := r.int_inv
    refine ⟨i, rfl, ?_⟩
    have q : Q (.int (i.natAbs : Nat)) H := P.ok rl (.int _)
    have e : (if i < 0 then -i else i) = ((i.natAbs : Nat) : Int) := by
      split <;> omega
    rw [e]
    exact q
theorem cMax (hc : X.calm = true) : CallR X (.builtin "max") (tl W maxL) := call_imp (call_max2 hc) fun xs H Q ⟨io, hp, as, rl, ra, P⟩ => by
  match as, ra, P with
  | [.int i, .int j], ra, P =>
    obtain ⟨x, y, rfl, r1, r2⟩ := two_inv ra
    obtain rfl := r1.int_inv
    obtain rfl := r2.int_inv
    have q : Q (.int (max i j)) H := P.ok rl (.int _)
    have e : (if j > i then j else i) = max i j := by
      split <;> omega
    refine ⟨i, j, rfl, ?_⟩
    rw [e]
    exact q
theorem cMin (hc : X.calm = true) : CallR X (.builtin "min") (tl W minL) := call_imp (call_min2 hc) fun xs H Q ⟨io, hp, as, rl, ra, P⟩ => by
  match as, ra, P with
  | [.int i, .int j], ra, P =>
    obtain ⟨x, y, rfl, r1, r2⟩ := two_inv ra
    obtain rfl := r1.int_inv
    obtain rfl := r2.int_inv
    have q : Q (.int (min i j)) H := P.ok rl (.int _)
    have e : (if j < i then j else i) = min i j := by
      split <;> omega
    refine ⟨i, j, rfl, ?_⟩
    rw [e]
    exact q
theorem cInt : CallR X (.type "int") (tl W intL) := call_imp call_int1 fun xs H Q ⟨io, hp, as, rl, ra, P⟩ => by
  match as, ra, P with
  | [.int i], ra, P =>
    obtain ⟨x, rfl, r⟩ := one_inv ra
    obtain rfl := r.int_inv
    exact .inl ⟨i, rfl, P.ok rl (.int _)⟩
  | [.bl i], ra, P =>
    obtain ⟨x, rfl, r⟩ := one_inv ra
    obtain rfl := r.bl_inv
    exact .inr ⟨i, rfl, P.ok rl (.int _)⟩
theorem cAll (hK : X.K = W.K) (hc : X.calm = true) : CallR X (.builtin "all") (tl W allL) := call_imp (cr_all hc) fun xs H Q ⟨io, hp, as, rl, ra, P⟩ => by
  match as, ra, P with
  | [a], ra, P =>
    obtain ⟨x, rfl, r⟩ := one_inv ra
    have P' : Pop W (RV W) Q io H (((lstOf hp a).bind blsOf).map fun bs => (AV.bl (bs.all id), hp)) := P
    cases z : lstOf hp a with
    | none =>
      rw [z] at P'
      exact P'.elim
    | some ys =>
      rw [z] at P'
      obtain ⟨p, vs, rfl, hs, rv⟩ := lstOf_in z rl r
      have P2 : Pop W (RV W) Q io H ((blsOf ys).map fun bs => (AV.bl (bs.all id), hp)) := P'
      cases z2 : blsOf ys with
      | none =>
        rw [z2] at P2
        exact P2.elim
      | some bs =>
        rw [z2] at P2
        have e := blsOf_in z2 rv
        subst e
        exact ⟨p, bs, rfl, by rw [hK]; exact hs, P2.ok rl (.bl _)⟩
  | [], ra, P => exact P.elim
  | _ :: _ :: _, ra, P => exact P.elim
theorem cAny (hK : X.K = W.K) (hc : X.calm = true) : CallR X (.builtin "any") (tl W anyL) := call_imp (cr_any hc) fun xs H Q ⟨io, hp, as, rl, ra, P⟩ => by
  match as, ra, P with
  | [a], ra, P =>
    obtain ⟨x, rfl, r⟩ := one_inv ra
    have P' : Pop W (RV W) Q io H (((lstOf hp a).bind blsOf).map fun bs => (AV.bl (bs.any id), hp)) := P
    cases z : lstOf hp a with
    | none =>
      rw [z] at P'
      exact P'.elim
    | some ys =>
      rw [z] at P'
      obtain ⟨p, vs, rfl, hs, rv⟩ := lstOf_in z rl r
      have P2 : Pop W (RV W) Q io H ((blsOf ys).map fun bs => (AV.bl (bs.any id), hp)) := P'
      cases z2 : blsOf ys with
      | none =>
        rw [z2] at P2
        exact P2.elim
      | some bs =>
        rw [z2] at P2
        have e := blsOf_in z2 rv
        subst e
        exact ⟨p, bs, rfl, by rw [hK]; exact hs, P2.ok rl (.bl _)⟩
  | [], ra, P => exact P.elim
  | _ :: _ :: _, ra, P => exact P.elim
theorem cSum (hK : X.K = W.K) (hc : X.calm = true) : CallR X (.builtin "sum") (tl W sumL) := call_imp (cr_sum hc) fun xs H Q ⟨io, hp, as, rl, ra, P⟩ => by
  match as, ra, P with
  | [a], ra, P =>
    obtain ⟨x, rfl, r⟩ := one_inv ra
    have P' : Pop W (RV W) Q io H (((lstOf hp a).bind intsOf).map fun bs => (AV.int (bs.sum), hp)) := P
    cases z : lstOf hp a with
    | none =>
      rw [z] at P'
      exact P'.elim
    | some ys =>
      rw [z] at P'
      obtain ⟨p, vs, rfl, hs, rv⟩ := lstOf_in z rl r
      have P2 : Pop W (RV W) Q io H ((intsOf ys).map fun bs => (AV.int bs.sum, hp)) := P'
      cases z2 : intsOf ys with
      | none =>
        rw [z2] at P2
        exact P2.elim
      | some bs =>
        rw [z2] at P2
        have e := intsOf_in z2 rv
        subst e
        exact ⟨p, bs, rfl, by rw [hK]; exact hs, P2.ok rl (.int _)⟩
  | [], ra, P => exact P.elim
  | _ :: _ :: _, ra, P => exact P.elim
/-- a new list is laid -/
theorem lay_lst {io : List Addr} {hp : Hep} {H : Hp} {Q : VK} {xs : List AV} {vs : List V} (P : Pop W (RV W) Q io H (some (AV.ref hp.length, hp ++ [.lst xs]))) (rl : Rl W io hp H) (r : RVs W io H xs vs) :
    ∀ l, H l = none → Q (.ref l) (upd H l (.lst vs)) := fun l hl => by
  have e : Ext W io H (io ++ [l]) (upd H l (.lst vs)) := Ext.new io _ hl [l]
  exact P _ _ _ e (rl.new hl (.lst (r.mono e))) (.ref (by rw [← rl.len]; simp))
theorem cList (hK : X.K = W.K) (hc : X.calm = true) : CallR X (.type "list") (tl W listL) := call_imp (call_or call_list_of (call_listD hc)) fun xs H Q ⟨io, hp, as, rl, ra, P⟩ => by
  match as, ra, P with
  | [a], ra, P =>
    obtain ⟨x, rfl, r⟩ := one_inv ra
    cases z : seqOf hp a with
    | some ys =>
      have P' : Pop W (RV W) Q io H (some (AV.ref hp.length, hp ++ [.lst ys])) := by
        unfold listL at P
        simp only [z] at P
        exact P
      obtain ⟨p, vs, rfl, hs, rv⟩ := seqOf_in z rl r
      left
      refine ⟨p, vs, rfl, by rw [hK]; exact hs, lay_lst P' rl rv⟩
    | none =>
      unfold listL at P
      simp only [z] at P
      cases r with
      | @ref n a h =>
        dsimp only at P
        cases e : hp[n]? with
        | none =>
          rw [e] at P
          exact P.elim
        | some o =>
          rw [e] at P
          cases o with
          | dK kvs =>
            obtain ⟨vs, e1, r1⟩ := rl.dK h e
            right
            refine ⟨_, vs, rfl, .inl e1, ?_⟩
            have q : RVs W io H (kvs.map fun kv => ofKey kv.1) (vs.map fun kv => kV kv.1) := by
              clear P e e1
              induction r1 with
              | nil => exact .nil
              | cons _ _ ih => exact .cons (rv_key _) ih
            exact lay_lst P rl q
          | _ => exact P.elim
      | _ => exact P.elim
  | [], ra, P => exact P.elim
  | _ :: _ :: _, ra, P => exact P.elim
theorem cTuple (hK : X.K = W.K) : CallR X (.type "tuple") (tl W tupleL) := call_imp call_tuple_of fun xs H Q ⟨io, hp, as, rl, ra, P⟩ => by
  match as, ra, P with
  | [a], ra, P =>
    obtain ⟨x, rfl, r⟩ := one_inv ra
    have P' : Pop W (RV W) Q io H ((seqOf hp a).map fun xs => (AV.tup xs, hp)) := P
    cases z : seqOf hp a with
    | none =>
      rw [z] at P'
      exact P'.elim
    | some ys =>
      rw [z] at P'
      obtain ⟨p, vs, rfl, hs, rv⟩ := seqOf_in z rl r
      refine ⟨p, vs, rfl, ?_⟩
      rcases hs with hs | hs
      · refine .inl ⟨by rw [hK]; exact hs, fun l hl => ?_⟩
        have e : Ext W io H io (upd H l (.tup vs)) := Ext.new0 hl
        exact P' io _ _ e (rl.other hl) (.tup (.inl (.inl upd_same)) (rv.mono e))
      · exact .inr ⟨by rw [hK]; exact hs, P'.ok rl (.tup hs rv)⟩
  | [], ra, P => exact P.elim
  | _ :: _ :: _, ra, P => exact P.elim

def kitB (ct : CT) (t : Nat) : Option TW := if ct.kit t then some (.cls t) else none
def twO (ct : CT) : AO → Option TW
  | .lst _ => some (.ty "list")
  | .dK _ => some (.ty "dict")
  | .dT _ => some (.ty "dict")
  | .ins t _ => kitB ct t
  | .frz _ => none
def twOf (ct : CT) (h : Hep) : AV → Option TW
  | .non => some (.ty "NoneType")
  | .bl _ => some (.ty "bool")
  | .int _ => some (.ty "int")
  | .str _ => some (.ty "str")
  | .tup _ => some (.ty "tuple")
  | .ref n => (h[n]?).bind (twO ct)
  | _ => none
def twC (ct : CT) : AV → Option TW
  | .ty n => if n ∈ tyNames then some (.ty n) else none
  | .cls t => kitB ct t
  | _ => none
def isiB (ct : CT) (h : Hep) (a c : AV) : Option Bool := match twOf ct h a, twC ct c with
  | some t, some u => some (t.sub ct u)
  | _, _ => none
def isiL (ct : CT) : DL := fun as h => match as with
  | [a, c] => (isiB ct h a c).map fun b => (.bl b, h)
  | _ => none
def TW.okk (W : Wd) : TW → Prop
  | .ty n => n ∈ tyNames
  | .cls t => W.ct.kit t = true
theorem kit_ty0 {K : PySem.W.Frag} {a b : String} (ha : a ∈ tyNames) (hb : b ∈ tyNames) : PySem.W.kitOne K (.type a) (.type b) = some (a == b || (a == "bool" && b == "int")) := by
  simp only [tyNames, List.mem_cons, List.not_mem_nil, or_false] at ha hb
  rcases ha with rfl | rfl | rfl | rfl | rfl | rfl | rfl <;> rcases hb with rfl | rfl | rfl | rfl | rfl | rfl | rfl <;> first | rfl | kernel_rfl
theorem TW.sub_in {a b : TW} (W : Wd) (ha : a.okk W) (hb : b.okk W) : PySem.W.kitOne W.K (a.val W) (b.val W) = some (a.sub W.ct b) := by
  cases a with
  | ty n =>
    cases b with
    | ty m => exact kit_ty0 ha hb
    | cls t => exact W.ctf n t ha hb
  | cls s =>
    cases b with
    | ty m => exact W.cty m s hb ha
    | cls t => exact W.csf s t ha hb
theorem twOf_in {io : List Addr} {hp : Hep} {H : Hp} {a : AV} {x : V} {t : TW} (e : twOf W.ct hp a = some t) (rl : Rl W io hp H) (r : RV W io H a x) :
    t.okk W ∧ TyX W.K H x (t.val W) := by
  cases r with
  | non => cases e; exact ⟨(by simp [TW.okk] : TW.okk W (.ty _)), .base .non⟩
  | bl b => cases e; exact ⟨(by simp [TW.okk] : TW.okk W (.ty _)), .base (.bl b)⟩
  | int b => cases e; exact ⟨(by simp [TW.okk] : TW.okk W (.ty _)), .base (.int b)⟩
  | str b => cases e; exact ⟨(by simp [TW.okk] : TW.okk W (.ty _)), .base (.str b)⟩
  | tup h r =>
    cases e
    refine ⟨(by simp [TW.okk] : TW.okk W (.ty _)), ?_⟩
    rcases h with (h | ⟨o, h⟩) | ⟨o, its, n, h1, h2, _⟩
    · exact .base (.tup h)
    · exact .fTuple h
    · exact .kTuple h1 h2
  | @ref n a h =>
    unfold twOf at e
    dsimp only at e
    cases z : hp[n]? with
    | none =>
      rw [z] at e
      cases e
    | some o =>
      rw [z] at e
      have e' : twO W.ct o = some t := e
      cases o with
      | lst xs =>
        cases e'
        obtain ⟨vs, e1, _⟩ := rl.lst h z
        exact ⟨(by simp [TW.okk] : TW.okk W (.ty _)), .base (.lst e1)⟩
      | dK xs =>
        cases e'
        obtain ⟨vs, e1, _⟩ := rl.dK h z
        exact ⟨(by simp [TW.okk] : TW.okk W (.ty _)), .base (.dK e1)⟩
      | dT xs =>
        cases e'
        obtain ⟨vs, e1, _⟩ := rl.dT h z
        exact ⟨(by simp [TW.okk] : TW.okk W (.ty _)), .base (.dT e1)⟩
      | ins c fs =>
        have e2 : kitB W.ct c = some t := e'
        unfold kitB at e2
        split at e2
        · rename_i hk
          cases e2
          obtain ⟨dx, vs, e1, _⟩ := rl.ins h z
          obtain ⟨c1, c2, c3⟩ := W.cg c hk
          exact ⟨hk, .base (.ins e1 c1 c2 W.cd W.ck c3)⟩
        · cases e2
      | frz o => cases e'
  | _ => cases e
theorem twC_in {io : List Addr} {H : Hp} {a : AV} {x : V} {t : TW} (e : twC W.ct a = some t) (r : RV W io H a x) :
    t.okk W ∧ ClsV x (t.val W) := by
  cases r with
  | ty n =>
    unfold twC at e
    dsimp only at e
    split at e
    · rename_i h
      cases e
      exact ⟨h, .ty n⟩
    · cases e
  | cls c =>
    have e2 : kitB W.ct c = some t := e
    unfold kitB at e2
    split at e2
    · rename_i hk
      cases e2
      exact ⟨hk, .own _⟩
    · cases e2
  | _ => cases e
theorem cIsi (hK : X.K = W.K) : CallR X (.builtin "isinstance") (tl W (isiL W.ct)) := call_imp call_isi fun xs H Q ⟨io, hp, as, rl, ra, P⟩ => by
  match as, ra, P with
  | [a, c], ra, P =>
    obtain ⟨x, y, rfl, r1, r2⟩ := two_inv ra
    have P' : Pop W (RV W) Q io H ((isiB W.ct hp a c).map fun b => (AV.bl b, hp)) := P
    unfold isiB at P'
    cases z1 : twOf W.ct hp a with
    | none =>
      rw [z1] at P'
      exact P'.elim
    | some t =>
      rw [z1] at P'
      cases z2 : twC W.ct c with
      | none =>
        rw [z2] at P'
        exact P'.elim
      | some u =>
        rw [z2] at P'
        obtain ⟨k1, t1⟩ := twOf_in z1 rl r1
        obtain ⟨k2, t2⟩ := twC_in z2 r2
        refine ⟨x, y, t.val W, u.val W, t.sub W.ct u, rfl, t2, ?_, ?_, P'.ok rl (.bl _)⟩
        · rw [hK]
          exact t1
        · rw [hK]
          exact TW.sub_in W k1 k2
  | [], ra, P => exact P.elim
  | [_], ra, P => exact P.elim
  | _ :: _ :: _ :: _, ra, P => exact P.elim

variable {e o : Expr} {es : List Expr} {fa : DA} {f : DE} {x : Str} {p pos apos : Pos} {r : DL} {id T : String}
theorem bD (hc : CallR X (.builtin id) (tl W r)) (hm : X.mg x = none) (hv : bootBuiltins x = some (.builtin id)) (ha : PA X (e :: es) (tDA W M E fa)) (hg : Gl X x := by rfl) (hn : x ≠ "__name__" := by decide) (hdb : (x == ("__debug__" : Str)) = false := by decide)
    (he : starEach (e :: es) X.env = (false, eval e X.env) :: starEach es X.env := by rfl) (hpl : (backTo pos (starEach es X.env)).any (·.1) = false := by rfl) : PE X (.Call (.Name x p) (e :: es) [] pos) (tD W M E (dCB r fa)) :=
  peI (pe_callB hc hg hm hv ha hn hdb he hpl) fun _ _ _ h => cb_in h
theorem yD (hc : CallR X (.type T) (tl W r)) (hm : X.mg x = none) (hv : bootBuiltins x = some (.type T)) (ha : PA X (e :: es) (tDA W M E fa)) (hg : Gl X x := by rfl) (hn : x ≠ "__name__" := by decide) (hdb : (x == ("__debug__" : Str)) = false := by decide)
    (he : starEach (e :: es) X.env = (false, eval e X.env) :: starEach es X.env := by rfl) (hpl : (backTo pos (starEach es X.env)).any (·.1) = false := by rfl) : PE X (.Call (.Name x p) (e :: es) [] pos) (tD W M E (dCB r fa)) :=
  peI (pe_callTy hc hg hm hv ha hn hdb he hpl) fun _ _ _ h => cb_in h
def tm (W : Wd) (r : DMt) : V → List V → Hp → VK → Prop := fun x vs H Q => ∃ io hp a as, Rl W io hp H ∧ RV W io H a x ∧ RVs W io H as vs ∧ Pop W (RV W) Q io H (r a as hp)
theorem mt_imp {r r' : V → List V → Hp → VK → Prop} (h : MtR X id r) (i : ∀ x xs H Q, r' x xs H Q → r x xs H Q) : MtR X id r' := fun pins s σ H x xs v us Q I rx rxs q => h pins s σ H x xs v us Q I rx rxs (i x xs H Q q)
/-- is it such a builtin value? -/
def tyA (T : String) (h : Hep) : AV → Bool
  | .str _ => T == "str"
  | .ref n => match h[n]? with
    | some (.lst _) => T == "list"
    | some (.dK _) => T == "dict"
    | some (.dT _) => T == "dict"
    | _ => false
  | _ => false
def dMt (T : String) (r : DMt) (f : DE) (fa : DA) : DE := fun s h => (f s h).bind fun a h1 => if tyA T h1 a then (fa s h1).bind fun b h2 => R.of (r a b h2) else .stuck
theorem tyA_in {io : List Addr} {hp : Hep} {H : Hp} {a : AV} {x : V} (e : tyA T hp a = true) (rl : Rl W io hp H) (r : RV W io H a x) : tyV W.K T x H := by
  cases r with
  | str y => exact beq_iff_eq.mp e
  | @ref n a h =>
    unfold tyA at e
    dsimp only at e
    cases z : hp[n]? with
    | none =>
      rw [z] at e
      cases e
    | some o =>
      rw [z] at e
      cases o with
      | lst xs =>
        obtain ⟨vs, e1, _⟩ := rl.lst h z
        exact .inl ⟨beq_iff_eq.mp e, vs, .inl (.inl e1)⟩
      | dK xs =>
        obtain ⟨vs, e1, _⟩ := rl.dK h z
        exact .inr (.inr (.inl ⟨beq_iff_eq.mp e, .inl ⟨vs, e1⟩⟩))
      | dT xs =>
        obtain ⟨vs, e1, _⟩ := rl.dT h z
        exact .inr (.inr (.inl ⟨beq_iff_eq.mp e, .inr ⟨vs, e1⟩⟩))
      | _ => cases e
  | _ => cases e
theorem mt_in {r : DMt} {σ : L2.St} {H : Hp} {Q : VK} (h : tD W M E (dMt T r f fa) σ H Q) : tBM W.K T (tm W r) (tD W M E f) (tDA W M E fa) σ H Q := by
  obtain ⟨io, hp, as, rl, S, P⟩ := h
  refine (step (rh := RV W) (f := f) rl S P).imp fun x H1 ⟨io2, hp2, a, e2, rl2, ra, P2⟩ => ?_
  by_cases ht : tyA T hp2 a = true
  · rw [if_pos ht] at P2
    refine ⟨tyA_in ht rl2 ra, ?_⟩
    refine (step (rh := RVs W) (f := fa) rl2 (M.mono e2 S) P2).imp fun y H4 ⟨io5, hp5, b, e5, rl5, rb, P5⟩ => ?_
    exact ⟨io5, hp5, a, b, rl5, ra.mono e5, rb, P5.of⟩
  · rw [if_neg ht] at P2
    exact P2.elim
variable {name : Str} {r : DMt}
theorem mD (hK : X.K = W.K) (pa : PlainAttrs T) (slot : Slot T name id) (hm : MtR X id (tm W r)) (ho : PE X o (tD W M E f)) (ha : PA X (e :: es) (tDA W M E fa)) (hty : typeOf (.builtin id) = pure (.type "method_descriptor") := by rfl)
    (hbase : attributeBase o name X.env (eval o X.env) = eval o X.env := by rfl)
    (hfew : ((backTo pos (starEach (e :: es) X.env)).all (fun x => !x.1) && (backToKw pos (keywordEach [] X.env)).all (fun x => x.1.isSome)
      && decide ((e :: es).length + ([] : List Keyword).length + (if ([] : List Keyword).isEmpty then 0 else 1) < 30)) = true := by rfl)
    (hline : (apos.endLine == pos.line) = true := by rfl) (hs : starEach (e :: es) X.env = (false, eval e X.env) :: starEach es X.env := by rfl) (hplain : (backTo pos (starEach es X.env)).any (·.1) = false := by rfl) :
    PE X (.Call (.Attribute o name apos) (e :: es) [] pos) (tD W M E (dMt T r f fa)) :=
  peI (pe_bm pa slot hty hm ho ha hbase hfew hline hs hplain) fun σ H Q h => by
    rw [hK]
    exact mt_in h
theorem mD0 (hK : X.K = W.K) (pa : PlainAttrs T) (slot : Slot T name id) (hm : MtR X id (tm W r)) (ho : PE X o (tD W M E f)) (hty : typeOf (.builtin id) = pure (.type "method_descriptor") := by rfl)
    (hbase : attributeBase o name X.env (eval o X.env) = eval o X.env := by rfl)
    (hline : (apos.endLine == pos.line) = true := by rfl) :
    PE X (.Call (.Attribute o name apos) [] [] pos) (tD W M E (dMt T r f dNil)) :=
  peI (pe_bm0 pa slot hty hm ho hbase hline) fun σ H Q h => by
    rw [hK]
    have z := mt_in h
    refine z.imp fun x H1 ⟨a, b⟩ => ⟨a, nil_in b⟩

theorem lstAt_in {io : List Addr} {hp : Hep} {H : Hp} {a : AV} {x : V} {n : Nat} {xs : List AV} (e : lstAt hp a = some (n, xs)) (rl : Rl W io hp H) (r : RV W io H a x) : ∃ p vs, x = .ref p ∧ io[n]? = some p ∧ H p = some (.lst vs) ∧ RVs W io H xs vs := by
  cases r with
  | @ref m a h =>
    unfold lstAt at e
    dsimp only at e
    cases z : hp[m]? with
    | none =>
      rw [z] at e
      cases e
    | some o =>
      rw [z] at e
      cases o with
      | lst ys =>
        cases e
        obtain ⟨vs, e1, r1⟩ := rl.lst h z
        exact ⟨a, vs, rfl, h, e1, r1⟩
      | _ => cases e
  | _ => cases e
def mAppend : DMt := fun a as h => match lstAt h a, as with
  | some (n, xs), [b] => if xs.length < SZ then some (.non, h.set n (.lst (xs ++ [b]))) else none
  | _, _ => none
def mExtend : DMt := fun a as h => match lstAt h a, as with
  | some (n, xs), [b] => match lstAt h b with
    | some (_, ys) => if xs.length + ys.length ≤ SZ then some (.non, h.set n (.lst (xs ++ ys))) else none
    | none => none
  | _, _ => none
def mReverse : DMt := fun a as h => match lstAt h a, as with
  | some (n, xs), [] => some (.non, h.set n (.lst xs.reverse))
  | _, _ => none
def mClear : DMt := fun a as h => match lstAt h a, as with
  | some (n, xs), [] => some (.non, h.set n (.lst []))
  | _, _ => none
def mInsert : DMt := fun a as h => match lstAt h a, as with
  | some (n, xs), [c, b] => match c with
    | .int i => if xs.length < SZ ∧ 0 ≤ i ∧ i < 2 ^ 63 then some (.non, h.set n (.lst (xs.take i.toNat ++ [b] ++ xs.drop i.toNat))) else none
    | _ => none
  | _, _ => none
theorem set_lst {io : List Addr} {hp : Hep} {H : Hp} {Q : VK} {n : Nat} {p : Addr} {ys : List AV} {vs ws : List V} {b : AV} {y : V} (P : Pop W (RV W) Q io H (some (b, hp.set n (.lst ys)))) (rl : Rl W io hp H) (hi : io[n]? = some p) (hu : H p = some (.lst vs)) (r : RVs W io H ys ws) (rb : RV W io H b y) :
    Q y (upd H p (.lst ws)) := by
  have e : Ext W io H io (upd H p (.lst ws)) := Ext.set _ hu trivial
  exact P io _ y e (rl.set hi hu trivial (.lst (r.mono e))) (rb.mono e)
theorem meAppend : MtR X "list.append" (tm W mAppend) := mt_imp mt_append fun x xs H Q ⟨io, hp, a, as, rl, ra, ras, P⟩ => by
  unfold mAppend at P
  cases z : lstAt hp a with
  | none =>
    rw [z] at P
    exact P.elim
  | some q =>
    obtain ⟨n, ys⟩ := q
    rw [z] at P
    match as, ras, P with
    | [b], ras, P =>
      obtain ⟨y, rfl, rb⟩ := one_inv ras
      obtain ⟨p, vs, rfl, hi, hu, rv⟩ := lstAt_in z rl ra
      dsimp only at P
      split at P
      · rename_i hz
        refine ⟨p, vs, y, rfl, rfl, hu, by rw [← rv.len]; exact szT hz, ?_⟩
        exact set_lst P rl hi hu (rv.app (.cons rb .nil)) .non
      · exact P.elim
    | [], _, P => exact P.elim
    | _ :: _ :: _, _, P => exact P.elim
theorem meExtend : MtR X "list.extend" (tm W mExtend) := mt_imp mt_extend fun x xs H Q ⟨io, hp, a, as, rl, ra, ras, P⟩ => by
  unfold mExtend at P
  cases z : lstAt hp a with
  | none =>
    rw [z] at P
    exact P.elim
  | some q =>
    obtain ⟨n, ys⟩ := q
    rw [z] at P
    match as, ras, P with
    | [b], ras, P =>
      obtain ⟨y, rfl, rb⟩ := one_inv ras
      obtain ⟨p, vs, rfl, hi, hu, rv⟩ := lstAt_in z rl ra
      dsimp only at P
      cases z2 : lstAt hp b with
      | none =>
        rw [z2] at P
        exact P.elim
      | some q =>
        obtain ⟨m, zs⟩ := q
        rw [z2] at P
        obtain ⟨p2, ws, rfl, hi2, hu2, rv2⟩ := lstAt_in z2 rl rb
        dsimp only at P
        split at P
        · rename_i hz
          refine ⟨p, p2, vs, ws, rfl, rfl, hu, hu2, by rw [← rv.len, ← rv2.len]; exact szL hz, ?_⟩
          exact set_lst P rl hi hu (rv.app rv2) .non
        · exact P.elim
    | [], _, P => exact P.elim
    | _ :: _ :: _, _, P => exact P.elim
theorem mePop : MtR X "list.pop" (tm W mPop) := mt_imp (MtR.or mt_pop mt_popAt) fun x xs H Q ⟨io, hp, a, as, rl, ra, ras, P⟩ => by
  unfold mPop at P
  cases z : lstAt hp a with
  | none =>
    rw [z] at P
    exact P.elim
  | some q =>
    obtain ⟨n, ys⟩ := q
    rw [z] at P
    obtain ⟨p, vs, rfl, hi, hu, rv⟩ := lstAt_in z rl ra
    match as, ras, P with
    | [], .nil, P =>
      left
      dsimp only at P
      cases z2 : ys[ys.length - 1]? with
      | none =>
        rw [z2] at P
        exact P.elim
      | some b =>
        rw [z2] at P
        obtain ⟨y, ey, ry⟩ := rv.get z2
        rw [rv.len] at ey
        exact ⟨p, vs, y, rfl, rfl, hu, ey, set_lst P rl hi hu rv.dropLast ry⟩
    | [c], ras, P =>
      right
      obtain ⟨y, rfl, rb⟩ := one_inv ras
      cases c with
      | int i =>
        obtain rfl := rb.int_inv
        dsimp only at P
        split at P
        · rename_i hz
          cases z2 : seqIndex? i ys.length with
          | none =>
            rw [z2] at P
            exact P.elim
          | some k =>
            rw [z2] at P
            dsimp only at P
            cases z3 : ys[k]? with
            | none =>
              rw [z3] at P
              exact P.elim
            | some b =>
              rw [z3] at P
              obtain ⟨y, ey, ry⟩ := rv.get z3
              rw [rv.len] at z2
              exact ⟨p, vs, i, k, y, rfl, rfl, hu, hz.1, hz.2, z2, ey, set_lst P rl hi hu (rv.erase k) ry⟩
        · exact P.elim
      | _ => exact P.elim
    | _ :: _ :: _, _, P => exact P.elim
theorem meReverse : MtR X "list.reverse" (tm W mReverse) := mt_imp mt_reverse fun x xs H Q ⟨io, hp, a, as, rl, ra, ras, P⟩ => by
  unfold mReverse at P
  cases z : lstAt hp a with
  | none =>
    rw [z] at P
    exact P.elim
  | some q =>
    obtain ⟨n, ys⟩ := q
    rw [z] at P
    obtain ⟨p, vs, rfl, hi, hu, rv⟩ := lstAt_in z rl ra
    match as, ras, P with
    | [], .nil, P => exact ⟨p, vs, rfl, rfl, hu, set_lst P rl hi hu rv.rev .non⟩
    | _ :: _, _, P => exact P.elim
theorem meClear : MtR X "list.clear" (tm W mClear) := mt_imp mt_clear fun x xs H Q ⟨io, hp, a, as, rl, ra, ras, P⟩ => by
  unfold mClear at P
  cases z : lstAt hp a with
  | none =>
    rw [z] at P
    exact P.elim
  | some q =>
    obtain ⟨n, ys⟩ := q
    rw [z] at P
    obtain ⟨p, vs, rfl, hi, hu, rv⟩ := lstAt_in z rl ra
    match as, ras, P with
    | [], .nil, P => exact ⟨p, vs, rfl, rfl, hu, set_lst P rl hi hu .nil .non⟩
    | _ :: _, _, P => exact P.elim
theorem meInsert : MtR X "list.insert" (tm W mInsert) := mt_imp mt_insert fun x xs H Q ⟨io, hp, a, as, rl, ra, ras, P⟩ => by
  unfold mInsert at P
  cases z : lstAt hp a with
  | none =>
    rw [z] at P
    exact P.elim
  | some q =>
    obtain ⟨n, ys⟩ := q
    rw [z] at P
    obtain ⟨p, vs, rfl, hi, hu, rv⟩ := lstAt_in z rl ra
    match as, ras, P with
    | [c, b], ras, P =>
      obtain ⟨y, w, rfl, r1, r2⟩ := two_inv ras
      cases c with
      | int i =>
        obtain rfl := r1.int_inv
        dsimp only at P
        split at P
        · rename_i hz
          exact ⟨p, vs, i, w, rfl, rfl, hu, by rw [← rv.len]; exact szT hz.1, hz.2.1, hz.2.2, set_lst P rl hi hu (((rv.take _).app (.cons r2 .nil)).app (rv.drop _)) .non⟩
        · exact P.elim
      | _ => exact P.elim
    | [], _, P => exact P.elim
    | [_], _, P => exact P.elim
    | _ :: _ :: _ :: _, _, P => exact P.elim
end
end Dn
namespace PySem
open Sem (wp)
set_option maxHeartbeats 4000000 in
theorem dn_meets_enumerate_newB {v : Value} {o : Obj} {H : Heap → Prop} (B : Begins v o H) :
    Meets (Builtin.«enumerate.__new__» ⟨[.type "enumerate", v], []⟩) (fun _ R s => H s.heap ∧
      R (.ok (.ret (.ref (s.heap.push o).objs.size))) { s with heap := (s.heap.push o).push { cls := .type "enumerate", data := .fields #[.none, .bool false, .ref s.heap.objs.size, rawInt 0, .none, .none] } }) :=
  .of_wp fun prog w A R s h => by
    obtain ⟨hp, g, d, tk, os⟩ := s; obtain ⟨h1, h⟩ := h
    have hsub := sub_enumerate
    have q1 : ∀ {A' : Around} {E : Value → Shared → Prop} {Q : Value → Shared → Prop}, Q (.ref hp.objs.size) ⟨hp.push o, g, d, tk, os⟩ → wpAny (model prog w) A' (pyIter v) Q E ⟨hp, g, d, tk, os⟩ :=
      fun q => B.iter prog w _ _ ⟨hp, g, d, tk, os⟩ _ h1 q
    wp_walk using q1
    refine wpAny_stack_any fun st => wpAny_pure ?_
    split
    · rename_i c _ _ _ _ _
      cases (c == Value.type "enumerate")
      · wp_walk using q1
        exact ⟨_, rfl, h⟩
      · wp_walk using q1
        exact ⟨_, rfl, h⟩
    · wp_walk using q1
      exact ⟨_, rfl, h⟩
section
variable {prog : Program} {w : World} {A : Around} {E : Value → Shared → Prop} {s : Shared}
theorem dn_enum_begins {v : Value} {o : Obj} {H : Heap → Prop} {Q : Value → Shared → Prop} (B : Begins v o H) (h1 : H s.heap)
    (h : ∀ h', IsEnum h' (s.heap.objs.size + 1) s.heap.objs.size 0 .none → h'.get? s.heap.objs.size = some o → h'.objs.size = s.heap.objs.size + 2 →
      (∀ b o, s.heap.get? b = some o → h'.get? b = some o) → Q (.ref (s.heap.objs.size + 1)) { s with heap := h' }) :
    wpAny (model prog w) A (call (.type "enumerate") [v]) Q E s := by
  refine callType_new F.called_enumerate (by decide) (F.typeCall_enumerate_1 _) (F.newCall_enumerate_1 _) (fun obj => F.args_object_init_2 obj _) F.entry_enumerate_new
    (dn_meets_enumerate_newB B) ⟨h1, ?_⟩
  have hz : (s.heap.push o).objs.size = s.heap.objs.size + 1 := Heap.size_push ..
  show _ ∧ _
  rw [hz]
  have he : IsEnum ((s.heap.push o).push { cls := .type "enumerate", data := .fields #[.none, .bool false, .ref s.heap.objs.size, rawInt 0, .none, .none] }) (s.heap.objs.size + 1) s.heap.objs.size 0 .none := by
    have := Heap.get?_push_size (s.heap.push o) (o := { cls := .type "enumerate", data := .fields #[.none, .bool false, .ref s.heap.objs.size, rawInt 0, .none, .none] }) rfl
    rw [hz] at this; exact this
  refine ⟨⟨_, he, rfl⟩, h _ he (Heap.get?_push_of_some _ (Heap.get?_push_size _ B.free)) (by rw [Heap.size_push, hz]) fun b o x => Heap.get?_push_of_some _ (Heap.get?_push_of_some _ x)⟩
end
end PySem
namespace Dn
open PySem PySem.Spec PyProof.Rows L2

def IteT (K : PySem.W.Frag) (a : Addr) : It :=
  ⟨fun i H => ∃ (xs : List V) (x : V), SqT K H a xs ∧ xs[i]? = some x, fun i H v H' => ∃ T x, v = .ref T ∧ H T = none ∧ H' = upd H T (.tup [.int (i : Nat), x]) ∧ ∀ xs, SqT K H a xs → xs[i]? = some x, fun i H => ∃ xs : List V, SqT K H a xs ∧ xs.length ≤ i⟩
theorem turn_enumT {P : Program} {w : World} {K : PySem.W.Frag} {elts : List Expr} {kk : Nat} {tpos : Pos} (a e it : Addr) :
    Turn P w K (.Tuple elts kk tpos) (IteT K a) [e, it] e (fun i h => (∃ old, IsEnum h e it ((i : Nat) : Int) old) ∧ h.IsTupleIter it a i ∧ e ≠ it ∧ a ≠ it) where
  mem := by simp
  obj := fun i h st b hb => by
    obtain ⟨⟨old, he⟩, ⟨o, ho, hc, hd⟩, _⟩ := st
    have e' : b = e ∨ b = it := by simpa using hb
    rcases e' with z | z
    · rw [z]; exact ⟨_, he, fun v q => nomatch q⟩
    · rw [z]; exact ⟨o, ho, fun v q => by rw [hd] at q; cases q⟩
  keep := fun i h h' st k => let ⟨⟨old, he⟩, hi, hne⟩ := st; ⟨⟨old, k e (by simp) _ he⟩, hi.at fun o q => k it (by simp) o q, hne⟩
  item := by
    intro X hP hw hK hc i pins s σ H E I hf st hg
    subst hP hw hK
    obtain ⟨⟨old, he⟩, hit, hne, hai⟩ := st
    obtain ⟨xs, x, hq, hx⟩ := hg
    obtain ⟨its, rv, p, hz⟩ := I.tuple hq
    obtain ⟨u, hu, ru⟩ := rv.get hx
    have hel : e < s.heap.objs.size := Heap.lt_size he
    have hil : it < s.heap.objs.size := by obtain ⟨_, q, _⟩ := hit; exact Heap.lt_size q
    have D : Draws X.prog X.w X.A.in1 it [it, a] its.toArray.size (fun i v => its.toArray[i]? = some v) (fun i h => h.IsTupleIter it a i ∧ h.IsTuple a its.toArray) := Draws.tuple (show X.A.in1.handled = none from I.ok.hd hc) it a hai its.toArray
    have hlt : i < its.toArray.size := by
      obtain ⟨hl, _⟩ := List.getElem?_eq_some_iff.mp hu
      rw [List.size_toArray]
      exact hl
    have hef : e ∉ [it, a] := fun hm => by
      rcases List.mem_cons.mp hm with z | hm
      · exact hne z
      · have z : e = a := by simpa using hm
        subst z
        obtain ⟨o, h1, h2, _⟩ := p
        rw [he] at h1
        cases h1
        exact absurd (show Value.type "enumerate" = Value.type "tuple" from h2) (by decide)
    refine wpAny_pyNext_enum_itemC D he ⟨hit, p⟩ hlt hne hef fun y h' tk hP ho hit' hT hsz hk => ?_
    have ey : y = u := by
      have : its.toArray[i]? = some u := by simpa using hu
      rw [this] at hP
      exact (Option.some.inj hP).symm
    subst ey
    refine ⟨_, rfl, wpAny_letOwnedTupleGo_enum (s := { s with heap := h', toks := tk + 1 }) ho fun h'' he' sb => ?_⟩
    have hT2 : h''.get? s.heap.objs.size = some { cls := .type "tuple", data := .seq #[.int i tk, y] } := (sb.2 _ (Nat.ne_of_gt hel)).trans hT
    have new : ObjOk X.prog X.w (upd H s.heap.objs.size (.tup [.int (i : Nat), x])) h'' s.heap.objs.size (.tup [.int (i : Nat), x]) :=
      ⟨by show 2 ≤ sizeLine; decide, [.int i tk, y], .cons ⟨_, rfl⟩ (.cons ru .nil), ⟨_, hT2, rfl, _, rfl⟩⟩
    have I1 : Inv X pins σ (upd H s.heap.objs.size (.tup [.int (i : Nat), x])) { s with heap := h'', toks := tk + 1 } :=
      I.turnedNew (ch := [e, it]) (fun b ob hb q => (sb.2 b (fun z => hb (by simp [z]))).trans (hk b ob (fun z => hb (by simp [z])) (fun z => hb (by simp [z])) q)) hf (Nat.le_refl _) new
    refine ⟨.ref s.heap.objs.size, _, I1, rfl, ⟨_, x, rfl, I.hok.fresh (Nat.le_refl _), rfl, fun ys hy => by rw [I.tuple_inj hy hq]; exact hx⟩, ⟨⟨y, ?_⟩, hit'.1.at fun o q => (sb.2 it (Ne.symm hne)).trans q, hne, hai⟩, fun b hb => ?_⟩
    · have e1 : ((i + 1 : Nat) : Int) = (i : Int) + 1 := by omega
      rw [e1]; exact he'
    · have hb' : b < s.heap.objs.size := by
        have e' : b = e ∨ b = it := by simpa using hb
        rcases e' with z | z
        · rw [z]; exact hel
        · rw [z]; exact hil
      rw [upd_ne (Nat.ne_of_lt hb')]
      exact (hf b hb).1
  done := by
    intro X hP hw hK hc i pins s σ H E I hf st hg
    subst hP hw hK
    obtain ⟨⟨old, he⟩, hit, hne, hai⟩ := st
    obtain ⟨xs, hq, hx⟩ := hg
    obtain ⟨its, rv, p, hz⟩ := I.tuple hq
    obtain ⟨f0, f1, f2, f3, f4, f5⟩ := hf it (by simp)
    have hl := rv.length
    have D : Draws X.prog X.w X.A.in1 it [it, a] i (fun i v => its.toArray[i]? = some v) (fun j h => j = i ∧ h.IsTupleIter it a j ∧ h.IsTuple a its.toArray) :=
      { live := fun _ _ st => let ⟨o, ho, _⟩ := st.2.1; ⟨o, ho⟩
        frame := fun _ _ _ st hk => ⟨st.1, st.2.1.at fun o e => hk it (by simp) o e, st.2.2.at fun o e => hk a (by simp) o e⟩
        item := fun j s Q E hi st hQ => absurd st.1 (Nat.ne_of_lt hi)
        done := fun s Q E st hE => wpAny_nextOf_tuple_end (show X.A.in1.handled = none from I.ok.hd hc) st.2.1 st.2.2 (by simp; omega) hE }
    exact wpAny_pyNext_enum_endD D he ⟨rfl, hit, p⟩ fun h' eb => ⟨rfl, I.turned (t' := s.toks) (fun b o hb q => eb b o hb q) f0 f1 f3 f4 f5⟩
  self := fun A i s Q E st h => let ⟨⟨_, he⟩, _⟩ := st; wpAny_pyIter_enum he h
theorem src_enA {W : Wd} {io : List Addr} {H : Hp} {n : Nat} {p : Addr} (hi : io[n]? = some p) : RSrc W io H (.enA n) (Ite W.K p) := fun io' H' hp e rl => by
  have hp' := e.at hi
  refine ⟨fun i z => ?_, fun i x z => ?_⟩
  all_goals
    unfold Src.next at z
    dsimp only at z
    cases z1 : hp[n]? with
    | none =>
      rw [z1] at z
      cases z
    | some o =>
      rw [z1] at z
      cases o with
      | lst xs =>
        have z' := Option.some.inj z
        obtain ⟨vs, ev, rv⟩ := rl.lst hp' z1
        first
          | exact ⟨vs, SqL.of ev, by
              rw [← rv.len]
              cases z3 : xs[i]? with
              | none => exact List.getElem?_eq_none_iff.mp z3
              | some y =>
                rw [z3] at z'
                cases z'⟩
          | (cases z3 : xs[i]? with
             | none =>
               rw [z3] at z'
               cases z'
             | some y =>
               rw [z3] at z'
               have z4 : x = .tup [.int i, y] := (Option.some.inj z').symm
               subst z4
               obtain ⟨v, e1, r1⟩ := rv.get z3
               refine ⟨⟨vs, v, SqL.of ev, e1⟩, fun w H2 ⟨T, x, ew, hT, eH, hw⟩ => ?_⟩
               subst ew eH
               have := hw vs (SqL.of ev)
               rw [e1] at this
               cases this
               have e3 : Ext W io' H' io' (upd H' T (.tup [.int (i : Nat), v])) := Ext.new0 hT
               exact ⟨e3, rl.other hT, .tup (.inl (.inl upd_same)) (.cons (.int _) (.cons (r1.mono e3) .nil))⟩)
      | _ => cases z
theorem src_enF {W : Wd} {io : List Addr} {H : Hp} {p : Addr} {xs : List AV} {vs : List V} (h1 : SqT W.K H p vs) (r : RVs W io H xs vs) : RSrc W io H (.enF xs) (IteT W.K p) := fun io' H' hp e rl => by
  have h2 := e.tup _ _ h1
  have r2 := r.mono e
  refine ⟨fun i z => ?_, fun i x z => ?_⟩
  · have z' : (xs[i]?.map fun x => AV.tup [.int i, x]) = none := Option.some.inj z
    cases z3 : xs[i]? with
    | none => exact ⟨vs, h2, by rw [← r2.len]; exact List.getElem?_eq_none_iff.mp z3⟩
    | some y =>
      rw [z3] at z'
      cases z'
  · have z' : (xs[i]?.map fun x => AV.tup [.int i, x]) = some x := Option.some.inj z
    cases z3 : xs[i]? with
    | none =>
      rw [z3] at z'
      cases z'
    | some y =>
      rw [z3] at z'
      have z4 : x = .tup [.int i, y] := (Option.some.inj z').symm
      subst z4
      obtain ⟨v, e1, r1⟩ := r2.get z3
      refine ⟨⟨vs, v, h2, e1⟩, fun w H2 ⟨T, x, ew, hT, eH, hw⟩ => ?_⟩
      subst ew eH
      have := hw vs h2
      rw [e1] at this
      cases this
      have e3 : Ext W io' H' io' (upd H' T (.tup [.int (i : Nat), v])) := Ext.new0 hT
      exact ⟨e3, rl.other hT, .tup (.inl (.inl upd_same)) (.cons (.int _) (.cons (r1.mono e3) .nil))⟩
def dEnm (f : DE) : DI := fun s h => (f s h).bind fun a h1 => match a with
  | .tup xs => .ok (.enF xs) h1
  | .ref n => match h1[n]? with
    | some (.lst _) => .ok (.enA n) h1
    | _ => .stuck
  | _ => .stuck
section
variable {W : Wd} {M : Md W} {E : WX} {X : Cx} {e : Expr} {f : DE} {p pos tpos : Pos} {elts : List Expr} {kk : Nat}
theorem enmD (hK : X.K = W.K) (he : PE X e (tD W M E f)) (hm : X.mg "enumerate" = none) (hg : Gl X "enumerate" := by rfl) (hs : starEach [e] X.env = [(false, eval e X.env)] := by rfl) :
    PI X (.Tuple elts kk tpos) (.Call (.Name "enumerate" p) [e] [] pos) (tG W M (RSrc W) E (dEnm f)) := by
  refine ⟨fun pins s σ H R I ⟨io, hp, as, rl, S, P⟩ => ?_⟩
  have h0 : tCons (tD W M E f) tNil σ H (fun vs H1 => ∃ x io2 hp2 a, vs = [x] ∧ Ext W io H io2 H1 ∧ Rl W io2 hp2 H1 ∧ RV W io2 H1 a x ∧ Pst W (RSrc W) E σ R io2 H1 (match a with
      | .tup xs => .ok (.enF xs) hp2
      | .ref n => match hp2[n]? with
        | some (.lst _) => .ok (.enA n) hp2
        | _ => .stuck
      | _ => .stuck)) := (step (rh := RV W) (f := f) rl S P).imp fun x H1 ⟨io2, hp2, a, e2, rl2, ra, P2⟩ => ⟨x, io2, hp2, a, rfl, e2, rl2, ra, P2⟩
  refine Call_ (ld_blt I hg hm boot_enumerate (PyProof.Rows.callWith_type1 (thn ((pa_cons he pa_nil hs).run pos pins s σ H _ I h0) fun us s1 ⟨vs, H1, I1, r1, q1⟩ => ?_) hs rfl))
  obtain ⟨x, io2, hp2, a, rfl, e2, rl2, ra, P2⟩ := q1
  obtain ⟨u, rfl, ru⟩ := vals1 r1
  have fp : ∀ b ∈ [s1.heap.objs.size + 1, s1.heap.objs.size], FpOk X pins H1 b := fun b hb => by
    have e' : b = s1.heap.objs.size + 1 ∨ b = s1.heap.objs.size := by simpa using hb
    have hle : s1.heap.objs.size ≤ b := by
      rcases e' with z | z
      · rw [z]; exact Nat.le_add_right _ _
      · rw [z]; exact Nat.le_refl _
    exact I1.fpOk hle (I1.hok.fresh hle)
  cases ra with
  | @ref n p hi =>
    dsimp only at P2
    cases z : hp2[n]? with
    | none =>
      rw [z] at P2
      exact P2.elim
    | some o =>
      rw [z] at P2
      cases o with
      | lst xs =>
        obtain ⟨vs, ev, rv⟩ := rl2.lst hi z
        obtain rfl : u = Value.ref p := ru
        obtain ⟨its, _, p', hz⟩ := I1.list (SqL.of ev)
        refine call_enumerate_list p'.isList fun h' he hit hsz hk => wpAny_pyIter_enum he ?_
        have I2 : Inv X pins σ H1 { s1 with heap := h' } := I1.kept (t' := s1.toks) hk
        refine ⟨s1.heap.objs.size + 1, [s1.heap.objs.size + 1, s1.heap.objs.size], _, Ite X.K p, H1, rfl, I2, turn_enum p (s1.heap.objs.size + 1) s1.heap.objs.size, ⟨⟨.none, he⟩, hit, Nat.succ_ne_self _⟩, fp, ?_⟩
        rw [hK]
        exact Pst.ok P2 rl2 (src_enA hi)
      | _ => exact P2.elim
  | @tup p vs xs h r =>
    obtain rfl : u = Value.ref p := ru
    rw [← hK] at h
    obtain ⟨its, _, p', hz⟩ := I1.tuple h
    have hlt : p < s1.heap.objs.size := by obtain ⟨o, ho, _⟩ := p'; exact Heap.lt_size ho
    refine dn_enum_begins (begins_tuple p its.toArray) p' fun h' he hit hsz hk => wpAny_pyIter_enum he ?_
    have I2 : Inv X pins σ H1 { s1 with heap := h' } := I1.kept (t' := s1.toks) hk
    refine ⟨s1.heap.objs.size + 1, [s1.heap.objs.size + 1, s1.heap.objs.size], _, IteT X.K p, H1, rfl, I2, turn_enumT p (s1.heap.objs.size + 1) s1.heap.objs.size, ⟨⟨.none, he⟩, ⟨_, hit, rfl, rfl⟩, Nat.succ_ne_self _, Nat.ne_of_lt hlt⟩, fp, ?_⟩
    rw [hK] at h ⊢
    exact Pst.ok P2 rl2 (src_enF h r)
  | _ => exact P2.elim
end
end Dn
namespace Dn
open PySem PySem.Spec PyProof.Rows L2
theorem src_zip {W : Wd} {io : List Addr} {H : Hp} {m n : Nat} {p q : Addr} (hi : io[m]? = some p) (hj : io[n]? = some q) : RSrc W io H (.zip m n) (Itz W.K p q) := fun io' H' hp e rl => by
  have hp' := e.at hi
  have hq' := e.at hj
  refine ⟨fun i z => ?_, fun i x z => ?_⟩
  all_goals
    unfold Src.next at z
    dsimp only at z
    cases z1 : hp[m]? with
    | none =>
      rw [z1] at z
      cases z
    | some o =>
      cases z2 : hp[n]? with
      | none =>
        rw [z1, z2] at z
        cases o <;> cases z
      | some o2 =>
        rw [z1, z2] at z
        cases o with
        | lst xs =>
          cases o2 with
          | lst ys =>
            have z' := Option.some.inj z
            obtain ⟨vs, ev, rv⟩ := rl.lst hp' z1
            obtain ⟨ws, ew, rw_⟩ := rl.lst hq' z2
            first
              | exact ⟨vs, ws, SqL.of ev, SqL.of ew, by
                  rw [← rv.len, ← rw_.len]
                  cases z3 : xs[i]? with
                  | none => exact .inl (List.getElem?_eq_none_iff.mp z3)
                  | some y =>
                    cases z4 : ys[i]? with
                    | none => exact .inr (List.getElem?_eq_none_iff.mp z4)
                    | some y2 =>
                      rw [z3, z4] at z'
                      cases z'⟩
              | (cases z3 : xs[i]? with
                 | none =>
                   rw [z3] at z'
                   cases z'
                 | some y =>
                   cases z5 : ys[i]? with
                   | none =>
                     rw [z3, z5] at z'
                     cases z'
                   | some y2 =>
                     rw [z3, z5] at z'
                     have z4 : x = .tup [y, y2] := (Option.some.inj z').symm
                     subst z4
                     obtain ⟨v, e1, r1⟩ := rv.get z3
                     obtain ⟨v2, e2, r2⟩ := rw_.get z5
                     refine ⟨⟨vs, ws, v, v2, SqL.of ev, SqL.of ew, e1, e2⟩, fun w H2 ⟨T, x, x2, eT, hT, eH, hw, hw2⟩ => ?_⟩
                     subst eT eH
                     have := hw vs (SqL.of ev)
                     rw [e1] at this
                     cases this
                     have := hw2 ws (SqL.of ew)
                     rw [e2] at this
                     cases this
                     have e3 : Ext W io' H' io' (upd H' T (.tup [v, v2])) := Ext.new0 hT
                     exact ⟨e3, rl.other hT, .tup (.inl (.inl upd_same)) (.cons (r1.mono e3) (.cons (r2.mono e3) .nil))⟩)
          | _ => cases z
        | _ => cases z
def zipK (as : List AV) (h : Hep) : R Src := match as with
  | [.ref m, .ref n] => (match h[m]?, h[n]? with
    | some (.lst _), some (.lst _) => .ok (.zip m n) h
    | _, _ => .stuck)
  | _ => .stuck
def dZip (f : DA) : DI := fun s h => (f s h).bind fun as h1 => zipK as h1
section
variable {W : Wd} {M : Md W} {E : WX} {X : Cx} {e e2 : Expr} {fa : DA} {p pos tpos : Pos} {elts : List Expr} {kk : Nat}
theorem zipD (hK : X.K = W.K) (ha : PA X [e, e2] (tDA W M E fa)) (hm : X.mg "zip" = none) (hg : Gl X "zip" := by rfl)
    (hs : starEach [e, e2] X.env = (false, eval e X.env) :: starEach [e2] X.env := by rfl) (hpl : (backTo pos (starEach [e2] X.env)).any (·.1) = false := by rfl) :
    PI X (.Tuple elts kk tpos) (.Call (.Name "zip" p) [e, e2] [] pos) (tG W M (RSrc W) E (dZip fa)) :=
  piI (RZ.pi_zipA hg hm ha hs hpl) fun σ H Q ⟨io, hp, as, rl, S, P⟩ => (step (rh := RVs W) (f := fa) rl S P).imp fun xs H1 ⟨io2, hp2, bs, e2, rl2, ra, P2⟩ => by
    match bs, ra, P2 with
    | [.ref m, .ref n], .cons (.ref hi) (.cons (.ref hj) .nil), P2 =>
      have P3 : Pst W (RSrc W) E σ Q io2 H1 (match hp2[m]?, hp2[n]? with
        | some (.lst _), some (.lst _) => .ok (.zip m n) hp2
        | _, _ => .stuck) := P2
      cases z1 : hp2[m]? with
      | none =>
        rw [z1] at P3
        exact P3.elim
      | some o =>
        cases z2 : hp2[n]? with
        | none =>
          rw [z1, z2] at P3
          cases o <;> exact P3.elim
        | some o2 =>
          rw [z1, z2] at P3
          cases o with
          | lst xs =>
            cases o2 with
            | lst ys =>
              obtain ⟨vs, ev, rv⟩ := rl2.lst hi z1
              obtain ⟨ws, ew, rw_⟩ := rl2.lst hj z2
              refine ⟨_, _, vs, ws, rfl, .inl ⟨?_, ?_, ?_⟩⟩
              · exact SqL.of ev
              · exact SqL.of ew
              · rw [hK]
                exact Pst.ok P3 rl2 (src_zip hi hj)
            | _ => exact P3.elim
          | _ => exact P3.elim
end
end Dn
namespace Dn
open PySem PySem.Spec PyProof.Rows L2

theorem star_unpack {prog : Program} {w : World} {A : Around} {E : Value → Shared → Prop} {s : Shared} {l : Addr} {items : Array Value} {i : Nat} {Q : List Value → Shared → Prop} (hl : IsTup s.heap l items) (hh : A.handled = none) (hn : i ≤ items.size) (hz : items.size ≤ 16384)
    (h : ∀ h' tk, Heap.ExtBut s.heap.objs.size s.heap h' → Q (items.toList.take i ++ [.ref h'.objs.size]) { s with heap := h'.push { cls := .type "list", data := .seq (items.toList.drop i).toArray }, toks := tk }) :
    wpAny (model prog w) A (unpackItems (.ref l) (i + 1) (some i)) Q E s := by
  have hlt : l ≠ s.heap.objs.size := by obtain ⟨o, ho, _⟩ := hl; exact Nat.ne_of_lt (Heap.lt_size ho)
  have hll : l < s.heap.objs.size := by obtain ⟨o, ho, _⟩ := hl; exact Heap.lt_size ho
  unfold unpackItems
  refine wpAny_bind ?_
  unfold notIterableAtAll
  refine wpAny_bind (wpAny_specialOf hl.typeIs slot_tuple_iter.lookup ?_)
  refine wpAny_pure ?_
  simp only [Bool.false_eq_true, if_false]
  refine wpAny_bind (wpAny_holding (iter_tuple hl ?_))
  refine wpAny_bind (wpAny_holding (draw_tuple hlt i 0 _ _ ⟨_, Heap.get?_push_size _ rfl, rfl, rfl⟩ (hl.push _) (by omega) fun h₁ hit₁ hs₁ => ?_))
  have hl₁ : IsTup h₁ l items := (hl.push _).extBut hs₁.extBut hlt
  rw [Nat.zero_add] at hit₁
  have hit₁' := hit₁
  obtain ⟨oi, hoi, _⟩ := hit₁'
  have hl₁' := hl₁
  obtain ⟨ol, hol, _⟩ := hl₁'
  rw [List.drop_zero]
  have hfl : (items.toList.take i).length = i := by rw [List.length_take, Array.length_toList]; omega
  rw [if_neg (show ¬ ((items.toList.take i).length < i) by rw [hfl]; omega)]
  refine wpAny_bind (wpAny_holding (PySem.W.kun_collect (s := { s with heap := h₁ }) (T := "tuple_iterator") (.inr (.inr (.inr rfl))) (Walks.tuple (A := A.in1) hh s.heap.objs.size l hlt items) (fun j u st => st.1.typeIs) (k := i) (by omega) ⟨hit₁, hl₁⟩ (Heap.lt_size hoi) (Heap.lt_size hol) (fun h₂ tk hk => ?_) (by rw [sizeLine_eq]; omega)))
  have hrl : (items.toList.drop i).length = items.size - i := by rw [List.length_drop, Array.length_toList]
  have hmid : (items.toList.drop i).length - (i + 1 - 1 - i) = (items.toList.drop i).length := by omega
  show wpAny _ _ (if (items.toList.drop i).length < i + 1 - 1 - i then _ else _) _ _ _
  rw [if_neg (by rw [hrl]; omega)]
  show wpAny _ _ (newList ((items.toList.drop i).take ((items.toList.drop i).length - (i + 1 - 1 - i))) >>= fun d => pure (items.toList.take i ++ [d] ++ (items.toList.drop i).drop ((items.toList.drop i).length - (i + 1 - 1 - i)))) _ _ _
  rw [hmid, List.take_length, List.drop_length]
  have he : Heap.ExtBut s.heap.objs.size s.heap h₂ := fun b o hb e => hk b o hb (hs₁.extBut b o hb (Heap.get?_push_of_some _ e))
  refine wpAny_bind (wpAny_newObj_type (wpAny_pure ?_) (by show (items.toList.drop i).toArray.size ≤ sizeLine; rw [List.size_toArray, hrl, sizeLine_eq]; omega))
  rw [List.append_nil]
  exact h h₂ tk he
theorem pgs_star {X : Cx} {e : Expr} {es : List Expr} {t : TG} {u : TGs} {p : Pos} (h1 : PG X e t) (h2 : PGs X es u)
    (hs : (assignEach (.Starred e p :: es) X.env).map (·.2) = assign e X.env :: (assignEach es X.env).map (·.2) := by rfl) : PGs X (.Starred e p :: es) (gCons t u) := by
  refine ⟨fun pins s σ H vs us Q I r h => ?_⟩
  obtain ⟨v, vr, e1, h⟩ := h
  subst e1
  cases r with
  | cons r rr =>
    rw [hs]
    refine assignInOrder_cons (thn (h1.run pins s σ H _ _ _ I r h) fun _ s1 ⟨σ1, H1, I1, q1⟩ => ?_)
    exact h2.run pins s1 σ1 H1 _ _ Q I1 rr q1
def dStarS (i : Nat) (f : DE) (g : DGs) : DS := fun s h => (f s h).st s fun v h1 => match tupOf v with
  | some xs => if i ≤ xs.length ∧ xs.length ≤ 10000 then (match g (xs.take i ++ [.ref h1.length]) s with
      | some s' => .nx s' (h1 ++ [.lst (xs.drop i)])
      | none => .stuck) else .stuck
  | none => .stuck
section
variable {W : Wd} {M : Md W} {E : WX} {X : Cx} {f : DE} {e : Expr} {es : List Expr} {gs : DGs} {g : DG} {pos tpos p : Pos} {kk i : Nat} {C : CS}
theorem gsS (hC : CSok C) (h1 : PG X e (tgG W M C g)) (h2 : PGs X es (tgGs W M C gs)) (hs : (assignEach (.Starred e p :: es) X.env).map (·.2) = assign e X.env :: (assignEach es X.env).map (·.2) := by rfl) : PGs X (.Starred e p :: es) (tgGs W M C (dgC g gs)) :=
  pgsI (pgs_star h1 h2 hs) fun v σ H Q ⟨io, hp, as, xs, rl, S, r, k⟩ => by
    cases xs with
    | nil => exact k.elim
    | cons x t =>
      cases r with
      | cons r1 r2 =>
        refine ⟨_, _, rfl, io, hp, as, x, rl, S, r1, ?_⟩
        have k' : match (g x as).bind (fun s1 => gs t s1) with
          | some as' => ∀ σ', M.rel io H as' σ' → C σ σ' → Q σ' H
          | none => False := k
        cases z : g x as with
        | none =>
          rw [z] at k'
          exact k'
        | some as' =>
          rw [z] at k'
          have k2 : match gs t as' with
            | some as' => ∀ σ', M.rel io H as' σ' → C σ σ' → Q σ' H
            | none => False := k'
          intro σ' S' c1
          refine ⟨io, hp, as', t, rl, S', r2, ?_⟩
          cases z2 : gs t as' with
          | none =>
            rw [z2] at k2
            exact k2
          | some as3 =>
            rw [z2] at k2
            exact fun σ3 S3 c3 => k2 σ3 S3 (hC.tr _ _ _ c1 c3)
theorem sStar (hK : X.K = W.K) (hc : X.calm = true) (he : PE X e (tD W M E f)) (hg : PGs X es (tgGs W M anyC gs)) (hlen : (assignEach es X.env).length = i + 1 := by rfl) (hstar : (assignEach es X.env).findIdx? (·.1) = some i := by rfl)
    (hs : swapsWithSole [.Tuple es kk tpos] e pos.line X.env = pure false := by rfl) (hw : swappedStores [.Tuple es kk tpos] e X.env = pure none := by rfl)
    (h1 : (assignEach [.Tuple es kk tpos] X.env).map (·.2) = [assign (.Tuple es kk tpos) X.env] := by rfl) : PS X (.Assign [.Tuple es kk tpos] e pos) (tS W M E (dStarS i f gs)) := by
  refine ⟨fun pins s σ H D I ⟨io, hp, as, rl, S, P⟩ => ?_⟩
  refine wpAny_Assign_stores (thn (he.run pins s σ H _ I (stepS (rh := RV W) (f := f) rl S P)) fun v s1 ⟨x, H1, I1, rx, io2, hp2, a, e2, rl2, ra, P2⟩ => ?_) hs hw
  rw [h1]
  cases z : tupOf a with
  | none =>
    rw [z] at P2
    exact P2.elim
  | some xs =>
    rw [z] at P2
    dsimp only at P2
    obtain ⟨q, vs, rfl, hq, rv⟩ := tupOf_in z ra
    obtain rfl : v = Value.ref q := rx
    by_cases hz : i ≤ xs.length ∧ xs.length ≤ 10000
    · rw [if_pos hz] at P2
      rw [← hK] at hq
      obtain ⟨its, r', pt, hz'⟩ := I1.tuple hq
      have hlx : its.length = xs.length := by rw [rv.len, r'.length]
      show wpAny _ _ (assignAll (.ref q) [assign (.Tuple es kk tpos) X.env]) _ _ _
      have go : wpAny (model X.prog X.w) X.A (assign (.Tuple es kk tpos) X.env (.ref q)) (fun _ s' => ∃ σ' H', Inv X pins σ' H' s' ∧ D.nx σ' H') X.xe s1 := by
        rw [assign_Tuple]
        refine wpAny_bind (wpAny_standAt ?_)
        unfold unpack
        rw [hlen, hstar]
        refine wpAny_bind (wpAny_holding (star_unpack (items := its.toArray) pt (I1.ok.hd hc) (by simp; omega) (by simp; omega) fun h' tk he' => ?_))
        have I2 : Inv X pins σ H1 { s1 with heap := h', toks := tk } := I1.kept fun b o e => he' b o (Nat.ne_of_lt (Heap.lt_size e)) e
        have hnone : H1 h'.objs.size = none := I2.hok.fresh (Nat.le_refl _)
        have rd : Vals (vs.drop i) (its.drop i) := r'.drop i
        have hzd : (vs.drop i).length ≤ sizeLine := by rw [List.length_drop, ← rv.len, sizeLine_eq]; omega
        have I3 : Inv X pins σ (upd H1 h'.objs.size (.lst (vs.drop i))) { s1 with heap := h'.push { cls := .type "list", data := .seq (its.drop i).toArray }, toks := tk } := Inv.lnew (t' := tk) I2 rd hzd
        have e3 : Ext W io2 H1 (io2 ++ [h'.objs.size]) (upd H1 h'.objs.size (.lst (vs.drop i))) := Ext.new io2 _ hnone [h'.objs.size]
        have rl3 : Rl W (io2 ++ [h'.objs.size]) (hp2 ++ [.lst (xs.drop i)]) (upd H1 h'.objs.size (.lst (vs.drop i))) := rl2.new hnone (.lst ((rv.drop i).mono e3))
        have rr : RVs W (io2 ++ [h'.objs.size]) (upd H1 h'.objs.size (.lst (vs.drop i))) (xs.take i ++ [.ref hp2.length]) (vs.take i ++ [.ref h'.objs.size]) := ((rv.take i).mono e3).app (.cons (.ref (by rw [← rl2.len]; simp)) .nil)
        have rw' : Vals (vs.take i ++ [V.ref h'.objs.size]) (its.take i ++ [Value.ref h'.objs.size]) := (r'.take i).append (.cons rfl .nil)
        refine hg.run pins _ σ _ _ _ _ I3 rw' ⟨io2 ++ [h'.objs.size], hp2 ++ [.lst (xs.drop i)], as, xs.take i ++ [.ref hp2.length], rl3, M.mono (e2.trans e3) S, rr, ?_⟩
        cases z2 : gs (xs.take i ++ [.ref hp2.length]) as with
        | none =>
          rw [z2] at P2
          exact P2.elim
        | some s' =>
          rw [z2] at P2
          exact fun σ' S' _ => P2 _ _ _ e3 rl3 S'
      exact thn go fun _ s2 q => q
    · rw [if_neg hz] at P2
      exact P2.elim
end
end Dn
namespace Dn
open PySem PySem.Spec PyProof.Rows L2

section
variable {W : Wd} {M : Md W} {E : WX} {X : Cx} {k : Nat}
theorem ru (hr : Room k X.A) : X.A.units + 64 < cLine := by have := hr.un; omega
theorem ru5 (hr : Room k X.A) : X.A.units + 65 < cLine := by have := hr.un; omega
theorem ru1 (hr : Room k X.A) : X.A.units + 1 < cLine := by have := hr.un; omega
theorem tkE0 : Takes X E0x := fun u s' ⟨_, _, _, _, _, _, _, _, _, _, _, _, _, _, _, _, w⟩ => w.elim
theorem iD {i : Int} {j pos} : PE X (.Constant (.int i) j pos) (tD W M E (dC (.int i))) := cD pe_int fun _ _ => .int i
theorem bD0 {i : Bool} {j pos} : PE X (.Constant (.bool i) j pos) (tD W M E (dC (.bl i))) := cD pe_bl fun _ _ => .bl i
theorem sD {i : Str} {j pos} : PE X (.Constant (.str i) j pos) (tD W M E (dC (.str i))) := cD pe_str fun _ _ => .str i
theorem nD0 {j pos} : PE X (.Constant .none j pos) (tD W M E (dC .non)) := cD pe_non fun _ _ => .non
theorem vv (i : Nat) {x : Str} {pos : Pos} (hN : X.N[i]? = some x := by rfl) (hv : Vis X.env.scope x := by first | exact Or.inl rfl | exact Or.inr (Or.inl rfl) | exact Or.inr (Or.inr rfl)) (hd : (x == ("__debug__" : Str)) = false := by decide)
    (hcd : (x == ("__classdict__" : Str)) = false := by decide) : PE X (.Name x pos) (tD W M E (dVar i)) := vD (pe_var hN hv hd hcd)
end
theorem bt_len : bootBuiltins "len" = some (.builtin "len") := by decide +kernel
theorem bt_abs : bootBuiltins "abs" = some (.builtin "abs") := by decide +kernel
theorem bt_max : bootBuiltins "max" = some (.builtin "max") := by decide +kernel
theorem bt_min : bootBuiltins "min" = some (.builtin "min") := by decide +kernel
theorem bt_all : bootBuiltins "all" = some (.builtin "all") := by decide +kernel
theorem bt_any : bootBuiltins "any" = some (.builtin "any") := by decide +kernel
theorem bt_sum : bootBuiltins "sum" = some (.builtin "sum") := by decide +kernel
theorem bt_repr : bootBuiltins "repr" = some (.builtin "repr") := by decide +kernel
theorem bt_sorted : bootBuiltins "sorted" = some (.builtin "sorted") := by decide +kernel
theorem bt_isinstance : bootBuiltins "isinstance" = some (.builtin "isinstance") := by decide +kernel
theorem bt_int : bootBuiltins "int" = some (.type "int") := by decide +kernel
theorem bt_str : bootBuiltins "str" = some (.type "str") := by decide +kernel
theorem bt_bool : bootBuiltins "bool" = some (.type "bool") := by decide +kernel
theorem bt_list : bootBuiltins "list" = some (.type "list") := by decide +kernel
theorem bt_tuple : bootBuiltins "tuple" = some (.type "tuple") := by decide +kernel
theorem bt_dict : bootBuiltins "dict" = some (.type "dict") := by decide +kernel
theorem bt_set : bootBuiltins "set" = some (.type "set") := by decide +kernel

section
variable {W : Wd} {M : Md W} {E : WX} {X : Cx} {k j n m q : Nat} {ps ks : List Str} {F : DF} {x : Str} {p pos : Pos} {e : Expr} {es : List Expr} {kws : List Keyword} {fa fk : DA} {ix : List Nat} {dfl : List AV} {bs : Bs}
theorem callH (H : Has X.prog X.w X.mg X.base W j x ps n F bs) (i : Nat) (hi : bs[i]? = some (m, ks, ix, dfl)) (hq : ks.length = q) (hr : Room k X.A) (hj : j ≤ k) (hK : X.K = W.K) (tk : Takes X E)
    (ha : PA X (e :: es) (tDA W M E fa)) (hkw : PK X kws (tDA W M E fk)) (hg : Gl X x := by rfl) (hall : (backToKw pos (keywordEach kws X.env)).all (·.1.isSome) = true := by rfl) (hks : (backToKw pos (keywordEach kws X.env)).filterMap (·.1) = ks := by rfl)
    (hdb : (x == ("__debug__" : Str)) = false := by decide) (he : starEach (e :: es) X.env = (false, eval e X.env) :: starEach es X.env := by rfl)
    (hpl : ((backTo pos (starEach (e :: es) X.env)).any (·.1) || (backToKw pos (keywordEach kws X.env)).any (·.1.isNone)) = false := by rfl) :
    PE X (.Call (.Name x p) (e :: es) kws pos) (tD W M E (dCallC F m q n ix dfl fa fk)) := by
  subst hq
  obtain ⟨a, fd, h1, h2, h3, h4⟩ := H
  have h5 := h4 _ (List.mem_of_getElem? hi)
  rw [← hK] at h2 h3
  exact callD h3 hr hj h1 h2 hK h5 tk ha hkw hg hall hks hdb he hpl
theorem callH0 (H : Has X.prog X.w X.mg X.base W j x ps n F bs) (i : Nat) (hi : bs[i]? = some (0, ks, ix, dfl)) (hq : ks.length = q) (hr : Room k X.A) (hj : j ≤ k) (hK : X.K = W.K) (tk : Takes X E)
    (hkw : PK X kws (tDA W M E fk)) (hg : Gl X x := by rfl) (hall : (backToKw pos (keywordEach kws X.env)).all (·.1.isSome) = true := by rfl) (hks : (backToKw pos (keywordEach kws X.env)).filterMap (·.1) = ks := by rfl)
    (hdb : (x == ("__debug__" : Str)) = false := by decide)
    (hpl : ((backTo pos (starEach [] X.env)).any (·.1) || (backToKw pos (keywordEach kws X.env)).any (·.1.isNone)) = false := by rfl) :
    PE X (.Call (.Name x p) [] kws pos) (tD W M E (dCallC F 0 q n ix dfl dNil fk)) := by
  subst hq
  obtain ⟨a, fd, h1, h2, h3, h4⟩ := H
  have h5 := h4 _ (List.mem_of_getElem? hi)
  rw [← hK] at h2 h3
  exact callD0 h3 hr hj h1 h2 hK h5 tk hkw hg hall hks hdb hpl
end

/-- a tuple of the written part -/
def flatsB : List V → List Value → Bool
  | [], [] => true
  | v :: vs, u :: us => He.relB v u && flatsB vs us
  | _, _ => false
theorem flatsB_ok : ∀ {vs : List V} {us : List Value}, flatsB vs us = true → Vals vs us
  | [], [], _ => .nil
  | v :: vs, u :: us, h => by
    obtain ⟨h1, h2⟩ := He.ba (show (He.relB v u && flatsB vs us) = true from h)
    exact .cons (He.relB_ok h1) (flatsB_ok h2)
def tupB (x : Str) (vs : List V) (K : PySem.W.Frag) : Bool := match PySem.W.nsIn K mainGlobals x with
  | some (some (.ref a)) => (match K.lookup a with
    | some ⟨.type "tuple", _, .seq its _, _⟩ => decide (its.size ≤ 1000) && flatsB vs its.toList
    | _ => false)
  | _ => false
theorem tupB_ok {K : PySem.W.Frag} {h : Heap} {mg : Str → Option Value} {x : Str} {vs : List V} (X : K.In h) (G : h.Ns mainGlobals mg) (c : tupB x vs K = true) : ∃ a, mg x = some (.ref a) ∧ ∀ H, SqT K H a vs := by
  unfold tupB at c
  cases e : PySem.W.nsIn K mainGlobals x with
  | none =>
    rw [e] at c
    cases c
  | some o =>
    rw [e] at c
    cases o with
    | none => cases c
    | some v =>
      cases v with
      | ref a =>
        dsimp only at c
        split at c
        · rename_i dd its n sl z
          obtain ⟨c1, c2⟩ := He.ba c
          refine ⟨a, PySem.W.mg_of X G e, fun H => .inr ⟨_, its, n, z, rfl, rfl, ?_, flatsB_ok c2⟩⟩
          have := of_decide_eq_true c1
          rw [sizeLine_eq]
          omega
        · cases c
      | _ => cases c

def obsEG (n : Nat) (fa : List He.Fa) (fn : List He.DefD) (xt : List (PySem.W.Frag → Bool)) (g : Addr → Option Obj) : He.AlD := obsE fa fn xt (He.frG g (He.asD g n))
def hookE (n : Nat) (fa : List He.Fa) (fn : List He.DefD) (xt : List (PySem.W.Frag → Bool)) : PySem.W.Hook where
  α := He.AlD
  obs := fun s => obsEG n fa fn xt s.heap.get?
  val := fun _ => He.valD fn
  says := fun _ h => ∃ K : PySem.W.Frag, K.In h ∧ SaysE fa fn xt K
  of := fun _ _ e => ⟨_, He.frG_in, e⟩
  keeps := fun _ _ _ ⟨K, hK, c⟩ k => ⟨K, PySem.W.Frag.In.keeps hK k, c⟩
theorem obsEG_eq {n : Nat} {fa : List He.Fa} {fn : List He.DefD} {xt : List (PySem.W.Frag → Bool)} {g : Addr → Option Obj} {s : Shared} (h : ∀ a, g a = s.heap.get? a) : obsEG n fa fn xt g = (hookE n fa fn xt).obs s := by
  have e : g = s.heap.get? := funext h
  rw [e] <;> rfl

def spL (K : PySem.W.Frag) : Sp := fun vs H Q _ => ∃ (a : Addr) (ns : List Int), vs = [.ref a] ∧ ns.length ≤ 63 ∧ Only H ∧ SqL K H a (ns.map V.int) ∧ ∀ H', Q (.bl true) H'
theorem law_sp {W : Wd} {P : Program} {w : World} {mg : Str → Option Value} {base : Heap} {CX : CXT} {k : Nat} {f : Addr} {fd : FuncData} {ps : List Str} {F : DF} (hT : W.T = []) (hF : FnOk P w W.K mg base CX k f fd ps (spD W 1 F))
    (law : ∀ ns : List Int, ns.length ≤ 63 → ∃ h, F [.rol (ns.map .int)] [] = .ok (.bl true) h) : FnOk P w W.K mg base CX k f fd ps (spL W.K) := hF.imp fun vs H Q E ⟨a, ns, e, hl, hO, hS, hQ⟩ => by
  subst e
  obtain ⟨h, e⟩ := law ns hl
  refine ⟨[], [], [.rol (ns.map .int)], rfl, ⟨rfl, List.nodup_nil, fun i a o hi => by simp at hi, fun p hp => by rw [hT] at hp; cases hp⟩, .cons (.rol ?_ (RVs.ints ns)) .nil, ?_⟩
  · rcases hS with (z | ⟨o, z⟩) | z
    · rcases hO a with q | ⟨o, xs, q⟩
      · rw [q] at z
        cases z
      · rw [q] at z
        cases z
    · exact .inl ⟨o, z⟩
    · exact .inr (.inr z)
  · rw [e]
    intro io' H' x _ _ r
    obtain rfl := r.bl_inv
    exact hQ H'
end Dn
namespace Dn
open PySem PySem.Spec PyProof.Rows L2

def putAV (o i v : AV) (h : Hep) : Option Hep := match o with
  | .ref n => match h[n]? with
    | some (.lst xs) => (match i with
      | .int k => (ixN xs.length k).map fun j => h.set n (.lst (xs.set j v))
      | _ => none)
    | some (.dK kvs) => (match keyOf i with
      | some q => if kvs.length < SZ then some (h.set n (.dK (dput kvs q v))) else none
      | none => none)
    | _ => none
  | _ => none
def dPut (fo fi fv : DE) : DS := fun s h => (fv s h).st s fun v h1 => (fo s h1).st s fun o h2 => (fi s h2).st s fun i h3 => match putAV o i v h3 with
  | some h4 => .nx s h4
  | none => .stuck
section
variable {W : Wd} {M : Md W} {E : WX} {X : Cx} {k : Nat}
theorem sPut {o i v : Expr} {fo fi fv : DE} {p pos : Pos} (hr : Room k X.A) (ho : PE X o (tD W M E fo)) (hi : PE X i (tD W M E fi)) (hv : PE X v (tD W M E fv)) (hs : swapsWith v (some (.Subscript o i p)) pos.line X.env = pure false := by rfl) :
    PS X (.Assign [.Subscript o i p] v pos) (tS W M E (dPut fo fi fv)) := by
  refine ⟨fun pins s σ H D I ⟨io, hp, as, rl, S, P⟩ => ?_⟩
  refine wpAny_Assign_Subscript (thn (hv.run pins s σ H _ I (stepS (rh := RV W) (f := fv) rl S P)) fun uv s1 ⟨xv, H1, I1, rv, io1, hp1, a1, e1, rl1, r1, P1⟩ => ?_) hs
  refine thn (ho.run pins s1 σ H1 _ I1 (stepS (rh := RV W) (f := fo) rl1 (M.mono e1 S) P1)) fun uo s2 ⟨xo, H2, I2, ro, io2, hp2, a2, e2, rl2, r2, P2⟩ => ?_
  refine thn (hi.run pins s2 σ H2 _ I2 (stepS (rh := RV W) (f := fi) rl2 (M.mono (e1.trans e2) S) P2)) fun ui s3 ⟨xi, H3, I3, ri, io3, hp3, a3, e3, rl3, r3, P3⟩ => ?_
  have S3 := M.mono ((e1.trans e2).trans e3) S
  have q2 := r2.mono e3
  have q1 := r1.mono (e2.trans e3)
  have fin : ∀ {H4 : Hp} {s4 : Shared} {h4 : Hep}, putAV a2 a3 a1 hp3 = some h4 → Ext W io3 H3 io3 H4 → Rl W io3 h4 H4 → Inv X pins σ H4 s4 → SP X pins D .next s4 := fun {H4 s4 h4} z e rl4 I4 => by
    rw [z] at P3
    exact ⟨σ, H4, I4, P3 _ _ _ e rl4 (M.mono e S3)⟩
  cases q2 with
  | @ref n p hi' =>
    have P4 : Pss W M E D io3 H3 (match putAV (.ref n) a3 a1 hp3 with
      | some h4 => .nx as h4
      | none => .stuck) := P3
    cases z : hp3[n]? with
    | none =>
      simp only [putAV, z] at P4
      exact P4.elim
    | some ob =>
      cases ob with
      | lst xs =>
        obtain ⟨vs, ev, rvs⟩ := rl3.lst hi' z
        cases r3 with
        | int i =>
          cases z2 : ixN xs.length i with
          | none =>
            simp only [putAV, z, z2] at P4
            exact P4.elim
          | some j =>
            have z3 : putAV (.ref n) (.int i) a1 hp3 = some (hp3.set n (.lst (xs.set j a1))) := by simp only [putAV, z, z2, Option.map_some]
            have eS : Ext W io3 H3 io3 (upd H3 p (.lst (vs.set j xv))) := Ext.set _ ev trivial
            refine thn (set_list pins s3 σ H3 _ _ _ _ _ _ (fun H' => H' = upd H3 p (.lst (vs.set j xv))) I3 ro ri rv ⟨p, vs, i, j, rfl, rfl, ev, by rw [← rvs.len]; exact z2, rfl⟩) fun _ s4 ⟨H4, I4, e4⟩ => ?_
            subst e4
            exact fin z3 eS (rl3.set hi' ev trivial (.lst ((rvs.set j q1).mono eS))) I4
        | _ =>
          simp only [putAV, z] at P4
          exact P4.elim
      | dK kvs =>
        obtain ⟨vs, ev, rvs⟩ := rl3.dK hi' z
        cases z2 : keyOf a3 with
        | none =>
          simp only [putAV, z, z2] at P4
          exact P4.elim
        | some q =>
          by_cases hz : kvs.length < SZ
          · have z3 : putAV (.ref n) a3 a1 hp3 = some (hp3.set n (.dK (dput kvs q a1))) := by simp only [putAV, z, z2, if_pos hz]
            have eS : Ext W io3 H3 io3 (upd H3 p (.dK (putK vs q xv))) := Ext.set _ ev trivial
            have ek := keyOf_in z2 r3
            subst ek
            refine thn (set_dict (ru1 hr) pins s3 σ H3 _ _ _ _ _ _ (fun H' => H' = upd H3 p (.dK (putK vs q xv))) I3 ro ri rv ⟨p, _, rfl, DPut.k ev (by rw [← rvs.len]; exact szT hz), rfl⟩) fun _ s4 ⟨H4, I4, e4⟩ => ?_
            subst e4
            exact fin z3 eS (rl3.set hi' ev trivial (.dK ((RKs.put q q1 rvs).mono eS))) I4
          · simp only [putAV, z, z2, if_neg hz] at P4
            exact P4.elim
      | _ =>
        simp only [putAV, z] at P4
        exact P4.elim
  | _ => exact P3.elim

def lrAV (i j : Int) (h : Hep) : Op AV := if -(2 ^ 62) ≤ i ∧ i < 2 ^ 62 ∧ -(2 ^ 62) ≤ j ∧ j < 2 ^ 62 ∧ (j - i).toNat ≤ SZ then some (.ref h.length, h ++ [.lst (rngL i (j - i).toNat)]) else none
def lr1L : DL := fun as h => match as with
  | [.int j] => lrAV 0 j h
  | _ => none
def lr2L : DL := fun as h => match as with
  | [.int i, .int j] => lrAV i j h
  | _ => none
theorem lr_at {io : List Addr} {hp : Hep} {H : Hp} {Q : VK} {i j : Int} (P : Pop W (RV W) Q io H (lrAV i j hp)) (rl : Rl W io hp H) : RgOk i j ∧ ∀ q, H q = none → Q (.ref q) (upd H q (.lst (rgV i j))) := by
  unfold lrAV at P
  split at P
  · rename_i h
    refine ⟨⟨h.1, h.2.1, h.2.2.1, h.2.2.2.1, by have := h.2.2.2.2; have z : SZ = 1000000 := rfl; omega⟩, lay_lst P rl ?_⟩
    unfold rngL rgV
    generalize List.range (j - i).toNat = l
    clear h P
    induction l with
    | nil => exact .nil
    | cons a r ih => exact .cons (.int _) ih
  · exact P.elim
abbrev dLR1 (f : DE) : DE := dUn (fun a h => lr1L [a] h) f
abbrev dLR2 (f g : DE) : DE := dOp (fun a b h => lr2L [a, b] h) f g
theorem lr1D {a : Expr} {f : DE} {p q pos : Pos} (hc : X.calm = true) (hl : X.mg "list" = none) (hm : X.mg "range" = none) (ha : PE X a (tD W M E f)) (hg : Gl X "list" := by rfl) (hg2 : Gl X "range" := by rfl)
    (na : starEach [a] X.env = (false, eval a X.env) :: starEach [] X.env := by rfl) (nb : starEach [.Call (.Name "range" q) [a] [] pos] X.env = (false, eval (.Call (.Name "range" q) [a] [] pos) X.env) :: starEach [] X.env := by rfl) {pos2 : Pos} :
    PE X (.Call (.Name "list" p) [.Call (.Name "range" q) [a] [] pos] [] pos2) (tD W M E (dLR1 f)) :=
  peI (pe_listRg hc hg hl (prg_1 hg2 hm ha na) nb) fun σ H Q h => by
    refine (un_in h).imp fun x H1 ⟨io, hp, a, rl, ra, P⟩ => ?_
    cases ra with
    | int i => exact ⟨i, rfl, lr_at P rl⟩
    | _ => exact P.elim
theorem lr2D {a b : Expr} {f g : DE} {p q pos : Pos} (hc : X.calm = true) (hl : X.mg "list" = none) (hm : X.mg "range" = none) (ha : PE X a (tD W M E f)) (hb : PE X b (tD W M E g)) (hg : Gl X "list" := by rfl) (hg2 : Gl X "range" := by rfl)
    (na : starEach [a, b] X.env = (false, eval a X.env) :: starEach [b] X.env := by rfl) (na2 : starEach [b] X.env = (false, eval b X.env) :: starEach [] X.env := by rfl) (hp : (backTo pos (starEach [b] X.env)).any (·.1) = false := by rfl)
    (nb : starEach [.Call (.Name "range" q) [a, b] [] pos] X.env = (false, eval (.Call (.Name "range" q) [a, b] [] pos) X.env) :: starEach [] X.env := by rfl) {pos2 : Pos} :
    PE X (.Call (.Name "list" p) [.Call (.Name "range" q) [a, b] [] pos] [] pos2) (tD W M E (dLR2 f g)) :=
  peI (pe_listRg hc hg hl (prg_2 hg2 hm ha hb na na2 hp) nb) fun σ H Q h => by
    refine tG.imp (op_in h) fun x H1 h1 => tG.imp h1 fun y H2 ⟨io, hp, a, b, rl, ra, rb, P⟩ => ?_
    cases ra with
    | int i =>
      cases rb with
      | int j => exact ⟨i, j, rfl, rfl, lr_at P rl⟩
      | _ => exact P.elim
    | _ => exact P.elim
/-- isinstance by the law's table of classes -/
theorem cIsiE {ct : CT} (hK : X.K = W.K) (hW : W.ct = ct) : CallR X (.builtin "isinstance") (tl W (isiL ct)) := by
  subst hW
  exact cIsi hK
def ctN : CT := ⟨fun _ => false, fun _ _ => false⟩
end
def blkB (N : List Str) (sc scope : Scope) (own : List (Str × Nat)) : Bool :=
  decide (scope.kind = .function) && ((scope.names.all fun y => decide (scope.names.lookup y.1 = some y.2)) && ((own.all fun p => decide (N[p.2]? = some p.1)) &&
    ((scope.names.all fun y => !decide (y.2 = .free) || (decide (sc.names.lookup y.1 = some .cell) || decide (sc.names.lookup y.1 = some .free))) &&
      scope.names.all fun y => !(decide (y.2 = .local) || decide (y.2 = .cell)) || (decide (y.1 ∈ own.map (·.1)) || decide (y.1 ∉ N)))))
theorem blkOk {N : List Str} {sc scope : Scope} {own : List (Str × Nat)} (h : blkB N sc scope own = true) : BlkOk N sc scope own := by
  obtain ⟨h1, h⟩ := He.ba h
  obtain ⟨h2, h⟩ := He.ba h
  obtain ⟨h3, h⟩ := He.ba h
  obtain ⟨h4, h5⟩ := He.ba h
  rw [List.all_eq_true] at h2 h3 h4 h5
  refine ⟨of_decide_eq_true h1, fun y hy => of_decide_eq_true (h2 y hy), fun p hp => of_decide_eq_true (h3 p hp), fun y hy e => ?_, fun y hy e => ?_⟩
  · have z := h4 y hy
    simpa [e] using z
  · have z := h5 y hy
    have e' : (decide (y.2 = .local) || decide (y.2 = .cell)) = true := by simpa using e
    rw [e'] at z
    simpa using z

theorem cdB_ok {K : PySem.W.Frag} (h : cdB K = true) : PySem.W.specialIn K (.builtin "object.__class__") "__get__" = some (some (.builtin "getset_descriptor.__get__")) := He.eqO_ok h
theorem ckB_ok {K : PySem.W.Frag} (h : ckB K = true) : PySem.W.takesIn K (.builtin "object.__class__") = some true := of_decide_eq_true h
def mkW (K : PySem.W.Frag) (h1 : PySem.W.specialIn K (.builtin "object.__class__") "__get__" = some (some (.builtin "getset_descriptor.__get__"))) (h2 : PySem.W.takesIn K (.builtin "object.__class__") = some true) : Wd where
  K := K
  cl := fun _ => 0
  fn := []
  fnd := .nil
  ct := ctN
  cg := fun _ h => nomatch h
  cd := h1
  ck := h2
  ctf := fun _ _ _ h => nomatch h
  cty := fun _ _ _ h => nomatch h
  csf := fun _ _ h => nomatch h
  cks := fun _ h => nomatch h
  cb := fun _ h => nomatch h
  css := fun _ _ h => nomatch h
  noat := fun _ _ h => nomatch h
/-- the end of a law -/
theorem walk_ofW {l : PySem.W.OpenLaw} {n k : Nat} {q : Program} {loose : List Str} {XP : (Str → Option Value) → Heap → Prop} {YP : World → Heap → Prop} {d : DefRec} {x : Str}
    (hn : l.most = some n) (hn2 : n ≤ sizeLine) (hdf : d.params.defaults = []) (hr : Room k callerA)
    (F : ∀ (w : World) (mg : Str → Option Value) (fa : Addr) (h : Heap), YP w h → h.Ns mainGlobals mg → mg d.name = some (.ref fa) →
      ∃ (K : PySem.W.Frag) (fd : FuncData) (sp : Sp), K.In h ∧ (∀ (s : Shared) (u : Value), BindsTo s fd ⟨[u], []⟩ [(x, u)]) ∧
        (∀ (H : Hp) (a : Addr) (ns : List Int), ns.length ≤ n → Only H → SqL K H a (ns.map V.int) → sp [.ref a] H (fun v _ => v = .bl true) fun _ _ _ => False) ∧
        ∀ base : Heap, K.In base → base.Ns mainGlobals mg → FnOk l.prog w K mg base (L2.CX l.prog w) k fa fd [x] sp) :
    PySem.W.WalkO q loose XP YP l.row.toRowW d [] (fun f vs => PySem.call f vs) := by
  refine Att.attach_call hn hdf fun w s₀ s₁ mg mb fa o pm cd doc a vs ns G Y ho hd hcd hmg hobj hints hlen hg => ?_
  obtain ⟨K, fd, sp, KX, hb, hsp, hF⟩ := F w mg fa _ Y G.T.g hmg
  exact law_call KX G.T.g G.T.b G.T.builtins G.T.nolimit hg hobj hints (Nat.le_trans hlen hn2) hr hF hb (fun H hO hS => hsp H a ns hlen hO hS) fun H e s' ⟨_, _, _, _, _, _, _, _, _, _, _, _, z⟩ => z
end Dn
namespace Dn
open PySem

/-- it comes to a value, of which Q stands -/
def wE {T : Type} (r : R T) (Q : T → Hep → Prop) : Prop := ∃ a h, r = .ok a h ∧ Q a h
/-- it goes on, or returns -/
def wS (r : SR) (N : Sl → Hep → Prop) (V : AV → Hep → Prop) : Prop := match r with
  | .nx s h => N s h
  | .rt v h => V v h
  | _ => False
@[simp] theorem wE_ok {T : Type} {a : T} {h : Hep} {Q : T → Hep → Prop} : wE (.ok a h) Q ↔ Q a h := ⟨fun ⟨_, _, e, q⟩ => (by cases e; exact q), fun q => ⟨_, _, rfl, q⟩⟩
@[simp] theorem wE_bind {T U : Type} {r : R T} {k : T → Hep → R U} {Q : U → Hep → Prop} : wE (r.bind k) Q ↔ wE r fun a h => wE (k a h) Q := by
  constructor
  · rintro ⟨b, h, e, q⟩
    cases r with
    | ok a h1 => exact ⟨a, h1, rfl, b, h, e, q⟩
    | exc t fs h1 => cases e
    | stuck => cases e
  · rintro ⟨a, h, e, b, h2, e2, q⟩
    subst e
    exact ⟨b, h2, e2, q⟩
@[simp] theorem wE_noX {T : Type} {r : R T} {Q : T → Hep → Prop} : wE r.noX Q ↔ wE r Q := by
  cases r <;> simp [R.noX, wE]
@[simp] theorem wE_stuck {T : Type} {Q : T → Hep → Prop} : wE (.stuck : R T) Q ↔ False := ⟨fun ⟨_, _, e, _⟩ => (by cases e), fun h => h.elim⟩
@[simp] theorem wE_exc {T : Type} {t : Nat} {fs : List (Nat × AV)} {h : Hep} {Q : T → Hep → Prop} : wE (.exc t fs h : R T) Q ↔ False := ⟨fun ⟨_, _, e, _⟩ => (by cases e), fun h => h.elim⟩
@[simp] theorem wE_of {T : Type} {o : Op T} {Q : T → Hep → Prop} : wE (R.of o) Q ↔ ∃ a h, o = some (a, h) ∧ Q a h := by
  cases o with
  | none => simp [R.of]
  | some p =>
    obtain ⟨a, h⟩ := p
    show wE (.ok a h) Q ↔ _
    rw [wE_ok]
    exact ⟨fun q => ⟨a, h, rfl, q⟩, fun ⟨_, _, e, q⟩ => by cases e; exact q⟩
@[simp] theorem wS_nx {s : Sl} {h : Hep} {N : Sl → Hep → Prop} {V : AV → Hep → Prop} : wS (.nx s h) N V ↔ N s h := Iff.rfl
@[simp] theorem wS_rt {v : AV} {h : Hep} {N : Sl → Hep → Prop} {V : AV → Hep → Prop} : wS (.rt v h) N V ↔ V v h := Iff.rfl
@[simp] theorem wS_then {r : SR} {k : Sl → Hep → SR} {N : Sl → Hep → Prop} {V : AV → Hep → Prop} : wS (r.then k) N V ↔ wS r (fun s h => wS (k s h) N V) V := by
  cases r <;> simp [SR.then, wS]
@[simp] theorem wS_st {T : Type} {r : R T} {s : Sl} {k : T → Hep → SR} {N : Sl → Hep → Prop} {V : AV → Hep → Prop} : wS (R.st r s k) N V ↔ wE r fun a h => wS (k a h) N V := by
  cases r <;> simp [R.st, wS]
theorem wE_fin {r : SR} {Q : AV → Hep → Prop} : wE r.fin Q ↔ wS r (fun _ h => Q .non h) Q := by
  cases r <;> simp [SR.fin, wS]
theorem wE_imp {T : Type} {r : R T} {Q Q' : T → Hep → Prop} (h : wE r Q) (k : ∀ a h, Q a h → Q' a h) : wE r Q' := by
  obtain ⟨a, h, e, q⟩ := h
  exact ⟨a, h, e, k _ _ q⟩
theorem wS_imp {r : SR} {N N' : Sl → Hep → Prop} {V V' : AV → Hep → Prop} (h : wS r N V) (k : ∀ s h, N s h → N' s h) (l : ∀ s h, V s h → V' s h) : wS r N' V' := by
  cases r with
  | nx s h' => exact k _ _ h
  | rt s h' => exact l _ _ h
  | _ => exact h

theorem Fr.new {ex : List Nat} {h : Hep} {o : AO} : Fr ex h (h ++ [o]) := ⟨by simp, fun i hi _ => List.getElem?_append_left hi⟩
theorem lt_of {h : Hep} {i : Nat} {o : AO} (e : h[i]? = some o) : i < h.length := (List.getElem?_eq_some_iff.mp e).1

section
variable {T U : Type} {a : T} {h h1 : Hep} {s s1 : Sl} {t : Nat} {fs : List (Nat × AV)} {v : AV}
@[simp] theorem R.bind_ok {k : T → Hep → R U} : (R.ok a h).bind k = k a h := rfl
@[simp] theorem R.bind_exc {k : T → Hep → R U} : (R.exc t fs h : R T).bind k = .exc t fs h := rfl
@[simp] theorem R.bind_stuck {k : T → Hep → R U} : (R.stuck : R T).bind k = .stuck := rfl
@[simp] theorem R.of_some : R.of (some (a, h)) = .ok a h := rfl
@[simp] theorem R.of_none : R.of (none : Op T) = .stuck := rfl
@[simp] theorem R.st_ok {k : T → Hep → SR} : (R.ok a h).st s k = k a h := rfl
@[simp] theorem R.st_exc {k : T → Hep → SR} : (R.exc t fs h : R T).st s k = .exc t fs s h := rfl
@[simp] theorem R.st_stuck {k : T → Hep → SR} : (R.stuck : R T).st s k = .stuck := rfl
@[simp] theorem R.noX_ok : (R.ok a h).noX = .ok a h := rfl
@[simp] theorem SR.then_nx {k : Sl → Hep → SR} : (SR.nx s h).then k = k s h := rfl
@[simp] theorem SR.then_rt {k : Sl → Hep → SR} : (SR.rt v h).then k = .rt v h := rfl
@[simp] theorem SR.then_bk {k : Sl → Hep → SR} : (SR.bk s h).then k = .bk s h := rfl
@[simp] theorem SR.then_ct {k : Sl → Hep → SR} : (SR.ct s h).then k = .ct s h := rfl
@[simp] theorem SR.then_exc {k : Sl → Hep → SR} : (SR.exc t fs s h).then k = .exc t fs s h := rfl
@[simp] theorem SR.then_stuck {k : Sl → Hep → SR} : SR.stuck.then k = .stuck := rfl
@[simp] theorem SR.loop_nx {k : Sl → Hep → SR} : (SR.nx s h).loop k = k s h := rfl
@[simp] theorem SR.loop_ct {k : Sl → Hep → SR} : (SR.ct s h).loop k = k s h := rfl
@[simp] theorem SR.loop_bk {k : Sl → Hep → SR} : (SR.bk s h).loop k = .nx s h := rfl
@[simp] theorem SR.loop_rt {k : Sl → Hep → SR} : (SR.rt v h).loop k = .rt v h := rfl
@[simp] theorem SR.fin_nx : (SR.nx s h).fin = .ok .non h := rfl
@[simp] theorem SR.fin_rt : (SR.rt v h).fin = .ok v h := rfl
@[simp] theorem SR.fin_exc : (SR.exc t fs s h).fin = .exc t fs h := rfl
variable {f g k : DE} {c d : DT} {x y : DS} {fa ga : DA} {r r' : D2} {u : D1} {l : DL} {i j m n q : Nat} {b : Bool} {gt : DG} {gs : DGs} {F : DF} {ix : List Nat} {dfl : List AV} {lo hi : DO} {ty : String} {dm : DMt}
@[simp] theorem xSkip : dSkip s h = .nx s h := rfl
@[simp] theorem xSeq : dSeq x y s h = (x s h).then y := rfl
@[simp] theorem xDrop : dDrop f s h = (f s h).st s fun _ h1 => .nx s h1 := rfl
@[simp] theorem xRet : dRet f s h = (f s h).st s fun v h1 => .rt v h1 := rfl
@[simp] theorem xRetN : dRetN s h = .rt .non h := rfl
@[simp] theorem xSet : dSet i f s h = (f s h).st s fun v h1 => .nx (s.set i (some v)) h1 := rfl
theorem xIfS0 : dIfS c x y s h = (c s h).st s fun b h1 => match b with
  | true => x s h1
  | false => y s h1 := rfl
@[simp] theorem xIfS : dIfS c x y s h = (c s h).st s fun b h1 => if b = true then x s h1 else y s h1 := by
  rw [xIfS0]
  congr
  funext b h1
  cases b <;> rfl
@[simp] theorem xBreak : dBreak s h = .bk s h := rfl
@[simp] theorem xCont : dCont s h = .ct s h := rfl
@[simp] theorem nx_int {i : Int} : (AV.int i).nx = true := rfl
@[simp] theorem nx_bl {i : Bool} : (AV.bl i).nx = true := rfl
@[simp] theorem nx_str {i : Str} : (AV.str i).nx = true := rfl
@[simp] theorem nx_non : AV.non.nx = true := rfl
@[simp] theorem nx_tup {i : List AV} : (AV.tup i).nx = true := rfl
@[simp] theorem nx_rol {i : List AV} : (AV.rol i).nx = true := rfl
@[simp] theorem nx_ref {i : Nat} : (AV.ref i).nx = true := rfl
@[simp] theorem nx_adr {i : Addr} : (AV.adr i).nx = true := rfl
@[simp] theorem nx_ty {i : String} : (AV.ty i).nx = true := rfl
@[simp] theorem nx_cls {i : Nat} : (AV.cls i).nx = true := rfl
def getV (o : Option (Option AV)) (h : Hep) : R AV := match o with
  | some (some v) => if v.nx = true then .ok v h else .stuck
  | _ => .stuck
@[simp] theorem getV_some : getV (some (some v)) h = if v.nx = true then .ok v h else .stuck := rfl
@[simp] theorem getV_none : getV (some none) h = .stuck := rfl
@[simp] theorem getV_no : getV none h = .stuck := rfl
@[simp] theorem xVar : dVar i s h = getV s[i]? h := by
  unfold dVar getV
  cases s[i]? with
  | none => rfl
  | some o =>
    cases o with
    | none => rfl
    | some w => cases w <;> rfl
@[simp] theorem xC : dC v s h = .ok v h := rfl
@[simp] theorem xOp : dOp r f g s h = (f s h).bind fun a h1 => (g s h1).bind fun b h2 => R.of (r a b h2) := rfl
@[simp] theorem xUn : dUn u f s h = (f s h).bind fun a h1 => R.of (u a h1) := rfl
@[simp] theorem xCB : dCB l fa s h = (fa s h).bind fun a h1 => R.of (l a h1) := rfl
@[simp] theorem xNil : dNil s h = .ok [] h := rfl
@[simp] theorem xCons : dCons f fa s h = (f s h).bind fun a h1 => (fa s h1).bind fun b h2 => .ok (a :: b) h2 := rfl
def asB (a : AV) (h : Hep) : R Bool := match a with
  | .bl b => .ok b h
  | _ => .stuck
@[simp] theorem asB_bl : asB (.bl b) h = .ok b h := rfl
@[simp] theorem xTst : dTst f s h = (f s h).bind asB := by
  unfold dTst asB
  rfl
@[simp] theorem xVal : dVal c s h = (c s h).bind fun b h1 => .ok (.bl b) h1 := rfl
@[simp] theorem xAnd : dAnd c d s h = (c s h).bind fun b h1 => if b = true then d s h1 else .ok false h1 := by
  unfold dAnd
  congr
  funext b h1
  cases b <;> rfl
@[simp] theorem xOr : dOr c d s h = (c s h).bind fun b h1 => if b = true then .ok true h1 else d s h1 := by
  unfold dOr
  congr
  funext b h1
  cases b <;> rfl
@[simp] theorem xNot : dNot c s h = (c s h).bind fun b h1 => .ok (!b) h1 := rfl
@[simp] theorem xIf : dIf c f g s h = (c s h).bind fun b h1 => if b = true then f s h1 else g s h1 := by
  unfold dIf
  congr
  funext b h1
  cases b <;> rfl
def andK (g : DE) (s : Sl) (a : AV) (h : Hep) : R AV := match a with
  | .bl true => g s h
  | .bl false => .ok (.bl false) h
  | _ => .stuck
def orK (g : DE) (s : Sl) (a : AV) (h : Hep) : R AV := match a with
  | .bl true => .ok (.bl true) h
  | .bl false => g s h
  | _ => .stuck
@[simp] theorem andK_bl : andK g s (.bl b) h = if b = true then g s h else .ok (.bl false) h := by cases b <;> rfl
@[simp] theorem orK_bl : orK g s (.bl b) h = if b = true then .ok (.bl true) h else g s h := by cases b <;> rfl
@[simp] theorem xAndV : dAndV f g s h = (f s h).bind (andK g s) := by
  unfold dAndV andK
  rfl
@[simp] theorem xOrV : dOrV f g s h = (f s h).bind (orK g s) := by
  unfold dOrV orK
  rfl
def notK (a : AV) (h : Hep) : R AV := match a with
  | .bl b => .ok (.bl (!b)) h
  | _ => .stuck
@[simp] theorem notK_bl : notK (.bl b) h = .ok (.bl (!b)) h := rfl
@[simp] theorem xNotV : dNotV f s h = (f s h).bind notK := by
  unfold dNotV notK
  rfl
def chnK (k : DE) (s : Sl) (r' : D2) (y z : AV) (h : Hep) : R AV := match z with
  | .bl true => (k s h).bind fun c h4 => R.of (r' y c h4)
  | .bl false => .ok (.bl false) h
  | _ => .stuck
@[simp] theorem chnK_bl {y : AV} : chnK k s r' y (.bl b) h = if b = true then (k s h).bind fun c h4 => R.of (r' y c h4) else .ok (.bl false) h := by cases b <;> rfl
@[simp] theorem xChn : dChn r r' f g k s h = (f s h).bind fun a h1 => (g s h1).bind fun b h2 => (R.of (r a b h2)).bind fun z h3 => chnK k s r' b z h3 := by
  unfold dChn chnK
  rfl
@[simp] theorem xLst : dLst fa s h = (fa s h).bind fun xs h1 => R.of (mkL xs h1) := rfl
@[simp] theorem xTup : dTup fa s h = (fa s h).bind fun xs h1 => R.of (mkT xs h1) := rfl
def starK (g : DA) (s : Sl) (o : Option (List AV)) (h : Hep) : R (List AV) := match o with
  | some xs => (g s h).bind fun b h2 => .ok (xs ++ b) h2
  | none => .stuck
@[simp] theorem starK_some {xs : List AV} : starK ga s (some xs) h = (ga s h).bind fun b h2 => .ok (xs ++ b) h2 := rfl
@[simp] theorem starK_none : starK ga s none h = .stuck := rfl
@[simp] theorem xStar : dStar f ga s h = (f s h).bind fun a h1 => starK ga s (seqOf h1 a) h1 := by
  unfold dStar starK
  rfl
def slK (o : Option Sl) (h : Hep) : SR := match o with
  | some s' => .nx s' h
  | none => .stuck
@[simp] theorem slK_some : slK (some s) h = .nx s h := rfl
@[simp] theorem slK_none : slK none h = .stuck := rfl
@[simp] theorem xAsg : dAsg f gt s h = (f s h).st s fun v h1 => slK (gt v s) h1 := by
  unfold dAsg slK
  rfl
def tupK (gs : DGs) (s : Sl) (o : Option (List AV)) : Option Sl := match o with
  | some xs => gs xs s
  | none => none
@[simp] theorem tupK_some {xs : List AV} : tupK gs s (some xs) = gs xs s := rfl
@[simp] theorem xgN {v : AV} : dgN i v s = some (s.set i (some v)) := rfl
@[simp] theorem xgT {v : AV} : dgT gs v s = tupK gs s (tupOf v) := by
  unfold dgT tupK
  rfl
@[simp] theorem xg0 : dg0 [] s = some s := rfl
@[simp] theorem xgC {w : AV} {ws : List AV} : dgC gt gs (w :: ws) s = (gt w s).bind fun s1 => gs ws s1 := rfl
@[simp] theorem tupOf_tup {xs : List AV} : tupOf (.tup xs) = some xs := rfl
def par2K (i j : Nat) (s : Sl) (xs : List AV) (h : Hep) : SR := match xs with
  | [a, b] => .nx ((s.set i (some a)).set j (some b)) h
  | _ => .stuck
@[simp] theorem par2K_two {a b : AV} : par2K i j s [a, b] h = .nx ((s.set i (some a)).set j (some b)) h := rfl
@[simp] theorem xPar2 : dPar2 i j fa s h = (fa s h).st s fun xs h1 => par2K i j s xs h1 := by
  unfold dPar2 par2K
  rfl
def par3K (i j m : Nat) (s : Sl) (xs : List AV) (h : Hep) : SR := match xs with
  | [a, b, c] => .nx (((s.set i (some a)).set j (some b)).set m (some c)) h
  | _ => .stuck
@[simp] theorem par3K_three {a b c : AV} : par3K i j m s [a, b, c] h = .nx (((s.set i (some a)).set j (some b)).set m (some c)) h := rfl
@[simp] theorem xPar3 : dPar3 i j m fa s h = (fa s h).st s fun xs h1 => par3K i j m s xs h1 := by
  unfold dPar3 par3K
  rfl
@[simp] theorem xCall {fk : DA} : dCallC F n m q ix dfl fa fk s h = (fa s h).bind fun a h1 => (fk s h1).bind fun b h2 => if a.length = n ∧ b.length = m ∧ (sel ix (a ++ dfl ++ b)).length = q then F (sel ix (a ++ dfl ++ b)) h2 else .stuck := rfl
@[simp] theorem sel_nil {α : Type} {xs : List α} : sel [] xs = [] := rfl
@[simp] theorem sel_cons {α : Type} {xs : List α} : sel (i :: ix) xs = match xs[i]? with
  | some x => x :: sel ix xs
  | none => sel ix xs := by
  unfold sel
  rw [List.filterMap_cons]
  cases xs[i]? <;> rfl
@[simp] theorem xMt : dMt ty dm f fa s h = (f s h).bind fun a h1 => if tyA ty h1 a = true then (fa s h1).bind fun b h2 => R.of (dm a b h2) else .stuck := by
  unfold dMt
  rfl
def putK1 (s : Sl) (o : Option Hep) : SR := match o with
  | some h4 => .nx s h4
  | none => .stuck
@[simp] theorem putK1_some : putK1 s (some h) = .nx s h := rfl
@[simp] theorem xPut : dPut f g k s h = (k s h).st s fun v h1 => (f s h1).st s fun o h2 => (g s h2).st s fun i h3 => putK1 s (putAV o i v h3) := by
  unfold dPut putK1
  rfl
@[simp] theorem xNoP : dNoP s h = .ok none h := rfl
def prtK (a : AV) (h : Hep) : R (Option Int) := match a with
  | .int i => .ok (some i) h
  | _ => .stuck
@[simp] theorem prtK_int {i : Int} : prtK (.int i) h = .ok (some i) h := rfl
@[simp] theorem xPrt : dPrt f s h = (f s h).bind prtK := by
  unfold dPrt prtK
  rfl
@[simp] theorem xSlc : dSlc f lo hi s h = (f s h).bind fun a h1 => (lo s h1).bind fun l h2 => (hi s h2).bind fun u h3 => R.of (sliceAV a l u h3) := rfl
end

theorem lt1000 {n : Nat} (h : n < 2 ^ 200) : (n < 2 ^ 1000) = True := eq_true (Nat.lt_of_lt_of_le h (Nat.pow_le_pow_right (by decide) (by decide)))
theorem mulOk_l {i j : Int} (h1 : -(2 ^ 64) < i) (h2 : i < 2 ^ 64) : mulOk i j = true := by
  unfold mulOk
  rw [decide_eq_true (⟨h1, h2⟩ : -(2 ^ 64) < i ∧ i < 2 ^ 64), Bool.true_or]
theorem mulOk_r {i j : Int} (h1 : -(2 ^ 64) < j) (h2 : j < 2 ^ 64) : mulOk i j = true := by
  unfold mulOk
  rw [decide_eq_true (⟨h1, h2⟩ : -(2 ^ 64) < j ∧ j < 2 ^ 64), Bool.true_or, Bool.or_true]
section
variable {h : Hep} {i j : Int}
@[simp] theorem add_ii : addAV (.int i) (.int j) h = some (.int (i + j), h) := rfl
@[simp] theorem sub_ii : subAV (.int i) (.int j) h = some (.int (i - j), h) := rfl
@[simp] theorem mul_ii : mulAV (.int i) (.int j) h = if mulOk i j = true then some (.int (i * j), h) else none := rfl
@[simp] theorem fdiv_ii : fdivAV (.int i) (.int j) h = if 0 < j ∧ j < 1073741824 then some (.int (i / j), h) else none := rfl
@[simp] theorem mod_ii : modAV (.int i) (.int j) h = if 0 < j then some (.int (i % j), h) else none := rfl
@[simp] theorem neg_i : negAV (.int i) h = some (.int (-i), h) := rfl
theorem pow_ii (h0 : 0 ≤ j) (h1 : j ≤ 100) (h2 : i.natAbs < 2 ^ 200) : powAV (.int i) (.int j) h = some (.int (i ^ j.toNat), h) := by
  show (if 0 ≤ j ∧ j ≤ 100 ∧ i.natAbs < 2 ^ 1000 then some (AV.int (i ^ j.toNat), h) else none) = _
  rw [if_pos ⟨h0, h1, by rw [lt1000 h2]; trivial⟩]
@[simp] theorem lt_ii : ltAV (.int i) (.int j) h = some (.bl (decide (i < j)), h) := rfl
@[simp] theorem le_ii : leAV (.int i) (.int j) h = some (.bl (decide (i ≤ j)), h) := rfl
@[simp] theorem gt_ii : gtAV (.int i) (.int j) h = some (.bl (decide (j < i)), h) := rfl
@[simp] theorem ge_ii : geAV (.int i) (.int j) h = some (.bl (decide (j ≤ i)), h) := rfl
end
/-- items of a list at a place -/
theorem idx_lst {h : Hep} {n : Nat} {xs : List AV} {i : Int} {v : AV} (e : h[n]? = some (.lst xs)) (k : L2.atI xs i = some v) : idxAV (.ref n) (.int i) h = some (v, h) := by
  simp [idxAV, seqOf, tupOf, lstOf, e, k]
theorem idx_tup {h : Hep} {xs : List AV} {i : Int} {v : AV} (k : L2.atI xs i = some v) : idxAV (.tup xs) (.int i) h = some (v, h) := by
  simp [idxAV, seqOf, tupOf, k]
theorem idx_rol {h : Hep} {xs : List AV} {i : Int} {v : AV} (k : L2.atI xs i = some v) : idxAV (.rol xs) (.int i) h = some (v, h) := by
  simp [idxAV, seqOf, tupOf, lstOf, k]
theorem atI_nat {α : Type} {xs : List α} {n : Nat} {v : α} (e : xs[n]? = some v) : L2.atI xs (n : Int) = some v := by
  obtain ⟨hl, _⟩ := List.getElem?_eq_some_iff.mp e
  unfold L2.atI L2.ixN
  rw [if_pos (by omega), if_pos (by omega)]
  simpa using e
theorem put_lst {h : Hep} {n j : Nat} {xs : List AV} {v : AV} (e : h[n]? = some (.lst xs)) (hj : j < xs.length) : putAV (.ref n) (.int j) v h = some (h.set n (.lst (xs.set j v))) := by
  have : L2.ixN xs.length (j : Int) = some j := by
    unfold L2.ixN
    rw [if_pos (by omega), if_pos (by omega)]
    simp
  simp [putAV, e, this]
@[simp] theorem SZ_eq : SZ = 1000000 := rfl
theorem eq_ii {h : Hep} {i j : Int} : eqAV (.int i) (.int j) h = some (.bl (decide (i = j)), h) := by
  show ((if SeqAt.shaped (.int i) = true ∧ SeqAt.shaped (.int j) = true then some (PyData.eqv (.int i) (.int j)) else none).map fun c => (AV.bl c, h)) = _
  rw [if_pos ⟨rfl, rfl⟩]
  simp [PyData.eqv]
  rfl
theorem Fr.set_new {ex : List Nat} {h h' : Hep} {D : Nat} {o : AO} (f : Fr ex h h') (hD : h.length ≤ D) : Fr ex h (h'.set D o) := ⟨by simpa using f.1, fun i hi he => by
  rw [List.getElem?_set_ne (by omega)]
  exact f.2 i hi he⟩
theorem idx_new {h : Hep} {xs : List AV} {i : Int} {v : AV} (k : L2.atI xs i = some v) : idxAV (.ref h.length) (.int i) (h ++ [.lst xs]) = some (v, h ++ [.lst xs]) := idx_lst (by simp) k

theorem lcL_fix {xs : List AV} {g : DG} {te : DE} {D : Nat} {s0 : Sl} (I : Nat → List AV → Hep → Prop) (hx : xs.length ≤ 100000)
    (step : ∀ i acc h x, xs[i]? = some x → I i acc h → h[D]? = some (.lst acc) → ∃ s1 y h2, g x s0 = some s1 ∧ te s1 h = .ok y h2 ∧ h2[D]? = some (.lst acc) ∧ I (i + 1) (acc ++ [y]) (h2.set D (.lst (acc ++ [y])))) :
    ∀ (k i : Nat) (acc : List AV) (h : Hep), k + i = xs.length → I i acc h → h[D]? = some (.lst acc) → acc.length ≤ i → ∃ acc' h', dLcL (.fix xs) g dYes te D s0 (k + 1) i h = .ok (.ref D) h' ∧ I xs.length acc' h' ∧ h'[D]? = some (.lst acc')
  | k, i, acc, h, e, hI, hD, hl => by
    cases z : xs[i]? with
    | none =>
      have hi := List.getElem?_eq_none_iff.mp z
      have : i = xs.length := by omega
      subst this
      refine ⟨acc, h, ?_, hI, hD⟩
      simp only [dLcL, Src.next, z]
    | some x =>
      obtain ⟨hi, _⟩ := List.getElem?_eq_some_iff.mp z
      obtain ⟨k, rfl⟩ : ∃ m, k = m + 1 := ⟨k - 1, by omega⟩
      obtain ⟨s1, y, h2, e1, e2, e3, hI2⟩ := step i acc h x z hI hD
      have hz : acc.length < SZ := by
        have : SZ = 1000000 := rfl
        omega
      have e4 : addAt D y h2 = some (h2.set D (.lst (acc ++ [y]))) := by
        unfold addAt
        rw [e3]
        exact if_pos hz
      have hD2 : (h2.set D (.lst (acc ++ [y])))[D]? = some (.lst (acc ++ [y])) := by
        rw [List.getElem?_set_self (lt_of e3)]
      obtain ⟨acc', h', r1, r2, r3⟩ := lcL_fix I hx step k (i + 1) (acc ++ [y]) _ (by omega) hI2 hD2 (by simp; omega)
      refine ⟨acc', h', ?_, r2, r3⟩
      unfold dLcL
      simp only [Src.next, z, e1, dYes, R.noX_ok, R.bind_ok, e2, e4]
      exact r1
theorem lc_fix {f : DI} {xs : List AV} {g : DG} {te : DE} {vs : List Nat} {s : Sl} {h h1 : Hep} (I : Nat → List AV → Hep → Prop) (ef : f s h = .ok (.fix xs) h1) (hx : xs.length ≤ 100000) (h0 : I 0 [] (h1 ++ [.lst []]))
    (step : ∀ i acc h x, xs[i]? = some x → I i acc h → h[h1.length]? = some (.lst acc) → ∃ s1 y h2, g x (wipeS s vs) = some s1 ∧ te s1 h = .ok y h2 ∧ h2[h1.length]? = some (.lst acc) ∧ I (i + 1) (acc ++ [y]) (h2.set h1.length (.lst (acc ++ [y])))) :
    ∃ acc h', dLc f g dYes te vs s h = .ok (.ref h1.length) h' ∧ I xs.length acc h' ∧ h'[h1.length]? = some (.lst acc) := by
  obtain ⟨acc, h', e, a, b⟩ := lcL_fix (D := h1.length) (s0 := wipeS s vs) I hx step xs.length 0 [] _ (by omega) h0 (by simp) (by simp)
  refine ⟨acc, h', ?_, a, b⟩
  unfold dLc
  rw [ef]
  exact e
theorem two62 : (1000000 : Int) < 2 ^ 62 := by decide
theorem dRg1_eq {fa : DA} {s : Sl} {h h1 : Hep} {j : Int} (e : fa s h = .ok [.int j] h1) : dRg1 fa s h = if -(2 ^ 62) ≤ j ∧ j < 2 ^ 62 then .ok (.fix (rngL 0 j.toNat)) h1 else .stuck := by
  unfold dRg1
  rw [e]
  rfl
theorem dRg2_eq {fa : DA} {s : Sl} {h h1 : Hep} {i j : Int} (e : fa s h = .ok [.int i, .int j] h1) : dRg2 fa s h = if -(2 ^ 62) ≤ i ∧ i < 2 ^ 62 ∧ -(2 ^ 62) ≤ j ∧ j < 2 ^ 62 then .ok (.fix (rngL i (j - i).toNat)) h1 else .stuck := by
  unfold dRg2
  rw [e]
  rfl
theorem rg1_ok {fa : DA} {s : Sl} {h h1 : Hep} {j : Int} {n : Nat} (e : fa s h = .ok [.int j] h1) (hj : j = n) (hn : n ≤ 1000000) : dRg1 fa s h = .ok (.fix (rngL 0 n)) h1 := by
  subst hj
  rw [dRg1_eq e, if_pos (in_bounds (by omega) (by omega) _ two62), Int.toNat_natCast]
theorem rg2_ok {fa : DA} {s : Sl} {h h1 : Hep} {i j : Int} {n : Nat} (e : fa s h = .ok [.int i, .int j] h1) (hj : (j - i).toNat = n) (hi0 : -1000000 ≤ i) (hi1 : i ≤ 1000000) (hj0 : -1000000 ≤ j) (hj1 : j ≤ 1000000) : dRg2 fa s h = .ok (.fix (rngL i n)) h1 := by
  subst hj
  have a := in_bounds hi0 hi1 _ two62
  have b := in_bounds hj0 hj1 _ two62
  rw [dRg2_eq e, if_pos ⟨a.1, a.2, b.1, b.2⟩]
@[simp] theorem rngL_length {lo : Int} {n : Nat} : (rngL lo n).length = n := by simp [rngL]

/-- data that may be compared -/
def DOk (d : PyData) : Prop := d.canLay0 = true ∧ d.depth < 50
theorem eqD_dr {h : Hep} {a b : AV} {d e : PyData} (ra : Dr h a d) (rb : Dr h b e) (o1 : DOk d) (o2 : DOk e) : eqD a b h = some (PyData.eqv d e) := by
  unfold eqD
  rw [toD_dr ra DD (by have := o1.2; have z : DD = 50 := rfl; omega), toD_dr rb DD (by have := o2.2; have z : DD = 50 := rfl; omega)]
  dsimp only
  rw [if_pos]
  constructor
  · unfold SeqAt.shaped
    rw [o1.1, decide_eq_true (by have := o1.2; omega)]
    rfl
  · unfold SeqAt.shaped
    rw [o2.1, decide_eq_true (by have := o2.2; omega)]
    rfl
theorem eqAV_dr {h : Hep} {a b : AV} {d e : PyData} (ra : Dr h a d) (rb : Dr h b e) (o1 : DOk d) (o2 : DOk e) : eqAV a b h = some (.bl (PyData.eqv d e), h) := by
  unfold eqAV
  rw [eqD_dr ra rb o1 o2]
  rfl
theorem neAV_dr {h : Hep} {a b : AV} {d e : PyData} (ra : Dr h a d) (rb : Dr h b e) (o1 : DOk d) (o2 : DOk e) : neAV a b h = some (.bl (!PyData.eqv d e), h) := by
  unfold neAV
  rw [eqD_dr ra rb o1 o2]
  rfl
/-- things that read as data by a function -/
theorem drA_map {T : Type} {h : Hep} {f : T → AV} {g : T → PyData} (k : ∀ x, Dr h (f x) (g x)) : ∀ l : List T, DrA h (l.map f) (l.map g)
  | [] => .nil
  | x :: l => .cons (k x) (drA_map k l)
theorem eqvAll_map {T : Type} [DecidableEq T] {g : T → PyData} (k : ∀ x y, PyData.eqv (g x) (g y) = decide (x = y)) : ∀ l m : List T, PyData.eqvAll (l.map g) (m.map g) = decide (l = m)
  | [], [] => by simp [PyData.eqvAll]
  | [], _ :: _ => by simp [PyData.eqvAll]
  | _ :: _, [] => by simp [PyData.eqvAll]
  | x :: l, y :: m => by
    simp only [List.map_cons, PyData.eqvAll, k, eqvAll_map k l m, List.cons.injEq, Bool.decide_and]
theorem canAll_map {T : Type} {g : T → PyData} (k : ∀ x, (g x).canLay0 = true) : ∀ l : List T, PyData.canLayAll0 (l.map g) = true
  | [] => by simp [PyData.canLayAll0]
  | x :: l => by simp [PyData.canLayAll0, k x, canAll_map k l]
theorem depthAll_map {T : Type} {g : T → PyData} {n : Nat} (k : ∀ x, (g x).depth ≤ n) : ∀ l : List T, PyData.depthAll (l.map g) ≤ n
  | [] => by simp [PyData.depthAll]
  | x :: l => by
    rw [List.map_cons, depthAll_cons]
    have := k x
    have := depthAll_map k l
    omega
theorem dOk_list {T : Type} {g : T → PyData} {n : Nat} (k : ∀ x, (g x).canLay0 = true) (k2 : ∀ x, (g x).depth ≤ n) (hn : n < 48) (l : List T) : DOk (.list (l.map g)) := by
  refine ⟨?_, ?_⟩
  · rw [PyData.canLay0]
    exact canAll_map k l
  · rw [depth_list]
    have := depthAll_map k2 l
    omega
theorem dOk_tup {T : Type} {g : T → PyData} {n : Nat} (k : ∀ x, (g x).canLay0 = true) (k2 : ∀ x, (g x).depth ≤ n) (hn : n < 48) (l : List T) : DOk (.tuple (l.map g)) := by
  refine ⟨?_, ?_⟩
  · rw [PyData.canLay0]
    exact canAll_map k l
  · rw [depth_tup]
    have := depthAll_map k2 l
    omega
theorem eq_ss {h : Hep} {x y : Str} (o1 : DOk (.str x)) (o2 : DOk (.str y)) : eqAV (.str x) (.str y) h = some (.bl (x == y), h) := by
  rw [eqAV_dr (.str x) (.str y) o1 o2, PyData.eqv]
theorem dOk_str {x : Str} (h : PyData.strOk x = true) : DOk (.str x) := ⟨by rw [PyData.canLay0]; exact h, by rw [PyData.depth]; decide⟩
theorem dOk_int {i : Int} : DOk (.int i) := ⟨by rw [PyData.canLay0], by rw [PyData.depth]; decide⟩
theorem eq_st {h : Hep} {x y : Str} {b : Bool} (o1 : PyData.strOk x = true) (o2 : PyData.strOk y = true) (e : (x == y) = b) : eqAV (.str x) (.str y) h = some (.bl b, h) := by
  rw [eq_ss (dOk_str o1) (dOk_str o2), e]
theorem ne_st {h : Hep} {x y : Str} {b : Bool} (o1 : PyData.strOk x = true) (o2 : PyData.strOk y = true) (e : (!(x == y)) = b) : neAV (.str x) (.str y) h = some (.bl b, h) := by
  rw [neAV_dr (.str x) (.str y) (dOk_str o1) (dOk_str o2), PyData.eqv, e]
theorem in_of {a c : AV} {b : Bool} {h : Hep} (e : inB a c h = some b) : inAV a c h = some (.bl b, h) := by
  unfold inAV
  rw [e]
  rfl
theorem cut_tail {xs : List AV} {k : Nat} : cutA xs (some (k : Int)) none = xs.drop k := by
  unfold cutA
  rw [HT.sIx_none, HT.sIx_nat]
  rcases Nat.lt_or_ge k xs.length with h | h
  · rw [Nat.min_eq_left (by omega), List.take_of_length_le (by simp)]
  · rw [Nat.min_eq_right h, List.drop_of_length_le (Nat.le_refl _), List.drop_of_length_le h, List.take_nil]
theorem cut_head {xs : List AV} {k : Nat} : cutA xs none (some (k : Int)) = xs.take k := by
  unfold cutA
  rw [HT.sIx_none, HT.sIx_nat, List.drop_zero, Nat.sub_zero]
  rcases Nat.lt_or_ge k xs.length with h | h
  · rw [Nat.min_eq_left (by omega)]
  · rw [Nat.min_eq_right h, List.take_of_length_le h, List.take_of_length_le (Nat.le_refl _)]
theorem cut_last {xs : List AV} : cutA xs none (some (-1)) = xs.dropLast := by
  unfold cutA HT.sIx
  simp [List.dropLast_eq_take]
  congr 1
  omega
theorem slice_ref {h : Hep} {n : Nat} {xs : List AV} {lo hi : Option Int} (e : h[n]? = some (.lst xs)) (hz : (cutA xs lo hi).length ≤ SZ) : sliceAV (.ref n) lo hi h = some (.ref h.length, h ++ [.lst (cutA xs lo hi)]) := by
  unfold sliceAV
  simp only [tupOf, lstOf, e]
  exact if_pos hz
theorem len_ref {h : Hep} {n : Nat} {xs : List AV} (e : h[n]? = some (.lst xs)) : lenL [.ref n] h = some (.int (xs.length : Nat), h) := by
  simp [lenL, lenA, e]
theorem mkL_ok {h : Hep} {xs : List AV} (hz : xs.length ≤ SZ) : mkL xs h = some (.ref h.length, h ++ [.lst xs]) := if_pos hz
theorem seq_ref {h : Hep} {n : Nat} {xs : List AV} (e : h[n]? = some (.lst xs)) : seqOf h (.ref n) = some xs := by
  simp [seqOf, tupOf, lstOf, e]
@[simp] theorem new_at {h : Hep} {o : AO} : (h ++ [o])[h.length]? = some o := by simp
def starS (i : Nat) (g : DGs) (s : Sl) (o : Option (List AV)) (h1 : Hep) : SR := match o with
  | some xs => if i ≤ xs.length ∧ xs.length ≤ 10000 then slK1 (g (xs.take i ++ [.ref h1.length]) s) (h1 ++ [.lst (xs.drop i)]) else .stuck
  | none => .stuck
where slK1 (o : Option Sl) (h : Hep) : SR := match o with
  | some s' => .nx s' h
  | none => .stuck
@[simp] theorem starS_some {i : Nat} {g : DGs} {s : Sl} {xs : List AV} {h1 : Hep} : starS i g s (some xs) h1 = if i ≤ xs.length ∧ xs.length ≤ 10000 then starS.slK1 (g (xs.take i ++ [.ref h1.length]) s) (h1 ++ [.lst (xs.drop i)]) else .stuck := rfl
@[simp] theorem slK1_some {s : Sl} {h : Hep} : starS.slK1 (some s) h = .nx s h := rfl
@[simp] theorem xStarS {i : Nat} {f : DE} {g : DGs} {s : Sl} {h : Hep} : dStarS i f g s h = (f s h).st s fun v h1 => starS i g s (tupOf v) h1 := by
  unfold dStarS starS starS.slK1
  rfl
theorem rev_ref {h : Hep} {n : Nat} {xs : List AV} (e : h[n]? = some (.lst xs)) (hz : xs.length ≤ 1000000) : ∃ m g, revAV (.ref n) h = some (.ref m, g) ∧ Fr [] h g ∧ h.length ≤ m ∧ g[m]? = some (.lst xs.reverse) := by
  refine ⟨_, _, ?_, Fr.app, Nat.le_refl _, new_at⟩
  simp only [revAV, lstOf, e]
  exact if_pos (by simpa using hz)
theorem mk_new (xs : List AV) (h : Hep) (hz : xs.length ≤ 1000000) : ∃ m g, mkL xs h = some (.ref m, g) ∧ Fr [] h g ∧ h.length ≤ m ∧ g[m]? = some (.lst xs) := ⟨_, _, mkL_ok hz, Fr.app, Nat.le_refl _, new_at⟩
theorem sl_new {xs : List AV} {h : Hep} {n : Nat} (lo hi : Option Int) (e : h[n]? = some (.lst xs)) (hz : (cutA xs lo hi).length ≤ 1000000) : ∃ m g, sliceAV (.ref n) lo hi h = some (.ref m, g) ∧ Fr [] h g ∧ h.length ≤ m ∧ g[m]? = some (.lst (cutA xs lo hi)) := ⟨_, _, slice_ref e hz, Fr.app, Nat.le_refl _, new_at⟩
theorem add_ll {h : Hep} {m n : Nat} {xs ys : List AV} (e1 : h[m]? = some (.lst xs)) (e2 : h[n]? = some (.lst ys)) (hz : xs.length + ys.length ≤ 1000000) : ∃ k g, addAV (.ref m) (.ref n) h = some (.ref k, g) ∧ Fr [] h g ∧ h.length ≤ k ∧ g[k]? = some (.lst (xs ++ ys)) := by
  refine ⟨_, _, ?_, Fr.app, Nat.le_refl _, new_at⟩
  simp only [addAV, e1, e2]
  exact if_pos (by simpa using hz)
/-- is the list empty -/
theorem eq_nil {T : Type} {f : T → AV} {p : T → PyData} {h : Hep} {m n : Nat} {l : List T} {d : Nat} (kr : ∀ x, Dr h (f x) (p x)) (k1 : ∀ x, (p x).canLay0 = true) (k2 : ∀ x, (p x).depth ≤ d) (hd : d < 48) (e1 : h[m]? = some (.lst (l.map f))) (e2 : h[n]? = some (.lst [])) :
    eqAV (.ref m) (.ref n) h = some (.bl l.isEmpty, h) := by
  rw [eqAV_dr (.ref e1 (drA_map kr l)) (.ref e2 .nil) (dOk_list k1 k2 hd l) ⟨by rw [PyData.canLay0, PyData.canLayAll0], by rw [depth_list, PyData.depthAll]; decide⟩, PyData.eqv]
  cases l <;> simp [PyData.eqvAll]
theorem app_ok {h : Hep} {n : Nat} {xs : List AV} {x : AV} (e : h[n]? = some (.lst xs)) (hz : xs.length < 1000000) : mAppend (.ref n) [x] h = some (.non, h.set n (.lst (xs ++ [x]))) := by
  have hl : lstAt h (.ref n) = some (n, xs) := by simp [lstAt, e]
  unfold mAppend
  rw [hl]
  exact if_pos hz
theorem tyA_lst {h : Hep} {n : Nat} {xs : List AV} (e : h[n]? = some (.lst xs)) : tyA "list" h (.ref n) = true := by
  simp [tyA, e]
theorem mul_ref {h : Hep} {m : Nat} {xs : List AV} {k : Nat} (e : h[m]? = some (.lst xs)) (hk : k ≤ 1000) (hz : xs.length ≤ 1000) : ∃ n g, mulAV (.ref m) (.int k) h = some (.ref n, g) ∧ Fr [] h g ∧ h.length ≤ n ∧ g[n]? = some (.lst (List.replicate k xs).flatten) := by
  have hb := in_bounds (i := (k : Int)) (by omega) (by omega) _ two63
  refine ⟨_, _, ?_, Fr.app, Nat.le_refl _, new_at⟩
  unfold mulAV
  dsimp only
  rw [e]
  dsimp only
  rw [if_pos hb, Int.toNat_natCast]
  refine if_pos ?_
  have hl : (List.replicate k xs).flatten.length = k * xs.length := by simp
  rw [hl]
  calc k * xs.length ≤ 1000 * 1000 := Nat.mul_le_mul hk hz
    _ ≤ SZ := Nat.le_refl _
theorem loop_fix {xs : List AV} {g : DG} {body : DS} (I : Nat → Sl → Hep → Prop) (step : ∀ i s h x, xs[i]? = some x → I i s h → ∃ s1 s2 h2, g x s = some s1 ∧ (body s1 h = .nx s2 h2 ∨ body s1 h = .ct s2 h2) ∧ I (i + 1) s2 h2) :
    ∀ (k i : Nat) (s : Sl) (h : Hep), k + i = xs.length → I i s h → ∃ s' h', dLoop (.fix xs) g body (k + 1) i s h = .nx s' h' ∧ I xs.length s' h'
  | k, i, s, h, e, hI => by
    cases z : xs[i]? with
    | none =>
      have hi := List.getElem?_eq_none_iff.mp z
      have : i = xs.length := by omega
      subst this
      refine ⟨s, h, ?_, hI⟩
      simp only [dLoop, Src.next, z]
    | some x =>
      obtain ⟨hi, _⟩ := List.getElem?_eq_some_iff.mp z
      obtain ⟨k, rfl⟩ : ∃ m, k = m + 1 := ⟨k - 1, by omega⟩
      obtain ⟨s1, s2, h2, e1, e2, hI2⟩ := step i s h x z hI
      obtain ⟨s', h', r1, r2⟩ := loop_fix I step k (i + 1) s2 h2 (by omega) hI2
      refine ⟨s', h', ?_, r2⟩
      unfold dLoop
      simp only [Src.next, z, e1]
      rcases e2 with e2 | e2
      · rw [e2]
        exact r1
      · rw [e2]
        exact r1
theorem for_fix {f : DI} {xs : List AV} {g : DG} {body : DS} {s : Sl} {h h1 : Hep} (I : Nat → Sl → Hep → Prop) (ef : f s h = .ok (.fix xs) h1) (h0 : I 0 s h1)
    (step : ∀ i s h x, xs[i]? = some x → I i s h → ∃ s1 s2 h2, g x s = some s1 ∧ (body s1 h = .nx s2 h2 ∨ body s1 h = .ct s2 h2) ∧ I (i + 1) s2 h2) : ∃ s' h', dFor f g body s h = .nx s' h' ∧ I xs.length s' h' := by
  obtain ⟨s', h', e, r⟩ := loop_fix I step xs.length 0 s h1 (by omega) h0
  refine ⟨s', h', ?_, r⟩
  unfold dFor
  rw [ef]
  exact e
theorem lr2_ok {i j : Int} {n : Nat} {h : Hep} (hj : (j - i).toNat = n) (hi0 : -1000000 ≤ i) (hi1 : i ≤ 1000000) (hj0 : -1000000 ≤ j) (hj1 : j ≤ 1000000) (hn : n ≤ 1000000) : ∃ m g, lr2L [.int i, .int j] h = some (.ref m, g) ∧ Fr [] h g ∧ h.length ≤ m ∧ g[m]? = some (.lst (rngL i n)) := by
  subst hj
  have a := in_bounds hi0 hi1 _ two62
  have b := in_bounds hj0 hj1 _ two62
  exact ⟨_, _, if_pos ⟨a.1, a.2, b.1, b.2, hn⟩, Fr.app, Nat.le_refl _, new_at⟩
end Dn
namespace Dn
open PySem
theorem lcL_if {src : Src} {xs : List AV} {g : DG} {tt : DT} {te : DE} {D : Nat} {s0 : Sl} (I : Nat → List AV → Hep → Prop) (hx : xs.length ≤ 100000) (hs : ∀ i acc h, I i acc h → src.next i h = some xs[i]?)
    (step : ∀ i acc h x, xs[i]? = some x → I i acc h → h[D]? = some (.lst acc) → ∃ s1, g x s0 = some s1 ∧ ((∃ h1, tt s1 h = .ok false h1 ∧ h1[D]? = some (.lst acc) ∧ I (i + 1) acc h1) ∨
      ∃ h1 y h2, tt s1 h = .ok true h1 ∧ te s1 h1 = .ok y h2 ∧ h2[D]? = some (.lst acc) ∧ I (i + 1) (acc ++ [y]) (h2.set D (.lst (acc ++ [y]))))) :
    ∀ (k i : Nat) (acc : List AV) (h : Hep), k + i = xs.length → I i acc h → h[D]? = some (.lst acc) → acc.length ≤ i → ∃ acc' h', dLcL src g tt te D s0 (k + 1) i h = .ok (.ref D) h' ∧ I xs.length acc' h' ∧ h'[D]? = some (.lst acc') ∧ acc'.length ≤ xs.length
  | k, i, acc, h, e, hI, hD, hl => by
    have hn := hs i acc h hI
    cases z : xs[i]? with
    | none =>
      have hi := List.getElem?_eq_none_iff.mp z
      have : i = xs.length := by omega
      subst this
      rw [z] at hn
      refine ⟨acc, h, ?_, hI, hD, hl⟩
      simp only [dLcL, hn]
    | some x =>
      obtain ⟨hi, _⟩ := List.getElem?_eq_some_iff.mp z
      obtain ⟨k, rfl⟩ : ∃ m, k = m + 1 := ⟨k - 1, by omega⟩
      rw [z] at hn
      obtain ⟨s1, e1, c⟩ := step i acc h x z hI hD
      rcases c with ⟨h1, e2, e3, hI2⟩ | ⟨h1, y, h2, e2, e4, e3, hI2⟩
      · obtain ⟨acc', h', r1, r2, r3, r4⟩ := lcL_if I hx hs step k (i + 1) acc h1 (by omega) hI2 e3 (by omega)
        refine ⟨acc', h', ?_, r2, r3, r4⟩
        unfold dLcL
        simp only [hn, e1, e2, R.noX_ok, R.bind_ok]
        exact r1
      · have hz : acc.length < SZ := by
          have : SZ = 1000000 := rfl
          omega
        have e5 : addAt D y h2 = some (h2.set D (.lst (acc ++ [y]))) := by
          unfold addAt
          rw [e3]
          exact if_pos hz
        have hD2 : (h2.set D (.lst (acc ++ [y])))[D]? = some (.lst (acc ++ [y])) := by
          rw [List.getElem?_set_self (lt_of e3)]
        obtain ⟨acc', h', r1, r2, r3, r4⟩ := lcL_if I hx hs step k (i + 1) (acc ++ [y]) _ (by omega) hI2 hD2 (by simp; omega)
        refine ⟨acc', h', ?_, r2, r3, r4⟩
        unfold dLcL
        simp only [hn, e1, e2, R.noX_ok, R.bind_ok, e4, e5]
        exact r1
theorem lc_if {f : DI} {src : Src} {xs : List AV} {g : DG} {tt : DT} {te : DE} {vs : List Nat} {s : Sl} {h h1 : Hep} (I : Nat → List AV → Hep → Prop) (ef : f s h = .ok src h1) (hlen : src.len h1 = xs.length) (hx : xs.length ≤ 100000) (hs : ∀ i acc h, I i acc h → src.next i h = some xs[i]?) (h0 : I 0 [] (h1 ++ [.lst []]))
    (step : ∀ i acc h x, xs[i]? = some x → I i acc h → h[h1.length]? = some (.lst acc) → ∃ s1, g x (wipeS s vs) = some s1 ∧ ((∃ h2, tt s1 h = .ok false h2 ∧ h2[h1.length]? = some (.lst acc) ∧ I (i + 1) acc h2) ∨
      ∃ h2 y h3, tt s1 h = .ok true h2 ∧ te s1 h2 = .ok y h3 ∧ h3[h1.length]? = some (.lst acc) ∧ I (i + 1) (acc ++ [y]) (h3.set h1.length (.lst (acc ++ [y]))))) :
    ∃ acc h', dLc f g tt te vs s h = .ok (.ref h1.length) h' ∧ I xs.length acc h' ∧ h'[h1.length]? = some (.lst acc) ∧ acc.length ≤ xs.length := by
  obtain ⟨acc, h', e, a, b, c⟩ := lcL_if (D := h1.length) (s0 := wipeS s vs) I hx hs step xs.length 0 [] _ (by omega) h0 (by simp) (by simp)
  refine ⟨acc, h', ?_, a, b, c⟩
  unfold dLc
  rw [ef]
  show dLcL src g tt te h1.length (wipeS s vs) (src.len h1 + 1) 0 (h1 ++ [.lst []]) = _
  rw [hlen]
  exact e
theorem loop_ret {src : Src} {xs : List AV} {g : DG} {body : DS} (I : Nat → Sl → Hep → Prop) (T : Nat → AV → Hep → Prop) (hs : ∀ i s h, I i s h → src.next i h = some xs[i]?)
    (step : ∀ i s h x, xs[i]? = some x → I i s h → ∃ s1, g x s = some s1 ∧ ((∃ s2 h2, (body s1 h = .nx s2 h2 ∨ body s1 h = .ct s2 h2) ∧ I (i + 1) s2 h2) ∨ ∃ v h2, body s1 h = .rt v h2 ∧ T i v h2)) :
    ∀ (k i : Nat) (s : Sl) (h : Hep), k + i = xs.length → I i s h → (∃ s' h', dLoop src g body (k + 1) i s h = .nx s' h' ∧ I xs.length s' h') ∨ ∃ j v h', dLoop src g body (k + 1) i s h = .rt v h' ∧ T j v h' ∧ j < xs.length
  | k, i, s, h, e, hI => by
    have hn := hs i s h hI
    cases z : xs[i]? with
    | none =>
      have hi := List.getElem?_eq_none_iff.mp z
      have : i = xs.length := by omega
      subst this
      rw [z] at hn
      refine .inl ⟨s, h, ?_, hI⟩
      simp only [dLoop, hn]
    | some x =>
      obtain ⟨hi, _⟩ := List.getElem?_eq_some_iff.mp z
      obtain ⟨k, rfl⟩ : ∃ m, k = m + 1 := ⟨k - 1, by omega⟩
      rw [z] at hn
      obtain ⟨s1, e1, c⟩ := step i s h x z hI
      rcases c with ⟨s2, h2, e2, hI2⟩ | ⟨v, h2, e2, t⟩
      · rcases loop_ret I T hs step k (i + 1) s2 h2 (by omega) hI2 with ⟨s', h', r1, r2⟩ | ⟨j, v, h', r1, r2, r3⟩
        · refine .inl ⟨s', h', ?_, r2⟩
          unfold dLoop
          simp only [hn, e1]
          rcases e2 with e2 | e2
          · rw [e2]
            exact r1
          · rw [e2]
            exact r1
        · refine .inr ⟨j, v, h', ?_, r2, r3⟩
          unfold dLoop
          simp only [hn, e1]
          rcases e2 with e2 | e2
          · rw [e2]
            exact r1
          · rw [e2]
            exact r1
      · refine .inr ⟨i, v, h2, ?_, t, hi⟩
        unfold dLoop
        simp only [hn, e1, e2]
        rfl
theorem for_ret {f : DI} {src : Src} {xs : List AV} {g : DG} {body : DS} {s : Sl} {h h1 : Hep} (I : Nat → Sl → Hep → Prop) (T : Nat → AV → Hep → Prop) (ef : f s h = .ok src h1) (hlen : src.len h1 = xs.length) (hs : ∀ i s h, I i s h → src.next i h = some xs[i]?) (h0 : I 0 s h1)
    (step : ∀ i s h x, xs[i]? = some x → I i s h → ∃ s1, g x s = some s1 ∧ ((∃ s2 h2, (body s1 h = .nx s2 h2 ∨ body s1 h = .ct s2 h2) ∧ I (i + 1) s2 h2) ∨ ∃ v h2, body s1 h = .rt v h2 ∧ T i v h2)) :
    (∃ s' h', dFor f g body s h = .nx s' h' ∧ I xs.length s' h') ∨ ∃ j v h', dFor f g body s h = .rt v h' ∧ T j v h' ∧ j < xs.length := by
  have z := loop_ret I T hs step xs.length 0 s h1 (by omega) h0
  have e : dFor f g body s h = dLoop src g body (xs.length + 1) 0 s h1 := by
    unfold dFor
    rw [ef, R.st_ok, hlen]
  rw [e]
  exact z
theorem next_at {n i : Nat} {xs : List AV} {h : Hep} (e : h[n]? = some (.lst xs)) : (Src.at n).next i h = some xs[i]? := by
  simp [Src.next, e]
theorem len_at {n : Nat} {xs : List AV} {h : Hep} (e : h[n]? = some (.lst xs)) : (Src.at n).len h = xs.length := by
  simp [Src.len, e]
theorem src_ref {f : DE} {s : Sl} {h h1 : Hep} {n : Nat} {xs : List AV} (ef : f s h = .ok (.ref n) h1) (e : h1[n]? = some (.lst xs)) : dSrc f s h = .ok (.at n) h1 := by
  simp [dSrc, ef, e]
end Dn
namespace Dn
open PySem PySem.Spec PyProof.Rows L2

theorem ptW {X : Cx} {e : Expr} {t : TT} (h : PW X e t) : PT X e t := h.pt
/-- the instance: its place, its class, its attributes -/
def insAt (h : Hep) (a : AV) : Option (Nat × Nat × List (Nat × AV)) := match a with
  | .ref n => match h[n]? with
    | some (.ins t fs) => some (n, t, fs)
    | _ => none
  | _ => none
section
variable {W : Wd} {io : List Addr} {hp : Hep} {H : Hp}
theorem insAt_in {a : AV} {x : V} {n t : Nat} {fs : List (Nat × AV)} (e : insAt hp a = some (n, t, fs)) (rl : Rl W io hp H) (r : RV W io H a x) :
    ∃ p dx vs, x = .ref p ∧ a = .ref n ∧ io[n]? = some p ∧ hp[n]? = some (.ins t fs) ∧ H p = some (.ins (W.cl t) dx vs) ∧ RFs W io H fs vs ∧ W.ct.kit t = true := by
  cases r with
  | @ref m p hi =>
    unfold insAt at e
    dsimp only at e
    cases z : hp[m]? with
    | none =>
      rw [z] at e
      cases e
    | some o =>
      rw [z] at e
      cases o with
      | ins t' fs' =>
        have e' : (m, t', fs') = (n, t, fs) := Option.some.inj e
        cases e'
        obtain ⟨dx, vs, e1, e2, e3⟩ := rl.ins hi z
        exact ⟨p, dx, vs, rfl, rfl, hi, z, e1, e2, e3⟩
      | _ => cases e
  | _ => cases e
end

def fldK (j : Nat) (o : Option (Nat × Nat × List (Nat × AV))) (h : Hep) : R AV := match o with
  | some (_, _, fs) => (match fget fs j with
    | some v => .ok v h
    | none => .stuck)
  | none => .stuck
def dFld (j : Nat) (f : DE) : DE := fun s h => (f s h).bind fun a h1 => fldK j (insAt h1 a) h1
def setfK (s : Sl) (j : Nat) (v : AV) (o : Option (Nat × Nat × List (Nat × AV))) (h : Hep) : SR := match o with
  | some (n, t, fs) => if fs.length < 900 then .nx s (h.set n (.ins t (fput fs j v))) else .stuck
  | none => .stuck
def dSetF (j : Nat) (fo fv : DE) : DS := fun s h => (fv s h).st s fun v h1 => (fo s h1).st s fun o h2 => setfK s j v (insAt h2 o) h2
def chkT (t : Nat) (o : Option (Nat × Nat × List (Nat × AV))) : Option (Nat × Nat × List (Nat × AV)) := match o with
  | some (n, t', fs) => if t' = t then some (n, t', fs) else none
  | none => none
def augK (r : D2) (s : Sl) (j : Nat) (fv : DE) (o : AV) (h : Hep) : SR := match insAt h o with
  | some (_, t, fs) => (match fget fs j with
    | some x => (fv s h).st s fun y h2 => match r x y h2 with
      | some (z, h3) => setfK s j z (chkT t (insAt h3 o)) h3
      | none => .stuck
    | none => .stuck)
  | none => .stuck
def dAugF (r : D2) (j : Nat) (fo fv : DE) : DS := fun s h => (fo s h).st s fun o h1 => augK r s j fv o h1
section
variable {W : Wd} {M : Md W} {E : WX} {X : Cx} {e o value : Expr} {f fo fv : DE} {x : Str} {j : Nat} {pos pos' tpos : Pos}
theorem fldD (hK : X.K = W.K) (hj : W.fn[j]? = some x) (he : PE X e (tD W M E f)) (hb : attributeBase e x X.env (eval e X.env) = eval e X.env := by rfl) : PE X (.Attribute e x pos) (tD W M E (dFld j f)) := peI (pe_fld he hb) fun σ H Q h => by
  obtain ⟨io, hp, as, rl, S, P⟩ := h
  refine (step (rh := RV W) (f := f) rl S P).imp fun v H1 ⟨io2, hp2, a, e2, rl2, ra, P2⟩ => ?_
  cases z : insAt hp2 a with
  | none =>
    rw [z] at P2
    exact P2.elim
  | some q =>
    obtain ⟨n, t, fs⟩ := q
    rw [z] at P2
    obtain ⟨p, dx, vs, rfl, rfl, hi, hh, ea, rf, hk⟩ := insAt_in z rl2 ra
    have P3 : Pst W (RV W) E σ Q io2 H1 (match fget fs j with
      | some v => .ok v hp2
      | none => .stuck) := P2
    cases z2 : fget fs j with
    | none =>
      rw [z2] at P3
      exact P3.elim
    | some y =>
      rw [z2] at P3
      obtain ⟨v, l, rv⟩ := rf.get hj z2
      refine ⟨p, W.cl t, dx, vs, v, rfl, ea, ?_, ?_, l, P3.ok rl2 rv⟩
      · rw [hK]
        exact W.cks t hk
      · rw [hK]
        exact W.noat t x hk (List.mem_of_getElem? hj)
theorem setF_at {D : Ends} {σ : L2.St} {io : List Addr} {hp : Hep} {H : Hp} {as : Sl} {a y : AV} {xv yv : V} (hj : W.fn[j]? = some x) (rl : Rl W io hp H) (S : M.rel io H as σ) (ra : RV W io H a xv) (ry : RV W io H y yv) (P : Pss W M E D io H (setfK as j y (insAt hp a) hp)) :
    ∃ p t dx vs, xv = .ref p ∧ H p = some (.ins (W.cl t) dx vs) ∧ W.ct.kit t = true ∧ vs.length < 1000 ∧ D.nx σ (upd H p (.ins (W.cl t) dx (putF x yv vs))) := by
  cases z : insAt hp a with
  | none =>
    rw [z] at P
    exact P.elim
  | some q =>
    obtain ⟨n, t, fs⟩ := q
    rw [z] at P
    obtain ⟨p, dx, vs, rfl, rfl, hi, hh, ea, rf, hk⟩ := insAt_in z rl ra
    have P2 : Pss W M E D io H (if fs.length < 900 then .nx as (hp.set n (.ins t (fput fs j y))) else .stuck) := P
    by_cases hl : fs.length < 900
    · rw [if_pos hl] at P2
      have eS : Ext W io H io (upd H p (.ins (W.cl t) dx (putF x yv vs))) := Ext.set _ ea trivial
      refine ⟨p, t, dx, vs, rfl, ea, hk, by rw [← rf.len]; omega, ?_⟩
      exact P2 io _ σ eS (rl.set hi ea trivial (.ins hk ((rf.put hj ry).mono eS))) (M.mono eS S)
    · rw [if_neg hl] at P2
      exact P2.elim
theorem sSetF (hK : X.K = W.K) (hj : W.fn[j]? = some x) (ho : PE X o (tD W M E fo)) (hv : PE X value (tD W M E fv)) (hs : swapsWith value (some (.Attribute o x pos')) pos.line X.env = pure false := by rfl) : PS X (.Assign [.Attribute o x pos'] value pos) (tS W M E (dSetF j fo fv)) := psI (ps_fld ho hv hs) fun D σ H h => by
  obtain ⟨io, hp, as, rl, S, P⟩ := h
  refine (stepS (rh := RV W) (f := fv) rl S P).imp fun yv H1 ⟨io2, hp2, y, e2, rl2, ry, P2⟩ => ?_
  refine (stepS (rh := RV W) (f := fo) rl2 (M.mono e2 S) P2).imp fun xv H3 ⟨io3, hp3, a, e3, rl3, ra, P3⟩ => ?_
  obtain ⟨p, t, dx, vs, e1, ea, hk, hl, q⟩ := setF_at hj rl3 (M.mono e3 (M.mono e2 S)) ra (ry.mono e3) P3
  refine ⟨p, W.cl t, dx, vs, e1, ea, ?_, ?_, hl, q⟩
  · rw [hK]
    exact W.cks t hk
  · rw [hK]
    exact W.noat t x hk (List.mem_of_getElem? hj)
/-- numbers alone -/
def addII : D2 := fun a b h => match a, b with
  | .int i, .int j => some (.int (i + j), h)
  | _, _ => none
def subII : D2 := fun a b h => match a, b with
  | .int i, .int j => some (.int (i - j), h)
  | _, _ => none
theorem inAdd : InOp X .Add (t2 W addII) := fun pins s σ H x y u v Q I rx ry ⟨io, hp, a, b, rl, ra, rb, P⟩ => by
  refine in_add pins s σ H x y u v Q I rx ry ?_
  cases a with
  | int i =>
    cases b with
    | int j => exact ⟨i, j, ra.int_inv, rb.int_inv, P.ok rl (.int _)⟩
    | _ => exact P.elim
  | _ => exact P.elim
theorem inSub : InOp X .Sub (t2 W subII) := fun pins s σ H x y u v Q I rx ry ⟨io, hp, a, b, rl, ra, rb, P⟩ => by
  refine in_sub pins s σ H x y u v Q I rx ry ?_
  cases a with
  | int i =>
    cases b with
    | int j => exact ⟨i, j, ra.int_inv, rb.int_inv, P.ok rl (.int _)⟩
    | _ => exact P.elim
  | _ => exact P.elim
theorem ipAdd : PIp X .Add (t2 W addII) := fun pins s σ H x y u v Q I rx ry h => inAdd pins s σ H x y u v Q I rx ry h
theorem ipSub : PIp X .Sub (t2 W subII) := fun pins s σ H x y u v Q I rx ry h => inSub pins s σ H x y u v Q I rx ry h
theorem sAugF {r : D2} {op : Operator} (hop : InOp X op (t2 W r)) (hK : X.K = W.K) (hj : W.fn[j]? = some x) (ho : PE X o (tD W M E fo)) (hv : PE X value (tD W M E fv)) : PS X (.AugAssign (.Attribute o x tpos) op value pos) (tS W M E (dAugF r j fo fv)) := psI (ps_fldaug ho hv hop) fun D σ H h => by
  obtain ⟨io, hp, as, rl, S, P⟩ := h
  refine (stepS (rh := RV W) (f := fo) rl S P).imp fun xv H1 ⟨io2, hp2, a, e2, rl2, ra, P2⟩ => ?_
  unfold augK at P2
  cases z : insAt hp2 a with
  | none =>
    rw [z] at P2
    exact P2.elim
  | some q =>
    obtain ⟨n, t, fs⟩ := q
    rw [z] at P2
    obtain ⟨p, dx, vs, rfl, rfl, hi, hh, ea, rf, hk⟩ := insAt_in z rl2 ra
    dsimp only at P2
    cases z2 : fget fs j with
    | none =>
      rw [z2] at P2
      exact P2.elim
    | some y =>
      rw [z2] at P2
      obtain ⟨v, l, rv⟩ := rf.get hj z2
      refine ⟨p, W.cl t, dx, vs, v, rfl, ea, ?_, ?_, l, ?_⟩
      · rw [hK]
        exact W.cks t hk
      · rw [hK]
        exact W.noat t x hk (List.mem_of_getElem? hj)
      · refine (stepS (rh := RV W) (f := fv) rl2 (M.mono e2 S) P2).imp fun yv H3 ⟨io3, hp3, b, e3, rl3, rb, P3⟩ => ?_
        refine ⟨io3, hp3, y, b, rl3, rv.mono e3, rb, ?_⟩
        cases z3 : r y b hp3 with
        | none =>
          rw [z3] at P3
          exact P3.elim
        | some q =>
          obtain ⟨w, hp4⟩ := q
          rw [z3] at P3
          intro io4 H4 wv e4 rl4 rw4
          have ra4 : RV W io4 H4 (.ref n) (.ref p) := ra.mono (e3.trans e4)
          have P4 : Pss W M E D io4 H4 (setfK as j w (chkT t (insAt hp4 (.ref n))) hp4) := Pss.later P3 e4
          cases z4 : insAt hp4 (.ref n) with
          | none =>
            rw [z4] at P4
            exact P4.elim
          | some q4 =>
            obtain ⟨n4, t4, fs4⟩ := q4
            rw [z4] at P4
            by_cases ht : t4 = t
            · subst ht
              have P5 : Pss W M E D io4 H4 (setfK as j w (insAt hp4 (.ref n)) hp4) := by
                rw [z4]
                unfold chkT at P4
                dsimp only at P4
                rw [if_pos rfl] at P4
                exact P4
              obtain ⟨p', t', dx', vs', e1, ea', hk', hl', q'⟩ := setF_at hj rl4 (M.mono (e2.trans (e3.trans e4)) S) ra4 rw4 P5
              cases e1
              obtain ⟨p5, dx5, vs5, e5, _, _, _, ea5, _, _⟩ := insAt_in z4 rl4 ra4
              cases e5
              have eo := Option.some.inj (ea'.symm.trans ea5)
              have ec : W.cl t' = W.cl t4 := by
                injection eo
              rw [ec] at ea' q'
              exact ⟨dx', vs', ea', hl', q'⟩
            · unfold chkT at P4
              dsimp only at P4
              rw [if_neg ht] at P4
              exact P4.elim

def dAug (r : D2) (i : Nat) (fv : DE) : DS := fun s h => match s[i]? with
  | some (some a) => if a.nx = true then (fv s h).st s fun b h1 => match r a b h1 with
    | some (z, h2) => .nx (s.set i (some z)) h2
    | none => .stuck else .stuck
  | _ => .stuck
theorem sAug {r : D2} {op : Operator} {i : Nat} (hop : PIp X op (t2 W r)) (hN : X.N.Nodup) (hi : X.N[i]? = some x) (hx : Loc X.env.scope x) (hv : PE X value (tD W M E fv)) (hm : M.ok i)
    (hf : X.fn x = true ∨ X.env.scope.names.lookup x = some .local := by first | exact .inl rfl | exact .inr rfl | assumption) : PS X (.AugAssign (.Name x pos') op value pos) (tS W M E (dAug r i fv)) := psI (ps_aug hN hi hx hv hop hf) fun D σ H h => by
  obtain ⟨io, hp, as, rl, S, P⟩ := h
  unfold dAug at P
  cases z : as[i]? with
  | none =>
    rw [z] at P
    exact P.elim
  | some o =>
    cases o with
    | none =>
      rw [z] at P
      exact P.elim
    | some a =>
      rw [z] at P
      dsimp only at P
      by_cases hn : a.nx = true
      · rw [if_pos hn] at P
        obtain ⟨v, e1, rv⟩ := M.var S z fun t fs q => by
          subst q
          cases hn
        refine ⟨v, e1, ?_⟩
        refine (stepS (rh := RV W) (f := fv) rl S P).imp fun yv H3 ⟨io3, hp3, b, e3, rl3, rb, P3⟩ => ?_
        refine ⟨io3, hp3, a, b, rl3, rv.mono e3, rb, ?_⟩
        cases z3 : r a b hp3 with
        | none =>
          rw [z3] at P3
          exact P3.elim
        | some q =>
          obtain ⟨w, hp4⟩ := q
          rw [z3] at P3
          exact fun io4 H4 wv e4 rl4 rw4 => P3 io4 H4 _ e4 rl4 (M.set (M.mono (e3.trans e4) S) rw4 hm)
      · rw [if_neg hn] at P
        exact P.elim
end

/-- class t has the method m, at a def of the text -/
def HasM (P : Program) (w : World) (mg : Str → Option Value) (base : Heap) (W : Wd) (k : Nat) (t : Nat) (x : Str) (ps : List Str) (n : Nat) (F : DF) (bs : Bs) : Prop :=
  ∃ (a : Addr) (fd : FuncData), Meth W.K (W.cl t) x a ∧ FnOk P w W.K mg base (L2.CX P w) k a fd ps (spD W n F) ∧ ∀ b ∈ bs, BnD W fd ps b.1 b.2.1 b.2.2.1 b.2.2.2
def methK (t : Nat) (F : DF) (n m q : Nat) (ix : List Nat) (dfl : List AV) (fa fk : DA) (s : Sl) (o : AV) (h : Hep) : R AV := match insAt h o with
  | some (_, t', _) => if t' = t then (fa s h).bind fun a h1 => (fk s h1).bind fun b h2 => if a.length = n ∧ b.length = m ∧ (sel ix (o :: a ++ dfl ++ b)).length = q then F (sel ix (o :: a ++ dfl ++ b)) h2 else .stuck else .stuck
  | none => .stuck
def dMeth (t : Nat) (F : DF) (n m q : Nat) (ix : List Nat) (dfl : List AV) (fo : DE) (fa fk : DA) : DE := fun s h => (fo s h).bind fun o h1 => methK t F n m q ix dfl fa fk s o h1
section
variable {W : Wd} {M : Md W} {E : WX} {X : Cx} {k j n m q t : Nat} {f : Addr} {fd : FuncData} {ps ks : List Str} {F : DF} {x : Str} {p pos apos kpos : Pos} {e o : Expr} {es : List Expr} {kws : List Keyword} {fa fk : DA} {fe fo : DE} {ix : List Nat} {dfl : List AV} {bs : Bs}
theorem meth_in {σ : L2.St} {H : Hp} {Q : VK} (h : tD W M E (dMeth t F n m j ix dfl fo fa fk) σ H Q) :
    tD W M E fo σ H fun xv H0 => ∃ p dx vs, xv = .ref p ∧ H0 p = some (.ins (W.cl t) dx vs) ∧ W.ct.kit t = true ∧ (∀ y : Str, y ∉ W.fn → vs.lookup y = none) ∧
      tDA W M E fa σ H0 fun vs H1 => tDA W M E fk σ H1 fun zs H2 => vs.length = n ∧ zs.length = m ∧ ∀ gV : List V → List V → List V, (∀ io H as bs vs zs, RVs W io H as vs → RVs W io H bs zs → RVs W io H (sel ix (as ++ dfl ++ bs)) (gV vs zs)) → spD W j F (gV (xv :: vs) zs) H2 Q (WE E σ) := by
  obtain ⟨io, hp, as, rl, S, P⟩ := h
  refine (step (rh := RV W) (f := fo) rl S P).imp fun xv H0 ⟨io1, hp1, a0, e1, rl1, ra0, P1⟩ => ?_
  unfold methK at P1
  cases z : insAt hp1 a0 with
  | none =>
    rw [z] at P1
    exact P1.elim
  | some q =>
    obtain ⟨n', t', fs⟩ := q
    rw [z] at P1
    dsimp only at P1
    by_cases ht : t' = t
    · subst ht
      rw [if_pos rfl] at P1
      obtain ⟨p, dx, vs, rfl, rfl, hi, hh, ea, rf, hk⟩ := insAt_in z rl1 ra0
      refine ⟨p, dx, vs, rfl, ea, hk, fun y hy => rf.no hy, ?_⟩
      refine (step (rh := RVs W) (f := fa) rl1 (M.mono e1 S) P1).imp fun vs H1 ⟨io2, hp2, a, e2, rl2, ra, P2⟩ => ?_
      refine (step (rh := RVs W) (f := fk) rl2 (M.mono (e1.trans e2) S) P2).imp fun zs H4 ⟨io5, hp5, b, e5, rl5, rb, P5⟩ => ?_
      by_cases hc : a.length = n ∧ b.length = m ∧ (sel ix (.ref n' :: a ++ dfl ++ b)).length = j
      · rw [if_pos hc] at P5
        have ra' := ra.mono e5
        have rs : RV W io5 H4 (.ref n') (.ref p) := ra0.mono (e2.trans e5)
        exact ⟨ra'.len.symm.trans hc.1, rb.len.symm.trans hc.2.1, fun gV hg => call_at (a := .ref n' :: a) rl5 (.cons rs ra') rb hg hc.2.2 P5⟩
      · rw [if_neg hc] at P5
        exact P5.elim
    · rw [if_neg ht] at P1
      exact P1.elim
theorem methD {pl : Sem Bool} (H : HasM X.prog X.w X.mg X.base W j t x ps n F bs) (i : Nat) (hi : bs[i]? = some (m + 1, ks, ix, dfl)) (hq : ks.length = q) (hr : Room k X.A) (hj : j ≤ k) (hK : X.K = W.K) (hx : x ∉ W.fn) (tk : Takes X E)
    (ho : PE X o (tD W M E fo)) (ha : PA X (e :: es) (tDA W M E fa)) (hkw : PK X kws (tDA W M E fk)) (hall : (backToKw pos (keywordEach kws X.env)).all (·.1.isSome) = true := by rfl) (hks : (backToKw pos (keywordEach kws X.env)).filterMap (·.1) = ks := by rfl)
    (he : starEach (e :: es) X.env = (false, eval e X.env) :: starEach es X.env := by rfl)
    (hpl : ((backTo pos (starEach (e :: es) X.env)).any (·.1) || (backToKw pos (keywordEach kws X.env)).any (·.1.isNone)) = false := by rfl)
    (ht : eval (.Call (.Attribute o x apos) (e :: es) kws pos) X.env = (do
      let ov ← eval o X.env
      standAt apos.atName
      let (f, first) ← holding [ov] (getMethod ov x pl)
      callWith pos f first (backTo pos (starEach (e :: es) X.env)) (backToKw pos (keywordEach kws X.env))) := by rfl) :
    PE X (.Call (.Attribute o x apos) (e :: es) kws pos) (tD W M E (dMeth t F m q n ix dfl fo fa fk)) := by
  subst hq
  obtain ⟨a, fd, hm, hF, hb⟩ := H
  obtain ⟨g, gV, kb, hg2⟩ := hb _ (List.mem_of_getElem? hi)
  dsimp only at kb
  rw [← hK] at kb hm hF
  refine ⟨fun pins s σ H Q I h => ?_⟩
  refine PySem.W.methodCall_KW (pl := pl) (thn (ho.run pins s σ H _ I (meth_in h)) fun u s1 ⟨xv, H1, I1, rx, p, dx, vs, ex, ea, hk, hl, q⟩ => ?_) ht
  subst ex
  obtain rfl : u = Value.ref p := rx
  refine getmeth_ok I1 ea (by rw [hK]; exact W.cks t hk) hm (hl x hx) ?_
  refine PySem.W.callWith_KW (first := [.ref p]) (h₀ := X.base) I.ok.mod.kin hm.kp hall (thn (ha.run pos pins s1 σ H1 _ I1 q) fun us s2 ⟨vs2, H2, I2, r, q2⟩ => ?_) hpl he
  refine thn (hkw.run pos pins s2 σ H2 _ I2 q2) fun ws s3 ⟨zs, H3, I3, rz, l1, l2, q3⟩ => ⟨I3.kIn, ?_⟩
  rw [hks]
  exact run_gen (n := m + 1) hF (hr.mono hj) kb tk I3 (us := .ref p :: us) (vs := .ref p :: vs2) (.cons rfl r) rz (by simp [l1]) l2 (q3 gV hg2)
theorem methD0 {pl : Sem Bool} (H : HasM X.prog X.w X.mg X.base W j t x ps n F bs) (i : Nat) (hi : bs[i]? = some (1, ks, ix, dfl)) (hq : ks.length = q) (hr : Room k X.A) (hj : j ≤ k) (hK : X.K = W.K) (hx : x ∉ W.fn) (tk : Takes X E)
    (ho : PE X o (tD W M E fo)) (hkw : PK X kws (tDA W M E fk)) (hall : (backToKw pos (keywordEach kws X.env)).all (·.1.isSome) = true := by rfl) (hks : (backToKw pos (keywordEach kws X.env)).filterMap (·.1) = ks := by rfl)
    (hpl : ((backTo pos (starEach [] X.env)).any (·.1) || (backToKw pos (keywordEach kws X.env)).any (·.1.isNone)) = false := by rfl)
    (ht : eval (.Call (.Attribute o x apos) [] kws pos) X.env = (do
      let ov ← eval o X.env
      standAt apos.atName
      let (f, first) ← holding [ov] (getMethod ov x pl)
      callWith pos f first (backTo pos (starEach [] X.env)) (backToKw pos (keywordEach kws X.env))) := by rfl) :
    PE X (.Call (.Attribute o x apos) [] kws pos) (tD W M E (dMeth t F 0 q n ix dfl fo dNil fk)) := by
  subst hq
  obtain ⟨a, fd, hm, hF, hb⟩ := H
  obtain ⟨g, gV, kb, hg2⟩ := hb _ (List.mem_of_getElem? hi)
  dsimp only at kb
  rw [← hK] at kb hm hF
  refine ⟨fun pins s σ H Q I h => ?_⟩
  refine PySem.W.methodCall_KW (pl := pl) (thn (ho.run pins s σ H _ I (meth_in h)) fun u s1 ⟨xv, H1, I1, rx, p, dx, vs, ex, ea, hk, hl, q⟩ => ?_) ht
  subst ex
  obtain rfl : u = Value.ref p := rx
  refine getmeth_ok I1 ea (by rw [hK]; exact W.cks t hk) hm (hl x hx) ?_
  refine PySem.W.callWith_KW0 (first := [.ref p]) (h₀ := X.base) I.ok.mod.kin hm.kp hall ?_ hpl
  refine thn (hkw.run pos pins s1 σ H1 _ I1 (nil_in q)) fun ws s3 ⟨zs, H3, I3, rz, l1, l2, q3⟩ => ⟨I3.kIn, ?_⟩
  rw [hks]
  exact run_gen (n := 1) hF (hr.mono hj) kb tk I3 (us := [.ref p]) (vs := [.ref p]) (.cons rfl .nil) rz rfl l2 (q3 gV hg2)
end
end Dn
namespace Dn
open PySem PySem.Spec PyProof.Rows L2

/-- one or the other -/
def altK {T : Type} (r : R T) (k : R T) : R T := match r with
  | .stuck => k
  | _ => r
def dAlt (f g : DE) : DE := fun s h => altK (f s h) (g s h)
section
variable {W : Wd} {M : Md W} {E : WX} {X : Cx} {e : Expr} {f g : DE}
theorem altD (h1 : PE X e (tD W M E f)) (h2 : PE X e (tD W M E g)) : PE X e (tD W M E (dAlt f g)) := ⟨fun pins s σ H Q I h => by
  obtain ⟨io, hp, as, rl, S, P⟩ := h
  have P' : Pst W (RV W) E σ Q io H (altK (f as hp) (g as hp)) := P
  cases z : f as hp with
  | ok a h' =>
    rw [z] at P'
    exact h1.run pins s σ H Q I ⟨io, hp, as, rl, S, by rw [z]; exact P'⟩
  | exc t fs h' =>
    rw [z] at P'
    exact h1.run pins s σ H Q I ⟨io, hp, as, rl, S, by rw [z]; exact P'⟩
  | stuck =>
    rw [z] at P'
    exact h2.run pins s σ H Q I ⟨io, hp, as, rl, S, P'⟩⟩
end

theorem run_sp {W : Wd} {E : WX} {X : Cx} {A' : Around} {j n : Nat} {f : Addr} {fd : FuncData} {ps : List Str} {F : DF} {ix : List Nat} {pins : List (Addr × Obj)} {σ : L2.St} {H : Hp} {s : Shared} {Q : VK} {us : List Value} {vs : List V} {as : List AV} {io : List Addr} {hp : Hep}
    (hF : FnOk X.prog X.w X.K X.mg X.base (L2.CX X.prog X.w) j f fd ps (spD W n F)) (hr : Room j A') (e0 : Env0 X.prog X.w X.K X.mg X.base A' X.stack s H) (hb : BnD W fd ps n [] ix []) (hK : X.K = W.K) (tk : Takes X E)
    (I : Inv X pins σ H s) (r : Vals vs us) (rl : Rl W io hp H) (ra : RVs W io H as vs) (hn : as.length = n) (hs : sel ix (as ++ [] ++ []) = as) (P : Pst W (RV W) E σ Q io H (F as hp)) : wpAny (model X.prog X.w) A' (call (.ref f) us) (EP X pins σ Q) X.xe s := by
  obtain ⟨g, gV, kb, hg⟩ := hb
  rw [← hK] at kb
  have hl : vs.length = n := ra.len.symm.trans hn
  have r2 := kb.rel r (.nil : Vals [] [])
  have q : spD W n F (gV vs []) H Q (WE E σ) := call_at (dfl := []) rl ra .nil hg (by rw [hs]; exact hn) (by rw [hs]; exact P)
  refine wpAny_call (codeAny_mono (hF.run A' X.stack s H ⟨us, []⟩ (g us []) (gV vs []) Q (WE E σ) hr e0 (kb.to s us [] I.kIn (r.length.symm.trans hl) rfl) r2 q) fun r s' hq => ?_)
  cases r with
  | error e => exact passAt tk σ pins H s e s' I hq
  | ok fl =>
    cases fl with
    | ret u => exact I.after hq
    | next => exact False.elim hq
    | brk => exact False.elim hq
    | cont => exact False.elim hq
/-- the class and the type of a method's def -/
theorem HasM.fnIn0 {K : PySem.W.Frag} {x qual : Str} {params : Arguments} {body : List Stmt} {scope : Scope} {dvs : List V} {kws : List (Str × V)} {f : Addr} {fd : FuncData} (F : FunD K x qual params body scope dvs kws f fd) : PySem.W.fnIn K f = true := by
  obtain ⟨oc, od, dV, kV, doc, pm, an, cdv, ct, osl, rfl, lk, _⟩ := F.ex
  unfold PySem.W.fnIn
  rw [lk]
def isT (h : Hep) (t : Nat) (a : AV) : Bool := match insAt h a with
  | some (_, t', _) => t' == t
  | none => false
theorem isT_in {W : Wd} {io : List Addr} {hp : Hep} {H : Hp} {a : AV} {x : V} {t : Nat} (e : isT hp t a = true) (rl : Rl W io hp H) (r : RV W io H a x) : ∃ p dx vs, x = .ref p ∧ H p = some (.ins (W.cl t) dx vs) ∧ W.ct.kit t = true := by
  unfold isT at e
  cases z : insAt hp a with
  | none =>
    rw [z] at e
    cases e
  | some q =>
    obtain ⟨n, t', fs⟩ := q
    rw [z] at e
    have et : t' = t := beq_iff_eq.mp e
    subst et
    obtain ⟨p, dx, vs, rfl, rfl, hi, hh, ea, rf, hk⟩ := insAt_in z rl r
    exact ⟨p, dx, vs, rfl, ea, hk⟩
theorem inst_of {X : Cx} {pins : List (Addr × Obj)} {σ : L2.St} {H : Hp} {s : Shared} {p C dx : Addr} {vs : List (Str × V)} (I : Inv X pins σ H s) (ea : H p = some (.ins C dx vs)) : ∃ od, PySem.W.InstAt s.heap p (PySem.W.instObj C dx) C (some od) := by
  obtain ⟨mA, O, _⟩ := ins_get I.hok ea
  obtain ⟨od, J, _⟩ := O.look
  exact ⟨od, J⟩
section
variable {W : Wd} {M : Md W} {E : WX} {X : Cx} {k j n t : Nat} {ps : List Str} {F : DF} {x : Str} {p pos apos : Pos} {e e' o : Expr} {f g fo : DE}
def lenK (v : AV) (h : Hep) : R AV := match v with
  | .int i => if 0 ≤ i ∧ i ≤ 1000000000 then .ok (.int i) h else .stuck
  | _ => .stuck
def lenOK (t : Nat) (F : DF) (as : List AV) (h : Hep) : R AV := match as with
  | [o] => if isT h t o = true then (F [o] h).bind lenK else .stuck
  | _ => .stuck
def dLenO (t : Nat) (F : DF) (fa : DA) : DE := fun s h => (fa s h).bind fun as h1 => lenOK t F as h1
theorem lenOD {es : List Expr} {fa : DA} (H : HasO X.prog X.w X.mg X.base W j t "__len__" ps 1 F) (hr : Room k X.A) (hj : j + 1 ≤ k) (hK : X.K = W.K) (tk : Takes X E) (hm : X.mg "len" = none) (ho : PA X (o :: es) (tDA W M E fa)) (hg : Gl X "len" := by rfl)
    (he : starEach (o :: es) X.env = (false, eval o X.env) :: starEach es X.env := by rfl) (hpl : (backTo pos (starEach es X.env)).any (·.1) = false := by rfl) : PE X (.Call (.Name "len" p) (o :: es) [] pos) (tD W M E (dLenO t F fa)) := by
  obtain ⟨a, fd, hm', hfi, hF, hb⟩ := H
  rw [← hK] at hm' hF
  refine ⟨fun pins s σ H Q I h => ?_⟩
  obtain ⟨io, hp, as, rl, S, P⟩ := h
  refine wpAny_Call_Name_kw (ld_blt I hg hm bt_len ?_ (by decide) (by decide))
  refine PyProof.Rows.callWith_builtin1 (thn (ho.run pos pins s σ H _ I (step (rh := RVs W) (f := fa) rl S P)) fun us s1 ⟨xv, H1, I1, rx, io1, hp1, a1, e1, rl1, ra1, P1⟩ => ?_) he hpl
  match a1, ra1, P1 with
  | [], .nil, P1 => exact P1.elim
  | _ :: _ :: _, .cons _ (.cons _ _), P1 => exact P1.elim
  | [a1], .cons (v := xv) ra1 .nil, P1 =>
  obtain ⟨u, rfl, rx2⟩ : ∃ u, us = [u] ∧ L2.RelV xv u := by
    cases rx with
    | cons r t =>
      cases t
      exact ⟨_, rfl, r⟩
  have P1' : Pst W (RV W) E σ Q io1 H1 (if isT hp1 t a1 = true then (F [a1] hp1).bind lenK else .stuck) := P1
  by_cases ht : isT hp1 t a1 = true
  · rw [if_pos ht] at P1'
    obtain ⟨q, dx, vs, rfl, ea, hk⟩ := isT_in ht rl1 ra1
    obtain rfl : u = Value.ref q := rx2
    obtain ⟨od, J⟩ := inst_of I1 ea
    obtain ⟨mm, fr⟩ := I1.fr
    refine PySem.W.len_K fr I1.ok.mod.kin J hm'.at_ hm'.fn ?_
    refine wpAny_mono (run_sp hF (hr.mono hj).in1 I1.env0.in1 hb hK tk I1 (vs := [.ref q]) (.cons rfl .nil) rl1 (.cons ra1 .nil) rfl rfl (P1'.imp (rh' := RV W) (Q' := fun y H2 => ∃ i, y = .int i ∧ (0 ≤ i ∧ i ≤ 1000000000) ∧ Q (.int i) H2) fun io2 H2 b hp2 y e2 rl2 rb P2 => ?_)) (fun v s2 ⟨y, H2, I2, ry, i, ei, hi, q2⟩ => ?_) fun _ _ z => z
    · cases b with
      | int i =>
        have P3 : Pst W (RV W) E σ Q io2 H2 (if 0 ≤ i ∧ i ≤ 1000000000 then .ok (.int i) hp2 else .stuck) := P2
        by_cases hi : 0 ≤ i ∧ i ≤ 1000000000
        · rw [if_pos hi] at P3
          exact ⟨i, rb.int_inv, hi, P3.ok rl2 (.int i)⟩
        · rw [if_neg hi] at P3
          exact P3.elim
      | _ => exact P2.elim
    · subst ei
      obtain ⟨tk', rfl⟩ := (show ∃ t, v = Value.int i t from ry)
      exact ⟨⟨hi.1, by have := hi.2; omega⟩, .int i, H2, I2.tok _, ⟨_, rfl⟩, q2⟩
  · rw [if_neg ht] at P1'
    exact P1'.elim
def altX (r r' : DX) : DX := fun a b h => altK (r a b h) (r' a b h)
def dOpX (r : DX) (f g : DE) : DE := fun s h => (f s h).bind fun a h1 => (g s h1).bind fun b h2 => r a b h2
variable {G : Value → Value → Sem Value} {r r' : DX}
theorem OpX.alt (h : OpX X W E G r) (h' : OpX X W E G r') : OpX X W E G (altX r r') := fun pins s σ H io hp a b xv yv v u Q I rx ry rl ra rb P => by
  have P' : Pst W (RV W) E σ Q io H (altK (r a b hp) (r' a b hp)) := P
  cases z : r a b hp with
  | ok c h1 =>
    rw [z] at P'
    exact h pins s σ H io hp a b xv yv v u Q I rx ry rl ra rb (by rw [z]; exact P')
  | exc t fs h1 =>
    rw [z] at P'
    exact h pins s σ H io hp a b xv yv v u Q I rx ry rl ra rb (by rw [z]; exact P')
  | stuck =>
    rw [z] at P'
    exact h' pins s σ H io hp a b xv yv v u Q I rx ry rl ra rb P'
theorem binX {op : Operator} (ho : OpX X W E (binaryOp op) r) (ha : PE X e (tD W M E f)) (hb : PE X e' (tD W M E g)) : PE X (.BinOp e op e' pos) (tD W M E (dOpX r f g)) := by
  refine ⟨fun pins s σ H0 Q I h => ?_⟩
  obtain ⟨io, hp, as, rl, S, P⟩ := h
  refine wpAny_BinOp (thn (ha.run pins s σ H0 _ I (step (rh := RV W) (f := f) rl S P)) fun v s1 ⟨xv, H1, I1, rx, io1, hp1, a1, e1, rl1, ra1, P1⟩ => ?_)
  refine thn (hb.run pins s1 σ H1 _ I1 (step (rh := RV W) (f := g) rl1 (M.mono e1 S) P1)) fun u s2 ⟨yv, H2, I2, ry, io2, hp2, a2, e2, rl2, ra2, P2⟩ => ?_
  exact ho pins s2 σ H2 io2 hp2 a1 a2 xv yv v u Q I2 rx ry rl2 (ra1.mono e2) ra2 P2
theorem cmpX {op : CmpOp} (ho : OpX X W E (compareOp op) r) (ha : PE X e (tD W M E f)) (hb : PE X e' (tD W M E g)) (hmk : behindInMarks op e' = false) : PE X (.Compare e [op] [e'] pos) (tD W M E (dOpX r f g)) := by
  refine ⟨fun pins s σ H0 Q I h => ?_⟩
  obtain ⟨io, hp, as, rl, S, P⟩ := h
  refine wpAny_Compare1 (thn (ha.run pins s σ H0 _ I (step (rh := RV W) (f := f) rl S P)) fun v s1 ⟨xv, H1, I1, rx, io1, hp1, a1, e1, rl1, ra1, P1⟩ => ?_) hmk
  refine thn (hb.run pins s1 σ H1 _ I1 (step (rh := RV W) (f := g) rl1 (M.mono e1 S) P1)) fun u s2 ⟨yv, H2, I2, ry, io2, hp2, a2, e2, rl2, ra2, P2⟩ => ?_
  exact ho pins s2 σ H2 io2 hp2 a1 a2 xv yv v u Q I2 rx ry rl2 (ra1.mono e2) ra2 P2
theorem cmpXT {op : CmpOp} (ho : OpX X W E (compareOp op) r) (ha : PE X e (tD W M E f)) (hb : PE X e' (tD W M E g)) (hmk : behindInMarks op e' = false) : PT X (.Compare e [op] [e'] pos) (tDT W M E (dTst (dOpX r f g))) := by
  refine ⟨fun pins s σ H0 Q I h => ?_⟩
  have h1 : tB (tD W M E (dOpX r f g)) σ H0 Q := tst_in h
  obtain ⟨io, hp, as, rl, S, P⟩ := h1
  refine wpAny_isTrue_Compare1 (thn (ha.run pins s σ H0 _ I (step (rh := RV W) (f := f) rl S P)) fun v s1 ⟨xv, H1, I1, rx, io1, hp1, a1, e1, rl1, ra1, P1⟩ => ?_) hmk
  refine thn (hb.run pins s1 σ H1 _ I1 (step (rh := RV W) (f := g) rl1 (M.mono e1 S) P1)) fun u s2 ⟨yv, H2, I2, ry, io2, hp2, a2, e2, rl2, ra2, P2⟩ => ?_
  refine thn (ho pins s2 σ H2 io2 hp2 a1 a2 xv yv v u _ I2 rx ry rl2 (ra1.mono e2) ra2 P2) fun c s3 ⟨z, H3, I3, r3, b, eb, q3⟩ => ?_
  subst eb
  obtain rfl : c = Value.bool b := r3
  exact wpAny_truthy_bool ⟨H3, I3, q3⟩
def blK (b : Bool) (v : AV) (h : Hep) : R AV := match v with
  | .bl c => .ok (.bl (if b = true then c else !c)) h
  | _ => .stuck
def inOK (b : Bool) (t : Nat) (F : DF) : DX := fun k o h => if isT h t o = true then (F [o, k] h).bind (blK b) else .stuck
theorem bl_end {Q : VK} {σ : L2.St} {io2 : List Addr} {H2 : Hp} {c : Bool} {b : AV} {hp2 : Hep} {y : V} (rl2 : Rl W io2 hp2 H2) (rb : RV W io2 H2 b y) (P2 : Pst W (RV W) E σ Q io2 H2 (blK c b hp2)) : ∃ d, y = .bl d ∧ Q (.bl (if c = true then d else !d)) H2 := by
  cases b with
  | bl d => exact ⟨d, rb.bl_inv, P2.ok rl2 (.bl _)⟩
  | _ => exact P2.elim
theorem inX (H : HasO X.prog X.w X.mg X.base W j t "__contains__" ps 2 F) (hr : Room k X.A) (hj : j ≤ k) (hK : X.K = W.K) (tk : Takes X E) : OpX X W E (compareOp .In) (inOK true t F) := by
  obtain ⟨a, fd, hm', hfi, hF, hb⟩ := H
  rw [← hK] at hm' hF
  intro pins s2 σ H2 io2 hp2 a1 a2 xv yv v u Q I2 rx ry rl2 ra1 ra2 P2
  unfold inOK at P2
  by_cases ht : isT hp2 t a2 = true
  · rw [if_pos ht] at P2
    obtain ⟨q, dx, vs, rfl, ea, hk⟩ := isT_in ht rl2 ra2
    obtain rfl : u = Value.ref q := ry
    obtain ⟨od, J⟩ := inst_of I2 ea
    obtain ⟨mm, fr⟩ := I2.fr
    refine PySem.W.in_K fr I2.ok.mod.kin J hm'.at_ hm'.fn ?_
    refine wpAny_mono (run_sp hF (hr.mono hj) I2.env0 hb hK tk I2 (vs := [.ref q, xv]) (.cons rfl (.cons rx .nil)) rl2 (.cons ra2 (.cons ra1 .nil)) rfl rfl (P2.imp (rh' := RV W) fun io3 H3 b hp3 y e3 rl3 rb P3 => bl_end rl3 rb P3)) (fun v s3 ⟨y, H3, I3, ry, d, ed, q3⟩ => ?_) fun _ _ z => z
    subst ed
    obtain rfl : v = Value.bool d := ry
    exact wpAny_truthy_bool ⟨.bl d, H3, I3, rfl, by simpa using q3⟩
  · rw [if_neg ht] at P2
    exact P2.elim
theorem ninX (H : HasO X.prog X.w X.mg X.base W j t "__contains__" ps 2 F) (hr : Room k X.A) (hj : j ≤ k) (hK : X.K = W.K) (tk : Takes X E) : OpX X W E (compareOp .NotIn) (inOK false t F) := by
  obtain ⟨a, fd, hm', hfi, hF, hb⟩ := H
  rw [← hK] at hm' hF
  intro pins s2 σ H2 io2 hp2 a1 a2 xv yv v u Q I2 rx ry rl2 ra1 ra2 P2
  unfold inOK at P2
  by_cases ht : isT hp2 t a2 = true
  · rw [if_pos ht] at P2
    obtain ⟨q, dx, vs, rfl, ea, hk⟩ := isT_in ht rl2 ra2
    obtain rfl : u = Value.ref q := ry
    obtain ⟨od, J⟩ := inst_of I2 ea
    obtain ⟨mm, fr⟩ := I2.fr
    refine PySem.W.notIn_K fr I2.ok.mod.kin J hm'.at_ hm'.fn ?_
    refine wpAny_mono (run_sp hF (hr.mono hj) I2.env0 hb hK tk I2 (vs := [.ref q, xv]) (.cons rfl (.cons rx .nil)) rl2 (.cons ra2 (.cons ra1 .nil)) rfl rfl (P2.imp (rh' := RV W) fun io3 H3 b hp3 y e3 rl3 rb P3 => bl_end rl3 rb P3)) (fun v s3 ⟨y, H3, I3, ry, d, ed, q3⟩ => ?_) fun _ _ z => z
    subst ed
    obtain rfl : v = Value.bool d := ry
    exact wpAny_truthy_bool ⟨.bl (!d), H3, I3, rfl, by simpa using q3⟩
  · rw [if_neg ht] at P2
    exact P2.elim
def ixOK (t : Nat) (F : DF) : DX := fun o i h => if isT h t o = true then F [o, i] h else .stuck
theorem IxX.alt (h : IxX X W E r) (h' : IxX X W E r') : IxX X W E (altX r r') := fun value slice pins s σ H io hp a b xv yv v u Q I rx ry rl ra rb P h1 h2 => by
  have P' : Pst W (RV W) E σ Q io H (altK (r a b hp) (r' a b hp)) := P
  cases z : r a b hp with
  | ok c h3 =>
    rw [z] at P'
    exact h value slice pins s σ H io hp a b xv yv v u Q I rx ry rl ra rb (by rw [z]; exact P') h1 h2
  | exc t fs h3 =>
    rw [z] at P'
    exact h value slice pins s σ H io hp a b xv yv v u Q I rx ry rl ra rb (by rw [z]; exact P') h1 h2
  | stuck =>
    rw [z] at P'
    exact h' value slice pins s σ H io hp a b xv yv v u Q I rx ry rl ra rb P' h1 h2
theorem ixX (H : HasO X.prog X.w X.mg X.base W j t "__getitem__" ps 2 F) (hr : Room k X.A) (hj : j + 1 ≤ k) (hK : X.K = W.K) (tk : Takes X E) : IxX X W E (ixOK t F) := by
  obtain ⟨a, fd, hm', hfi, hF, hb⟩ := H
  rw [← hK] at hm' hF hfi
  intro value slice pins s2 σ H2 io2 hp2 a1 a2 xv yv v u Q I2 rx ry rl2 ra1 ra2 P2 h1 h2
  unfold ixOK at P2
  by_cases ht : isT hp2 t a1 = true
  · rw [if_pos ht] at P2
    obtain ⟨q, dx, vs, rfl, ea, hk⟩ := isT_in ht rl2 ra1
    obtain rfl : v = Value.ref q := rx
    obtain ⟨od, J⟩ := inst_of I2 ea
    obtain ⟨mm, fr⟩ := I2.fr
    refine PySem.W.sub_K fr I2.ok.mod.kin J hm'.at_ hfi hm'.fn ?_ h2
    exact run_sp hF (hr.mono hj).in1 I2.env0.in1 hb hK tk I2 (vs := [.ref q, yv]) (.cons rfl (.cons ry .nil)) rl2 (.cons ra1 (.cons ra2 .nil)) rfl rfl P2
  · rw [if_neg ht] at P2
    exact P2.elim
theorem ixXD (hx : IxX X W E r) (ho : PE X o (tD W M E fo)) (hi : PE X e (tD W M E f)) (h1 : ∀ o i, subscripted e false o i = operate [o, i] (getItem o i) := by intro _ _; rfl) (h2 : ∀ o i, subscripted e true o i = runValue (.builtin "lifetime.subscript" ⟨[o, i], []⟩) := by intro _ _; rfl) :
    PE X (.Subscript o e pos) (tD W M E (dOpX r fo f)) := by
  refine ⟨fun pins s σ H Q I h => ?_⟩
  obtain ⟨io, hp, as, rl, S, P⟩ := h
  refine Subscript_ (thn (ho.run pins s σ H _ I (step (rh := RV W) (f := fo) rl S P)) fun v s1 ⟨xv, H1, I1, rx, io1, hp1, a1, e1, rl1, ra1, P1⟩ => ?_)
  refine thn (hi.run pins s1 σ H1 _ I1 (step (rh := RV W) (f := f) rl1 (M.mono e1 S) P1)) fun u s2 ⟨yv, H2, I2, ry, io2, hp2, a2, e2, rl2, ra2, P2⟩ => ?_
  exact hx o e pins s2 σ H2 io2 hp2 a1 a2 xv yv v u Q I2 rx ry rl2 (ra1.mono e2) ra2 P2 (h1 _ _) (h2 _ _)
def dPutO (t : Nat) (F : DF) (fo fi fv : DE) : DS := fun s h => (fv s h).st s fun v h1 => (fo s h1).st s fun o h2 => (fi s h2).st s fun i h3 => if isT h3 t o = true then (F [o, i, v] h3).st s fun _ h4 => .nx s h4 else .stuck
theorem Pss.exp {D : Ends} {σ : L2.St} {as : Sl} {T U : Type} {rh : Rel T U} {Q' : U → Hp → Prop} {io : List Addr} {H : Hp} {r : R T} {k : T → Hep → SR} (S : M.rel io H as σ) (h : Pss W M E D io H (r.st as k))
    (i : ∀ io1 H1 a hp1 x, Ext W io H io1 H1 → Rl W io1 hp1 H1 → rh io1 H1 a x → Pss W M E D io1 H1 (k a hp1) → Q' x H1) : Pst W rh E σ Q' io H r := by
  cases r with
  | ok v hp => exact fun io' H' x e rl q => i io' H' v hp x e rl q (Pss.later h e)
  | exc t fs hp => exact fun io' H' c d e' r' q => h io' H' σ c d e' r' (M.mono e' S) q
  | stuck => exact h
theorem putOD {v i : Expr} {fv fi : DE} {p : Pos} (H : HasO X.prog X.w X.mg X.base W j t "__setitem__" ps 3 F) (hr : Room k X.A) (hj : j ≤ k) (hK : X.K = W.K) (tk : Takes X E) (ho : PE X o (tD W M E fo)) (hi : PE X i (tD W M E fi)) (hv : PE X v (tD W M E fv))
    (hs : swapsWith v (some (.Subscript o i p)) pos.line X.env = pure false := by rfl) : PS X (.Assign [.Subscript o i p] v pos) (tS W M E (dPutO t F fo fi fv)) := by
  obtain ⟨a, fd, hm', hfi, hF, hb⟩ := H
  rw [← hK] at hm' hF
  refine ⟨fun pins s σ H D I ⟨io, hp, as, rl, S, P⟩ => ?_⟩
  refine wpAny_Assign_Subscript (thn (hv.run pins s σ H _ I (stepS (rh := RV W) (f := fv) rl S P)) fun uv s1 ⟨xv, H1, I1, rv, io1, hp1, a1, e1, rl1, r1, P1⟩ => ?_) hs
  refine thn (ho.run pins s1 σ H1 _ I1 (stepS (rh := RV W) (f := fo) rl1 (M.mono e1 S) P1)) fun uo s2 ⟨xo, H2, I2, ro, io2, hp2, a2, e2, rl2, r2, P2⟩ => ?_
  refine thn (hi.run pins s2 σ H2 _ I2 (stepS (rh := RV W) (f := fi) rl2 (M.mono (e1.trans e2) S) P2)) fun ui s3 ⟨xi, H3, I3, ri, io3, hp3, a3, e3, rl3, r3, P3⟩ => ?_
  have S3 := M.mono ((e1.trans e2).trans e3) S
  by_cases ht : isT hp3 t a2 = true
  · rw [if_pos ht] at P3
    obtain ⟨q, dx, vs, rfl, ea, hk⟩ := isT_in ht rl3 (r2.mono e3)
    obtain rfl : uo = Value.ref q := ro
    obtain ⟨od, J⟩ := inst_of I3 ea
    obtain ⟨mm, fr⟩ := I3.fr
    have cb := W.cb t hk
    rw [← hK] at cb
    refine PySem.W.ksp_setItem fr I3.ok.mod.kin J (He.ba cb).1 hm'.at_ hm'.fn ?_
    refine wpAny_mono (run_sp (Q := fun _ H' => D.nx σ H') hF (hr.mono hj) I3.env0 hb hK tk I3 (vs := [.ref q, xi, xv]) (.cons rfl (.cons ri (.cons rv .nil))) rl3 (.cons (r2.mono e3) (.cons r3 (.cons (r1.mono (e2.trans e3)) .nil))) rfl rfl
      (Pss.exp (rh := RV W) S3 P3 fun io4 H4 b hp4 y e4 rl4 rb P4 => P4 io4 H4 σ Ext.refl rl4 (M.mono e4 S3))) (fun w s4 ⟨y, H4, I4, ry, q4⟩ => ⟨σ, H4, I4, q4⟩) fun _ _ z => z
  · rw [if_neg ht] at P3
    exact P3.elim
end
end Dn
namespace Dn
open PySem PySem.Spec PyProof.Rows L2

theorem kind_gt0 : builtinKind "object.__gt__" = some .slot := by decide +kernel
theorem kind_ge0 : builtinKind "object.__ge__" = some .slot := by decide +kernel
theorem split_gt0 : splitId "object.__gt__" = some ("object", "__gt__") := by decide +kernel
theorem split_ge0 : splitId "object.__ge__" = some ("object", "__ge__") := by decide +kernel
section
variable {M : Model} {prog : Program} {w : World} {A : Around} {E : Value → Shared → Prop} {s : Shared} {K : PySem.W.Frag} {x C f : Addr} {ox : Obj} {od : Option Obj} {b tb : Value}
theorem ifBound_ob {name : Str} {id : String} (S : Slot "object" name id) {args : List Value} {Q : Option Value → Shared → Prop} (X : K.In s.heap) (I : PySem.W.InstAt s.heap x ox C od) (hs : PySem.W.findIn K (.ref C) name = some (some (.builtin id)))
    (h : wpAny M A (call (.builtin id) (.ref x :: args)) (fun v => Q (some v)) E s) : wpAny M A (callSpecialIfBound? (.ref x) name args) Q E s := by
  simp only [callSpecialIfBound?, bindSpecialIfBound?]
  refine wpAny_holding (wpAny_bind (wpAny_bind (wpAny_bind (I.type.here ((PySem.W.looks_findIn X hs).here ?_)))))
  refine wpAny_bind (wpAny_askSetting (wpAny_ite ?_))
  have fin : wpAny M A (call (.builtin id) ([.ref x] ++ args) >>= fun v => pure (some v)) Q E s := wpAny_bind (wpAny_mono h (fun v s' h' => wpAny_pure h') fun _ _ h' => h')
  split
  · exact wpAny_bind (wpAny_of_eq (S.bind _) (wpAny_pure (by exact fin)))
  · exact wpAny_tryCatch (wpAny_bind (wpAny_of_eq (S.bind _) (wpAny_pure (by exact fin))))
/-- a != b by a's own __eq__ -/
theorem try_ne {Q : Option Value → Shared → Prop} (hu : A.units + 1 < cLine) (X : K.In s.heap) (I : PySem.W.InstAt s.heap x ox C od) (hm : PySem.W.mroIn K C (.type "object") = some true) (hne : PySem.W.findIn K (.ref C) "__ne__" = some (some (.builtin "object.__ne__")))
    (hs : PySem.W.findIn K (.ref C) "__eq__" = some (some (.ref f))) (hf : PySem.W.isFn K (.ref f) = true)
    (h : wpAny (model prog w) A.in1 (call (.ref f) [.ref x, b]) (fun v s' => ∃ c, v = .bool c ∧ Q (some (.bool (!c))) s') E s) : wpAny (model prog w) A (tryCompare (.ref x) "__ne__" b) Q E s := by
  unfold tryCompare
  refine wpAny_bind (ifBound_ob F.cmp_object.ne X I hne (wpAny_call (codeAny_call_builtin F.cmp_object.ne.plain F.cmpEntry_ne (PySem.W.check_slot F.cmpKind_ne F.cmpSplit_ne (I.type.andThen (PySem.W.looks_mroIn X hm)) (F.cmpArgs_ne _ _) ?_))))
  have hu' : A.in1.units < cLine := hu
  unfold Builtin.«object.__ne__»
  repeat (first
    | with_reducible refine wpAny_cRoomFor hu' ?_
    | (refine wpAny_bind (m := callSpecialIfBound? (.ref x) (Str.ofString "__eq__") [b]) (PySem.W.ifBound_K X I hs hf (wpAny_mono h (fun r s' hr => by
          obtain ⟨c, rfl, hq⟩ := hr
          repeat (first | exact hq | exact wpAny_pure hq | exact wpAny_truthy_bool hq | (refine wpAny_bind (m := truthy (.bool _)) (wpAny_truthy_bool ?_)) | wp_step)) fun _ _ e => e)))
    | wp_step)
theorem try_gt {Q : Option Value → Shared → Prop} (X : K.In s.heap) (I : PySem.W.InstAt s.heap x ox C od) (hm : PySem.W.mroIn K C (.type "object") = some true) (hne : PySem.W.findIn K (.ref C) "__gt__" = some (some (.builtin "object.__gt__")))
    (h : Q none s) : wpAny (model prog w) A (tryCompare (.ref x) "__gt__" b) Q E s := by
  unfold tryCompare
  refine wpAny_bind (ifBound_ob F.slot_object_gt X I hne (wpAny_call (codeAny_call_builtin F.slot_object_gt.plain F.entry_object_gt (PySem.W.check_slot kind_gt0 split_gt0 (I.type.andThen (PySem.W.looks_mroIn X hm)) (F.args_object_gt_2 _ _) ?_))))
  show wpAny _ _ (slotArgs "__gt__" 1 ⟨[.ref x, b], []⟩ >>= fun _ => ret .notImplemented) _ _ _
  exact wpAny_pure (wpAny_pure h)
theorem try_ge {Q : Option Value → Shared → Prop} (X : K.In s.heap) (I : PySem.W.InstAt s.heap x ox C od) (hm : PySem.W.mroIn K C (.type "object") = some true) (hne : PySem.W.findIn K (.ref C) "__ge__" = some (some (.builtin "object.__ge__")))
    (h : Q none s) : wpAny (model prog w) A (tryCompare (.ref x) "__ge__" b) Q E s := by
  unfold tryCompare
  refine wpAny_bind (ifBound_ob F.slot_object_ge X I hne (wpAny_call (codeAny_call_builtin F.slot_object_ge.plain F.entry_object_ge (PySem.W.check_slot kind_ge0 split_ge0 (I.type.andThen (PySem.W.looks_mroIn X hm)) (F.args_object_ge_2 _ _) ?_))))
  show wpAny _ _ (slotArgs "__ge__" 1 ⟨[.ref x, b], []⟩ >>= fun _ => ret .notImplemented) _ _ _
  exact wpAny_pure (wpAny_pure h)
/-- the first try answers -/
theorem rich_first {op : CmpOp} {Q : Value → Shared → Prop} (hu : A.units < cLine) (X : K.In s.heap) (I : PySem.W.InstAt s.heap x ox C od) (hb : PySem.W.Looks (model prog w) s.heap (typeOf b) tb) (hn : PySem.W.notFirst K C tb = true)
    (one : wpAny (model prog w) A (tryCompare (.ref x) (cmpInfo op).2.1 b) (fun r s' => ∃ v, r = some v ∧ Q v s') E s) : wpAny (model prog w) A (richCompare op (.ref x) b) Q E s := by
  unfold richCompare
  simp only [oneThing_ref]
  refine wpAny_holding (wpAny_bind (wpAny_cRoomFor hu ?_))
  refine wpAny_bind (I.type.here (wpAny_bind (hb.here ?_)))
  split
  · rename_i q
    have e : PySem.W.subIn K tb (.ref C) = some false := by
      rcases Bool.or_eq_true_iff.mp hn with e | e
      · rw [beq_iff_eq.mp e] at q; simp at q
      · exact beq_iff_eq.mp e
    refine wpAny_bind ((PySem.W.looks_subIn X e).here ?_)
    simp only [Bool.false_eq_true, if_false]
    refine wpAny_bind (wpAny_mono one (fun r s' z => ?_) fun _ _ e => e)
    obtain ⟨v, rfl, hq⟩ := z
    exact wpAny_pure hq
  · refine wpAny_bind (wpAny_pure ?_)
    simp only [Bool.false_eq_true, if_false]
    refine wpAny_bind (wpAny_mono one (fun r s' z => ?_) fun _ _ e => e)
    obtain ⟨v, rfl, hq⟩ := z
    exact wpAny_pure hq
/-- the first try declines, the second one answers -/
theorem rich_second {op : CmpOp} {Q : Value → Shared → Prop} (hu : A.units < cLine) (X : K.In s.heap) (I : PySem.W.InstAt s.heap x ox C od) (hb : PySem.W.Looks (model prog w) s.heap (typeOf b) tb) (hn : PySem.W.notFirst K C tb = true)
    (one : ∀ (Q : Option Value → Shared → Prop), Q none s → wpAny (model prog w) A (tryCompare (.ref x) (cmpInfo op).2.1 b) Q E s)
    (two : wpAny (model prog w) A (tryCompare b (cmpInfo op).2.2 (.ref x)) (fun r s' => ∃ v, r = some v ∧ Q v s') E s) : wpAny (model prog w) A (richCompare op (.ref x) b) Q E s := by
  have fin : wpAny (model prog w) A (tryCompare (.ref x) (cmpInfo op).2.1 b) (fun r s' => r = none ∧ s' = s) E s := one _ ⟨rfl, rfl⟩
  unfold richCompare
  simp only [oneThing_ref]
  refine wpAny_holding (wpAny_bind (wpAny_cRoomFor hu ?_))
  refine wpAny_bind (I.type.here (wpAny_bind (hb.here ?_)))
  split
  · rename_i q
    have e : PySem.W.subIn K tb (.ref C) = some false := by
      rcases Bool.or_eq_true_iff.mp hn with e | e
      · rw [beq_iff_eq.mp e] at q; simp at q
      · exact beq_iff_eq.mp e
    refine wpAny_bind ((PySem.W.looks_subIn X e).here ?_)
    simp only [Bool.false_eq_true, if_false, Bool.not_false, if_true]
    refine wpAny_bind (wpAny_mono fin (fun r s' z => ?_) fun _ _ e => e)
    obtain ⟨rfl, rfl⟩ := z
    refine wpAny_bind (wpAny_mono two (fun r s' z => ?_) fun _ _ e => e)
    obtain ⟨v, rfl, hq⟩ := z
    exact wpAny_pure hq
  · refine wpAny_bind (wpAny_pure ?_)
    simp only [Bool.false_eq_true, if_false, Bool.not_false, if_true]
    refine wpAny_bind (wpAny_mono fin (fun r s' z => ?_) fun _ _ e => e)
    obtain ⟨rfl, rfl⟩ := z
    refine wpAny_bind (wpAny_mono two (fun r s' z => ?_) fun _ _ e => e)
    obtain ⟨v, rfl, hq⟩ := z
    exact wpAny_pure hq
theorem try_own {name : Str} {Q : Value → Shared → Prop} (X : K.In s.heap) (I : PySem.W.InstAt s.heap x ox C od) (hs : PySem.W.findIn K (.ref C) name = some (some (.ref f))) (hf : PySem.W.isFn K (.ref f) = true)
    (h : wpAny (model prog w) A (call (.ref f) [.ref x, b]) (PySem.W.CmpBack Q) E s) : wpAny (model prog w) A (tryCompare (.ref x) name b) (fun r s' => ∃ v, r = some v ∧ Q v s') E s := by
  unfold tryCompare
  refine wpAny_bind (PySem.W.ifBound_K X I hs hf (wpAny_mono h (fun v s' hv => ?_) fun _ _ e => e))
  cases v <;> first | exact hv.elim | exact wpAny_pure ⟨_, rfl, hv⟩
end
end Dn
namespace Dn
open PySem PySem.Spec PyProof.Rows L2
/-- the right operand does not come first -/
def okR (ct : CT) (t : Nat) (o : Option TW) : Bool := match o with
  | some (.ty _) => true
  | some (.cls s) => s == t || !ct.sub s t
  | none => false
section
variable {W : Wd} {M : Md W} {E : WX} {X : Cx} {k j n t : Nat} {ps : List Str} {F : DF} {x : Str} {p pos apos : Pos} {e e' o : Expr} {f g fo : DE}
theorem clsB_in {t : Nat} (hk : W.ct.kit t = true) : PySem.W.noSeq W.K (W.cl t) = true ∧ PySem.W.selfFirst W.K (W.cl t) = true ∧ (∀ n ∈ tyNames, PySem.W.subIn W.K (.type n) (.ref (W.cl t)) = some false) ∧
    PySem.W.findIn W.K (.ref (W.cl t)) "__ne__" = some (some (.builtin "object.__ne__")) ∧ PySem.W.findIn W.K (.ref (W.cl t)) "__gt__" = some (some (.builtin "object.__gt__")) ∧ PySem.W.findIn W.K (.ref (W.cl t)) "__ge__" = some (some (.builtin "object.__ge__")) := by
  obtain ⟨h1, h⟩ := He.ba (W.cb t hk)
  obtain ⟨h2, h⟩ := He.ba h
  obtain ⟨h3, h⟩ := He.ba h
  obtain ⟨h4, h⟩ := He.ba h
  obtain ⟨h5, h6⟩ := He.ba h
  exact ⟨h1, h2, fun n hn => of_decide_eq_true (List.all_eq_true.mp h3 n hn), of_decide_eq_true h4, of_decide_eq_true h5, of_decide_eq_true h6⟩
/-- what the right operand's type is -/
theorem okR_in {io : List Addr} {hp : Hep} {H : Hp} {pins : List (Addr × Obj)} {σ : L2.St} {s : Shared} {b : AV} {y : V} {u : Value} (hK : X.K = W.K) (hk : W.ct.kit t = true) (e : okR W.ct t (twOf W.ct hp b) = true) (rl : Rl W io hp H) (r : RV W io H b y) (I : Inv X pins σ H s) (ry : RelV y u) :
    ∃ tb, PySem.W.Looks (model X.prog X.w) s.heap (typeOf u) tb ∧ PySem.W.notFirst X.K (W.cl t) tb = true := by
  cases z : twOf W.ct hp b with
  | none =>
    rw [z] at e
    cases e
  | some tw =>
    rw [z] at e
    obtain ⟨k1, ty⟩ := twOf_in z rl r
    rw [← hK] at ty
    obtain ⟨P, KX, hP, _⟩ := kit_of I ry ty
    refine ⟨_, KX.ty _ _ I.kIn hP, ?_⟩
    cases tw with
    | ty n =>
      refine Bool.or_eq_true_iff.mpr (.inr (beq_iff_eq.mpr ?_))
      rw [hK]
      exact (clsB_in hk).2.2.1 n k1
    | cls s =>
      have e' : (s == t || !W.ct.sub s t) = true := e
      rcases Bool.or_eq_true_iff.mp e' with e' | e'
      · have es : s = t := beq_iff_eq.mp e'
        subst es
        exact Bool.or_eq_true_iff.mpr (.inl (beq_iff_eq.mpr rfl))
      · refine Bool.or_eq_true_iff.mpr (.inr (beq_iff_eq.mpr ?_))
        rw [hK]
        show PySem.W.subIn W.K (.ref (W.cl s)) (.ref (W.cl t)) = some false
        rw [W.css s t k1 hk]
        cases q : W.ct.sub s t with
        | false => rfl
        | true =>
          rw [q] at e'
          cases e'
theorem relV_ni {y : V} {v : Value} {Q : Value → Shared → Prop} {s : Shared} (r : RelV y v) (q : Q v s) : PySem.W.CmpBack Q v s := by
  cases y with
  | non => cases (show v = Value.none from r); exact q
  | bl b => cases (show v = Value.bool b from r); exact q
  | int i => obtain ⟨t, rfl⟩ := (show ∃ t, v = Value.int i t from r); exact q
  | str x => obtain ⟨t, rfl⟩ := (show ∃ t, v = Value.str x t from r); exact q
  | byt b => obtain ⟨t, rfl⟩ := (show ∃ t, v = Value.bytes b t from r); exact q
  | flt b => obtain ⟨t, rfl⟩ := (show ∃ t, v = Value.float b t from r); exact q
  | ref a => cases (show v = Value.ref a from r); exact q
  | ty n => cases (show v = Value.type n from r); exact q
def cmpOK (ct : CT) (t : Nat) (F : DF) : DX := fun a b h => if isT h t a = true ∧ okR ct t (twOf ct h b) = true then F [a, b] h else .stuck
def neOK (ct : CT) (t : Nat) (F : DF) : DX := fun a b h => (cmpOK ct t F a b h).bind (blK false)
def refOK (ct : CT) (s : Nat) (t : Nat) (F : DF) : DX := fun a b h => if isT h s a = true ∧ okR ct s (twOf ct h b) = true ∧ isT h t b = true then F [b, a] h else .stuck
variable {ct : CT}
theorem rich_own {op : CmpOp} (hop : ∀ a b, compareOp op a b = richCompare op a b) {m : Str} (hm : (cmpInfo op).2.1 = m) (H : HasO X.prog X.w X.mg X.base W j t m ps 2 F) (hr : Room k X.A) (hj : j ≤ k) (hK : X.K = W.K) (hW : W.ct = ct) (tk : Takes X E) : OpX X W E (compareOp op) (cmpOK ct t F) := by
  subst hW
  subst hm
  intro pins s σ H2 io hp a b xv yv v u Q I rx ry rl ra rb P
  obtain ⟨a0, fd, hm', hfi, hF, hb⟩ := H
  rw [← hK] at hm' hF
  by_cases hc : isT hp t a = true ∧ okR W.ct t (twOf W.ct hp b) = true
  · unfold cmpOK at P
    rw [if_pos hc] at P
    obtain ⟨q, dx, vs, rfl, ea, hk⟩ := isT_in hc.1 rl ra
    obtain rfl : v = Value.ref q := rx
    obtain ⟨od, J⟩ := inst_of I ea
    obtain ⟨mm, fr⟩ := I.fr
    obtain ⟨tb, lk, nf⟩ := okR_in hK hk hc.2 rl rb I ry
    rw [hop]
    refine PySem.W.cmp_K (by have := hr.un; omega) fr I.ok.mod.kin J lk nf hm'.at_ hm'.fn ?_
    exact wpAny_mono (run_sp hF (hr.mono hj) I.env0 hb hK tk I (vs := [.ref q, yv]) (.cons rfl (.cons ry .nil)) rl (.cons ra (.cons rb .nil)) rfl rfl P) (fun w s2 hq => by
      obtain ⟨y, H3, I3, r3, q3⟩ := hq
      exact relV_ni r3 ⟨y, H3, I3, r3, q3⟩) fun _ _ z => z
  · unfold cmpOK at P
    rw [if_neg hc] at P
    exact P.elim
theorem rich_ne (H : HasO X.prog X.w X.mg X.base W j t "__eq__" ps 2 F) (hr : Room k X.A) (hj : j + 1 ≤ k) (hK : X.K = W.K) (hW : W.ct = ct) (tk : Takes X E) : OpX X W E (compareOp .NotEq) (neOK ct t F) := by
  subst hW
  intro pins s σ H2 io hp a b xv yv v u Q I rx ry rl ra rb P
  unfold neOK at P
  obtain ⟨a0, fd, hm', hfi, hF, hb⟩ := H
  rw [← hK] at hm' hF
  by_cases hc : isT hp t a = true ∧ okR W.ct t (twOf W.ct hp b) = true
  · unfold cmpOK at P
    rw [if_pos hc] at P
    obtain ⟨q, dx, vs, rfl, ea, hk⟩ := isT_in hc.1 rl ra
    obtain rfl : v = Value.ref q := rx
    obtain ⟨od, J⟩ := inst_of I ea
    obtain ⟨tb, lk, nf⟩ := okR_in hK hk hc.2 rl rb I ry
    have hne := (clsB_in hk).2.2.2.1
    have hmro := (W.cg t hk).2.2
    rw [← hK] at hne hmro
    show wpAny _ _ (richCompare .NotEq (.ref q) u) _ _ _
    refine rich_first (by have := hr.un; omega) I.kIn J lk nf ?_
    refine try_ne (by have := hr.un; omega) I.kIn J hmro hne hm'.at_ hm'.fn ?_
    exact wpAny_mono (run_sp hF (hr.mono hj).in1 I.env0.in1 hb hK tk I (vs := [.ref q, yv]) (.cons rfl (.cons ry .nil)) rl (.cons ra (.cons rb .nil)) rfl rfl (P.imp (rh' := RV W) fun io3 H3 b hp3 y e3 rl3 rb P3 => bl_end rl3 rb P3)) (fun w s2 hq => by
      obtain ⟨y, H3, I3, r3, d, ed, q3⟩ := hq
      subst ed
      obtain rfl : w = Value.bool d := r3
      exact ⟨d, rfl, _, rfl, .bl (!d), H3, I3, rfl, by simpa using q3⟩) fun _ _ z => z
  · unfold cmpOK at P
    rw [if_neg hc] at P
    exact P.elim
theorem rich_ref {op : CmpOp} {q : Nat} (hop : (op = .Gt ∧ x = "__lt__") ∨ (op = .GtE ∧ x = "__le__")) (H : HasO X.prog X.w X.mg X.base W j t x ps 2 F) (hr : Room k X.A) (hj : j ≤ k) (hK : X.K = W.K) (hW : W.ct = ct) (tk : Takes X E) : OpX X W E (compareOp op) (refOK ct q t F) := by
  subst hW
  obtain ⟨a0, fd, hm', hfi, hF, hbn⟩ := H
  rw [← hK] at hm' hF
  intro pins s2 σ H2 io2 hp2 a1 a2 xv yv v u Q I2 rx ry rl2 ra1' ra2 P2
  by_cases hc : isT hp2 q a1 = true ∧ okR W.ct q (twOf W.ct hp2 a2) = true ∧ isT hp2 t a2 = true
  · unfold refOK at P2
    rw [if_pos hc] at P2
    obtain ⟨q1, dx, vs, rfl, ea, hk⟩ := isT_in hc.1 rl2 ra1'
    obtain rfl : v = Value.ref q1 := rx
    obtain ⟨od, J⟩ := inst_of I2 ea
    obtain ⟨tb, lk, nf⟩ := okR_in hK hk hc.2.1 rl2 ra2 I2 ry
    obtain ⟨q2, dx2, vs2, rfl, ea2, hk2⟩ := isT_in hc.2.2 rl2 ra2
    obtain rfl : u = Value.ref q2 := ry
    obtain ⟨od2, J2⟩ := inst_of I2 ea2
    have hgt := (clsB_in hk).2.2.2.2.1
    have hge := (clsB_in hk).2.2.2.2.2
    have hmro := (W.cg q hk).2.2
    rw [← hK] at hgt hge hmro
    have two : wpAny (model X.prog X.w) X.A (tryCompare (.ref q2) x (.ref q1)) (fun r s' => ∃ v, r = some v ∧ EP X pins σ Q v s') X.xe s2 :=
      try_own I2.kIn J2 hm'.at_ hm'.fn (wpAny_mono (run_sp hF (hr.mono hj) I2.env0 hbn hK tk I2 (vs := [.ref q2, .ref q1]) (.cons rfl (.cons rfl .nil)) rl2 (.cons ra2 (.cons ra1' .nil)) rfl rfl P2) (fun w s2 hq => by
        obtain ⟨y, H3, I3, r3, q3⟩ := hq
        exact relV_ni r3 ⟨y, H3, I3, r3, q3⟩) fun _ _ z => z)
    rcases hop with ⟨rfl, rfl⟩ | ⟨rfl, rfl⟩
    · exact rich_second (op := .Gt) (by have := hr.un; omega) I2.kIn J lk nf (fun Q h => try_gt I2.kIn J hmro hgt h) two
    · exact rich_second (op := .GtE) (by have := hr.un; omega) I2.kIn J lk nf (fun Q h => try_ge I2.kIn J hmro hge h) two
  · unfold refOK at P2
    rw [if_neg hc] at P2
    exact P2.elim
end
end Dn
namespace Dn
open PySem PySem.Spec PyProof.Rows L2
section
variable {W : Wd} {M : Md W} {E : WX} {X : Cx} {k j n m q t : Nat} {ps ks : List Str} {F : DF} {x : Str} {p pos apos : Pos} {e o : Expr} {es : List Expr} {kws : List Keyword} {f fo : DE} {fa fk : DA} {ix : List Nat} {dfl : List AV} {bs : Bs}
theorem makeC (H : HasC X.prog X.w X.mg X.base W j t x ps n F bs) (i : Nat) (hi : bs[i]? = some (m + 1, ks, ix, dfl)) (hq : ks.length = q) (hr : Room k X.A) (hj : j + 1 ≤ k) (hK : X.K = W.K) (tk : Takes X E)
    (ha : PA X (e :: es) (tDA W M E fa)) (hkw : PK X kws (tDA W M E fk)) (hg : Gl X x := by rfl) (hall : (backToKw pos (keywordEach kws X.env)).all (·.1.isSome) = true := by rfl) (hks : (backToKw pos (keywordEach kws X.env)).filterMap (·.1) = ks := by rfl)
    (hdb : (x == ("__debug__" : Str)) = false := by decide) (he : starEach (e :: es) X.env = (false, eval e X.env) :: starEach es X.env := by rfl)
    (hpl : ((backTo pos (starEach (e :: es) X.env)).any (·.1) || (backToKw pos (keywordEach kws X.env)).any (·.1.isNone)) = false := by rfl) :
    PE X (.Call (.Name x p) (e :: es) kws pos) (tD W M E (dMake t F m q n ix dfl fa fk)) := by
  subst hq
  obtain ⟨a, fd, h1, h2, h3, h4, h5⟩ := H
  have h6 := h5 _ (List.mem_of_getElem? hi)
  rw [← hK] at h1 h4
  exact makeD h3 rfl h1 h4 hr hj h2 hK h6 tk ha hkw hg hall hks hdb he hpl
theorem makeC0 (H : HasC X.prog X.w X.mg X.base W j t x ps n F bs) (i : Nat) (hi : bs[i]? = some (1, ks, ix, dfl)) (hq : ks.length = q) (hr : Room k X.A) (hj : j + 1 ≤ k) (hK : X.K = W.K) (tk : Takes X E)
    (hkw : PK X kws (tDA W M E fk)) (hg : Gl X x := by rfl) (hall : (backToKw pos (keywordEach kws X.env)).all (·.1.isSome) = true := by rfl) (hks : (backToKw pos (keywordEach kws X.env)).filterMap (·.1) = ks := by rfl)
    (hdb : (x == ("__debug__" : Str)) = false := by decide)
    (hpl : ((backTo pos (starEach [] X.env)).any (·.1) || (backToKw pos (keywordEach kws X.env)).any (·.1.isNone)) = false := by rfl) :
    PE X (.Call (.Name x p) [] kws pos) (tD W M E (dMake t F 0 q n ix dfl dNil fk)) := by
  subst hq
  obtain ⟨a, fd, h1, h2, h3, h4, h5⟩ := H
  have h6 := h5 _ (List.mem_of_getElem? hi)
  rw [← hK] at h1 h4
  exact makeD0 h3 rfl h1 h4 hr hj h2 hK h6 tk hkw hg hall hks hdb hpl
def HasP (P : Program) (w : World) (mg : Str → Option Value) (base : Heap) (W : Wd) (k : Nat) (t : Nat) (x : Str) (ps : List Str) (F : DF) : Prop :=
  ∃ (pa a : Addr) (fd : FuncData), PropOf W.K (W.cl t) x pa a ∧ FnOk P w W.K mg base (L2.CX P w) k a fd ps (spD W 1 F) ∧ BnD W fd ps 1 [] [0] []
def dProp (t : Nat) (F : DF) (fo : DE) : DE := fun s h => (fo s h).bind fun o h1 => if isT h1 t o = true then (F [o] h1).noX else .stuck
theorem propD (H : HasP X.prog X.w X.mg X.base W j t x ps F) (hr : Room k X.A) (hj : j + 1 ≤ k) (hK : X.K = W.K) (tk : Takes X E) (ho : PE X o (tD W M E fo)) (hb : attributeBase o x X.env (eval o X.env) = eval o X.env := by rfl) : PE X (.Attribute o x pos) (tD W M E (dProp t F fo)) := by
  obtain ⟨pa, a, fd, hp', hF, hbn⟩ := H
  rw [← hK] at hp' hF
  refine ⟨fun pins s σ H Q I h => ?_⟩
  obtain ⟨io, hp, as, rl, S, P⟩ := h
  refine attr_of hb (thn (ho.run pins s σ H _ I (step (rh := RV W) (f := fo) rl S P)) fun u s1 ⟨xv, H1, I1, rx, io1, hp1, a1, e1, rl1, ra1, P1⟩ => ?_)
  by_cases ht : isT hp1 t a1 = true
  · rw [if_pos ht] at P1
    obtain ⟨q, dx, vs, rfl, ea, hk⟩ := isT_in ht rl1 ra1
    obtain rfl : u = Value.ref q := rx
    have c : Cls X.K (W.cl t) := by
      rw [hK]
      exact W.cks t hk
    obtain ⟨mA, O, _, _, _, _⟩ := ins_get I1.hok ea
    obtain ⟨od, J, _⟩ := O.look
    obtain ⟨rest, hrec⟩ := hp'.rec_
    have I2 := I1.tok (s1.toks + 1)
    have hc : (PySem.W.clsIn X.K (W.cl t)).isSome = true := by
      obtain ⟨cd, hc, _⟩ := PySem.W.any_some c.hd
      rw [hc]
      rfl
    refine PySem.W.get_bind I1.kIn J (PySem.W.plainGet_of (c.get x)).1 (PySem.W.findObj_data hc hp'.at_ hp'.get hp'.tak) (PySem.W.plainGet_of (c.get x)).2 (wpAny_call (PySem.W.prop_get (s := { s1 with toks := s1.toks + 1 }) I1.kIn hrec ?_))
    obtain ⟨g, gV, kb, hg⟩ := hbn
    rw [← hK] at kb
    have r : Vals [V.ref q] [Value.ref q] := .cons rfl .nil
    have r2 := kb.rel r (.nil : Vals [] [])
    have P2 : Pst W (RV W) (fun _ _ _ _ => False) σ Q io1 H1 (F [a1] hp1) := by
      cases z : F [a1] hp1 with
      | ok v h => rw [z] at P1; exact P1
      | exc t fs h => rw [z] at P1; exact P1.elim
      | stuck => rw [z] at P1; exact P1.elim
    have qq : spD W 1 F (gV [V.ref q] []) H1 Q (WE (fun _ _ _ _ => False) σ) := call_at (a := [a1]) (dfl := []) rl1 (.cons ra1 .nil) .nil hg rfl P2
    refine codeAny_mono (hF.run X.A.in1 X.stack { s1 with toks := s1.toks + 1 } H1 ⟨[.ref q], []⟩ (g [.ref q] []) (gV [V.ref q] []) Q (WE (fun _ _ _ _ => False) σ) (hr.mono hj).in1 I2.env0.in1 (kb.to _ [.ref q] [] I2.kIn rfl rfl) r2 qq) fun r s' hq => ?_
    cases r with
    | error er =>
      obtain ⟨_, _, _, _, _, _, _, _, _, _, _, _, z⟩ := hq
      exact z.elim
    | ok fl =>
      cases fl with
      | ret u =>
        obtain ⟨v, H', I3, rv, q3⟩ := I2.after hq
        show wpAny _ _ (handedOut u) _ _ _
        rw [PySem.W.handedOut_of (handed_of rv)]
        exact wpAny_pure ⟨v, H', I3, rv, q3⟩
      | next => exact False.elim hq
      | brk => exact False.elim hq
      | cont => exact False.elim hq
  · rw [if_neg ht] at P1
    exact P1.elim
def binSame (t : Nat) (F : DF) : DX := fun a b h => if isT h t a = true ∧ isT h t b = true then F [a, b] h else .stuck
theorem binOwn {op : Operator} (H : HasO X.prog X.w X.mg X.base W j t (PySem.dunder op.info.2) ps 2 F) (hr : Room k X.A) (hj : j ≤ k) (hK : X.K = W.K) (tk : Takes X E) : OpX X W E (binaryOp op) (binSame t F) := by
  obtain ⟨a0, fd, hm', hfi, hF, hb⟩ := H
  rw [← hK] at hm' hF
  intro pins s σ H2 io hp a b xv yv v u Q I rx ry rl ra rb P
  unfold binSame at P
  by_cases hc : isT hp t a = true ∧ isT hp t b = true
  · rw [if_pos hc] at P
    obtain ⟨q, dx, vs, rfl, ea, hk⟩ := isT_in hc.1 rl ra
    obtain rfl : v = Value.ref q := rx
    obtain ⟨od, J⟩ := inst_of I ea
    obtain ⟨q2, dx2, vs2, rfl, ea2, _⟩ := isT_in hc.2 rl rb
    obtain rfl : u = Value.ref q2 := ry
    obtain ⟨od2, J2⟩ := inst_of I ea2
    obtain ⟨mm, fr⟩ := I.fr
    have sf := (clsB_in hk).2.1
    rw [← hK] at sf
    refine PySem.W.binop_K fr I.ok.mod.kin J J2.type sf hm'.at_ hm'.fn ?_
    exact wpAny_mono (run_sp hF (hr.mono hj) I.env0 hb hK tk I (vs := [.ref q, .ref q2]) (.cons rfl (.cons rfl .nil)) rl (.cons ra (.cons rb .nil)) rfl rfl P) (fun w s2 hq => by
      obtain ⟨y, H3, I3, r3, q3⟩ := hq
      exact relV_ni r3 ⟨y, H3, I3, r3, q3⟩) fun _ _ z => z
  · rw [if_neg hc] at P
    exact P.elim
def binInt (t : Nat) (F : DF) : DX := fun a b h => match b with
  | .int i => if isT h t a = true then F [a, .int i] h else .stuck
  | _ => .stuck
theorem binOwnI {op : Operator} (H : HasO X.prog X.w X.mg X.base W j t (PySem.dunder op.info.2) ps 2 F) (hr : Room k X.A) (hj : j ≤ k) (hK : X.K = W.K) (tk : Takes X E) (hrn : ∀ K : PySem.W.Frag, PySem.W.findIn W.K (.ref (W.cl t)) (dunderR op.info.2) = some none) (h1 : ∀ K : PySem.W.Frag, ∃ fo, PySem.W.findIn K (.type "int") (PySem.dunder op.info.2) = some fo) (h2 : ∀ K : PySem.W.Frag, ∃ ro, PySem.W.findIn K (.type "int") (dunderR op.info.2) = some ro) : OpX X W E (binaryOp op) (binInt t F) := by
  obtain ⟨a0, fd, hm', hfi, hF, hb⟩ := H
  have hrn := hrn W.K
  rw [← hK] at hm' hF hrn
  intro pins s σ H2 io hp a b xv yv v u Q I rx ry rl ra rb P
  cases rb with
  | int i =>
    have P' : Pst W (RV W) E σ Q io H2 (if isT hp t a = true then F [a, .int i] hp else .stuck) := P
    by_cases hc : isT hp t a = true
    · rw [if_pos hc] at P'
      obtain ⟨q, dx, vs, rfl, ea, hk⟩ := isT_in hc rl ra
      obtain rfl : v = Value.ref q := rx
      obtain ⟨od, J⟩ := inst_of I ea
      obtain ⟨tk', rfl⟩ := (show ∃ t, u = Value.int i t from ry)
      obtain ⟨mm, fr⟩ := I.fr
      have sf := (clsB_in hk).2.1
      have sb := (clsB_in hk).2.2.1 "int" (by simp)
      rw [← hK] at sf sb
      obtain ⟨fo, h1⟩ := h1 X.K
      obtain ⟨ro, h2⟩ := h2 X.K
      refine PySem.W.ksp_binT (T := "int") fr I.ok.mod.kin J rfl sf hm'.at_ hm'.fn hrn (.inl rfl) h1 h2 sb ?_
      exact wpAny_mono (run_sp hF (hr.mono hj) I.env0 hb hK tk I (vs := [.ref q, .int i]) (.cons rfl (.cons ⟨tk', rfl⟩ .nil)) rl (.cons ra (.cons (.int i) .nil)) rfl rfl P') (fun w s2 hq => by
        obtain ⟨y, H3, I3, r3, q3⟩ := hq
        exact relV_ni r3 ⟨y, H3, I3, r3, q3⟩) fun _ _ z => z
    · rw [if_neg hc] at P'
      exact P'.elim
  | _ => exact P.elim
theorem int_mul0 : ∀ K : PySem.W.Frag, ∃ fo, PySem.W.findIn K (.type "int") (PySem.dunder Operator.Mult.info.2) = some fo := fun K => ⟨_, rfl⟩
end
end Dn
namespace Dn
open PySem PySem.Spec PyProof.Rows L2

theorem clB_ok {K : PySem.W.Frag} {C : Addr} (h : clB K C = true) : Cls K C ∧ PySem.W.findIn K (.ref C) "__class__" = some (some (.builtin "object.__class__")) ∧ PySem.W.mroIn K C (.type "object") = some true := by
  obtain ⟨h1, h⟩ := He.ba h
  obtain ⟨h2, h⟩ := He.ba h
  obtain ⟨h3, h⟩ := He.ba h
  obtain ⟨h4, h⟩ := He.ba h
  obtain ⟨h5, h6⟩ := He.ba h
  exact ⟨⟨h1, h2, h3, He.eqO_ok h4⟩, He.eqO_ok h5, of_decide_eq_true h6⟩
theorem allN_ok {n : Nat} {p : Nat → Bool} (h : allN n p = true) (t : Nat) (ht : t < n) : p t = true := List.all_eq_true.mp h t (List.mem_range.mpr ht)
/-- what the head must show of the classes cs, with the attributes' names fn -/
def wdB (cs fn : List Str) (sub : Nat → Nat → Bool) (K : PySem.W.Frag) : Bool :=
  allN cs.length fun t => clB K (clOf K cs t) && (clsB K (clOf K cs t) &&
    ((tyNames.all fun n => decide (PySem.W.kitOne K (.type n) (.ref (clOf K cs t)) = some false) && decide (PySem.W.kitOne K (.ref (clOf K cs t)) (.type n) = some false)) &&
    ((allN cs.length fun s => decide (PySem.W.kitOne K (.ref (clOf K cs s)) (.ref (clOf K cs t)) = some (sub s t)) && decide (PySem.W.subIn K (.ref (clOf K cs s)) (.ref (clOf K cs t)) = some (sub s t))) &&
      fn.all fun x => He.eqO (PySem.W.findIn K (.ref (clOf K cs t)) x) (some none))))
def mkWC (K : PySem.W.Frag) (cs fn : List Str) (sub : Nat → Nat → Bool) (hn : fn.Nodup) (h : wdB cs fn sub K = true) (h1 : PySem.W.specialIn K (.builtin "object.__class__") "__get__" = some (some (.builtin "getset_descriptor.__get__"))) (h2 : PySem.W.takesIn K (.builtin "object.__class__") = some true) : Wd where
  K := K
  cl := clOf K cs
  fn := fn
  fnd := hn
  ct := ctOf cs.length sub
  cg := fun t ht => clB_ok (He.ba (allN_ok h t (of_decide_eq_true ht))).1
  cd := h1
  ck := h2
  ctf := fun n t hn ht => by
    have h3 := (He.ba (He.ba (He.ba (allN_ok h t (of_decide_eq_true ht))).2).2).1
    exact of_decide_eq_true (He.ba (List.all_eq_true.mp h3 n hn)).1
  cty := fun n t hn ht => by
    have h3 := (He.ba (He.ba (He.ba (allN_ok h t (of_decide_eq_true ht))).2).2).1
    exact of_decide_eq_true (He.ba (List.all_eq_true.mp h3 n hn)).2
  csf := fun s t hs ht => by
    have h3 := (He.ba (He.ba (He.ba (He.ba (allN_ok h t (of_decide_eq_true ht))).2).2).2).1
    exact of_decide_eq_true (He.ba (allN_ok h3 s (of_decide_eq_true hs))).1
  cks := fun t ht => (clB_ok (He.ba (allN_ok h t (of_decide_eq_true ht))).1).1
  cb := fun t ht => (He.ba (He.ba (allN_ok h t (of_decide_eq_true ht))).2).1
  css := fun s t hs ht => by
    have h3 := (He.ba (He.ba (He.ba (He.ba (allN_ok h t (of_decide_eq_true ht))).2).2).2).1
    exact of_decide_eq_true (He.ba (allN_ok h3 s (of_decide_eq_true hs))).2
  noat := fun t s ht hs => by
    have h3 := (He.ba (He.ba (He.ba (He.ba (allN_ok h t (of_decide_eq_true ht))).2).2).2).2
    exact He.eqO_ok (List.all_eq_true.mp h3 s hs)

theorem DefF.fun_ {d : DefF} {K : PySem.W.Frag} (e : d.look K = d.want) (c : d.good K = true) : ∃ g, FunD K d.nm d.ql d.pr d.bd d.sp (d.dl.map (He.Dv.v K)) (d.kw.map fun q => (q.1, q.2.v K)) (d.ad K) g := by
  obtain ⟨kp, c2⟩ := He.ba c
  unfold DefF.look at e
  cases q : K.lookup (d.ad K) with
  | none =>
    rw [q] at c2
    cases c2
  | some o =>
    obtain ⟨o1, o2, o3, o4⟩ := o
    rw [q] at c2 e
    cases o3 with
    | func g =>
      obtain ⟨m1, m2, m3, m4, m5, m6, m7, m8, m9, m10, m11, m12, m13, m14, m15⟩ := g
      have e2 : (some (m1, m2, m3, m4, m5, m6, m7, m15) : He.FnW) = some (d.nm, d.ql, d.pr, .stmts d.bd, d.sp, mainGlobals, [], builtinsNs) := e
      simp only [Option.some.injEq, Prod.mk.injEq] at e2
      obtain ⟨g1, g2, g3, g4, g5, g6, g7, g8⟩ := e2
      subst g1 g2 g3 g4 g5 g6 g7 g8
      have c3 : (PySem.W.codeIn K m13 d.ql && (He.dflB K m8 (d.dl.map (He.Dv.v K)) && He.kwdB K m9 (d.kw.map fun q => (q.1, q.2.v K)))) = true := c2
      obtain ⟨k1, k2⟩ := He.ba c3
      obtain ⟨k3, k4⟩ := He.ba k2
      exact ⟨_, ⟨o1, o2, m8, m9, m10, m11, m12, m13, m14, o4, rfl, q, k1, He.dflB_ok k3, He.kwdB_ok k4⟩, kp⟩
    | _ => cases c2
def pProp (C m : Str) : Pth := fun K => match PySem.W.recIn K (He.ma K (He.ga K C) m) "property" with
  | some (.ref g :: _) => g
  | _ => 0
theorem methB_ok {K : PySem.W.Frag} {C m : Str} {p : Pth} (h : methB C m p K = true) : Meth K (He.ga K C) m (p K) := by
  obtain ⟨h1, h⟩ := He.ba h
  obtain ⟨h2, h3⟩ := He.ba h
  exact ⟨He.eqO_ok h1, h2, h3⟩
theorem mkB_ok {K : PySem.W.Frag} {C : Str} {p : Pth} (h : mkB C p K = true) : Mk K (He.ga K C) (p K) := by
  obtain ⟨h1, h⟩ := He.ba h
  obtain ⟨h2, h⟩ := He.ba h
  obtain ⟨h3, h4⟩ := He.ba h
  exact ⟨h1, He.eqO_ok h2, h3, h4⟩
def propB (C m : Str) (p : Pth) (K : PySem.W.Frag) : Bool := He.eqO (PySem.W.findIn K (.ref (He.ga K C)) m) (some (some (.ref (He.ma K (He.ga K C) m)))) &&
  (He.eqO (PySem.W.specialIn K (.ref (He.ma K (He.ga K C) m)) "__get__") (some (some (.builtin "property.__get__"))) && (decide (PySem.W.takesIn K (.ref (He.ma K (He.ga K C) m)) = some true) &&
    match PySem.W.recIn K (He.ma K (He.ga K C) m) "property" with
    | some (.ref g :: _) => decide (g = p K)
    | _ => false))
theorem propB_ok {K : PySem.W.Frag} {C m : Str} {p : Pth} (h : propB C m p K = true) : PropOf K (He.ga K C) m (He.ma K (He.ga K C) m) (p K) := by
  obtain ⟨h1, h⟩ := He.ba h
  obtain ⟨h2, h⟩ := He.ba h
  obtain ⟨h3, h4⟩ := He.ba h
  refine ⟨He.eqO_ok h1, He.eqO_ok h2, of_decide_eq_true h3, ?_⟩
  cases q : PySem.W.recIn K (He.ma K (He.ga K C) m) "property" with
  | none =>
    rw [q] at h4
    cases h4
  | some l =>
    rw [q] at h4
    cases l with
    | nil => cases h4
    | cons v r =>
      cases v with
      | ref g =>
        have e : g = p K := of_decide_eq_true h4
        subst e
        exact ⟨r, rfl⟩
      | _ => cases h4
def noRB (C m : Str) (K : PySem.W.Frag) : Bool := He.eqO (PySem.W.findIn K (.ref (He.ga K C)) m) (some none)
section
variable {fa : List He.Fa} {fn : List DefF} {xt : List (PySem.W.Frag → Bool)} {K : PySem.W.Frag}
theorem SaysF.fact (c : SaysF fa fn xt K) (i : Nat) {f : He.Fa} (h : fa[i]? = some f := by rfl) : f.ok K = true := List.all_eq_true.mp c.one.1 f (List.mem_of_getElem? h)
theorem SaysF.def_ (c : SaysF fa fn xt K) (i : Nat) {d : DefF} (h : fn[i]? = some d := by rfl) : ∃ g, FunD K d.nm d.ql d.pr d.bd d.sp (d.dl.map (He.Dv.v K)) (d.kw.map fun q => (q.1, q.2.v K)) (d.ad K) g := by
  have e : fn.map (fun d => d.look K) = fn.map DefF.want := congrArg (fun z : AlF => z.2) c
  have e2 : (fn.map fun d => d.look K)[i]? = (fn.map DefF.want)[i]? := by rw [e]
  rw [List.getElem?_map, List.getElem?_map, h] at e2
  exact DefF.fun_ (Option.some.inj e2) (List.all_eq_true.mp c.one.2.1 d (List.mem_of_getElem? h))
end
def obsFG (n : Nat) (fa : List He.Fa) (fn : List DefF) (xt : List (PySem.W.Frag → Bool)) (g : Addr → Option Obj) : AlF := obsF fa fn xt (He.frG g (He.asD g n))
def hookF (n : Nat) (fa : List He.Fa) (fn : List DefF) (xt : List (PySem.W.Frag → Bool)) : PySem.W.Hook where
  α := AlF
  obs := fun s => obsFG n fa fn xt s.heap.get?
  val := fun _ => valF fn
  says := fun _ h => ∃ K : PySem.W.Frag, K.In h ∧ SaysF fa fn xt K
  of := fun _ _ e => ⟨_, He.frG_in, e⟩
  keeps := fun _ _ _ ⟨K, hK, c⟩ k => ⟨K, PySem.W.Frag.In.keeps hK k, c⟩
theorem obsFG_eq {n : Nat} {fa : List He.Fa} {fn : List DefF} {xt : List (PySem.W.Frag → Bool)} {g : Addr → Option Obj} {s : Shared} (h : ∀ a, g a = s.heap.get? a) : obsFG n fa fn xt g = (hookF n fa fn xt).obs s := by
  have e : g = s.heap.get? := funext h
  rw [e] <;> rfl
/-- a name of an attribute -/
theorem fnx {W : Wd} {fn : List Str} (h : W.fn = fn) {i : Nat} {x : Str} (e : fn[i]? = some x) : W.fn[i]? = some x := by
  rw [h]
  exact e
theorem fnn {W : Wd} {fn : List Str} (h : W.fn = fn) {x : Str} (e : x ∉ fn) : x ∉ W.fn := by
  rw [h]
  exact e
section
variable {P : Program} {w : World} {mg : Str → Option Value} {base : Heap} {W : Wd} {k n t : Nat} {f : Addr} {fd : FuncData} {ps : List Str} {F : DF} {bs : Bs} {x : Str}
theorem FnB.meth (B : FnB P w mg base W k f fd ps n F bs) (h : Meth W.K (W.cl t) x f) : HasM P w mg base W k t x ps n F bs := ⟨f, fd, h, B.2.1, B.2.2⟩
theorem FnB.prop (B : FnB P w mg base W k f fd ps 1 F bs) {pa : Addr} (h : PropOf W.K (W.cl t) x pa f) (i : Nat) (hi : bs[i]? = some (1, [], [0], [])) : HasP P w mg base W k t x ps F := ⟨pa, f, fd, h, B.2.1, B.2.2 _ (List.mem_of_getElem? hi)⟩
end
section
variable {W : Wd} {x qual : Str} {params : Arguments} {body : List Stmt} {scope : Scope} {dvs : List V} {kws : List (Str × V)} {f : Addr} {fd : FuncData} {ps : List Str}
/-- both kinds of defaults -/
theorem bnPK (F : FunD W.K x qual params body scope dvs kws f fd) (n : Nat) (ks : List Str) (ms : List (Str × V)) (ix : List Nat) (hd : dvs ≠ []) (hk : kws ≠ []) (hms : ∀ q ∈ ms, q ∈ kws) {dfl : List AV} (hf : RW0s W dfl (dvs ++ ms.map (·.2)))
    (h : ∀ (T D : Addr) (doc pm : Value) (an : Option Addr) (cdv ct : Value) (us its mv ws : List Value), us.length = n → its.length = dvs.length → mv.length = ms.length → ws.length = ks.length →
      ∃ k, bindArgs (PySem.W.fnOf x qual params body scope (.ref T) (.ref D) doc pm an cdv ct) ⟨us, ks.zip ws⟩ = seqItems? (.ref T) >>= k ∧ KwChain D ((ms.map (·.1)).zip mv) (k (some its.toArray)) (ps.zip (sel ix (us ++ (its ++ mv) ++ ws)))) : BnD W fd ps n ks ix dfl := by
  obtain ⟨its, mv, hb⟩ := FunD.kbinds F n ks ms (fun us its mv ws => sel ix (us ++ (its ++ mv) ++ ws)) hd hk hms (fun r1 r2 r3 r4 => sel_vals ((r1.append (r2.append r3)).append r4) ix) h
  exact ⟨_, _, hb, fun io H as bs vs zs r1 r2 => sel_rel ((r1.app (hf io H)).app r2) ix⟩
end
theorem etB_ok {p : Pth} {K : PySem.W.Frag} (c : etB p K = true) : ∀ H, SqT K H (p K) [] := by
  unfold etB at c
  split at c
  · rename_i dd its n sl z
    obtain ⟨c1, c2⟩ := He.ba c
    have e : its.toList = [] := by simpa using c1
    have e2 : its.size = 0 := of_decide_eq_true c2
    refine fun H => .inr ⟨_, its, n, z, rfl, rfl, ?_, ?_⟩
    · rw [e2]
      exact Nat.zero_le _
    · rw [e]
      exact .nil
  · cases c
end Dn
namespace Dn
open PySem
section
variable {T : Type} {a b v : AV} {h h1 : Hep} {s : Sl} {t i j n m q c : Nat} {f g k : DE} {fa fk : DA} {F : DF} {ix : List Nat} {dfl : List AV} {fs : List (Nat × AV)} {r r' : DX} {r2 : D2} {ct : CT}
@[simp] theorem fget_nil : fget [] j = none := rfl
@[simp] theorem fget_cons : fget ((i, v) :: fs) j = if i = j then some v else fget fs j := rfl
@[simp] theorem fput_nil : fput [] j v = [(j, v)] := rfl
@[simp] theorem fput_cons : fput ((i, a) :: fs) j v = if i = j then (i, v) :: fs else (i, a) :: fput fs j v := rfl
theorem ins_of (e : h[n]? = some (.ins t fs)) : insAt h (.ref n) = some (n, t, fs) := by
  simp [insAt, e]
@[simp] theorem xFld : dFld j f s h = (f s h).bind fun a h1 => fldK j (insAt h1 a) h1 := rfl
@[simp] theorem fldK_some : fldK j (some (n, t, fs)) h = match fget fs j with
    | some v => .ok v h
    | none => .stuck := rfl
@[simp] theorem xSetF : dSetF j f g s h = (g s h).st s fun v h1 => (f s h1).st s fun o h2 => setfK s j v (insAt h2 o) h2 := rfl
@[simp] theorem setfK_some : setfK s j v (some (n, t, fs)) h = if fs.length < 900 then .nx s (h.set n (.ins t (fput fs j v))) else .stuck := rfl
@[simp] theorem xAugF : dAugF r2 j f g s h = (f s h).st s fun o h1 => augK r2 s j g o h1 := rfl
def aug1 (r : D2) (s : Sl) (j t : Nat) (o x : AV) (y : AV) (h : Hep) : SR := match r x y h with
  | some (z, h3) => setfK s j z (chkT t (insAt h3 o)) h3
  | none => .stuck
theorem augK_of (e : h[n]? = some (.ins t fs)) (e2 : fget fs j = some a) : augK r2 s j g (.ref n) h = (g s h).st s fun y h2 => aug1 r2 s j t (.ref n) a y h2 := by
  unfold augK
  rw [ins_of e]
  dsimp only
  rw [e2]
  rfl
@[simp] theorem chkT_some : chkT t (some (n, m, fs)) = if m = t then some (n, m, fs) else none := rfl
@[simp] theorem addII_ii {i j : Int} : addII (.int i) (.int j) h = some (.int (i + j), h) := rfl
@[simp] theorem subII_ii {i j : Int} : subII (.int i) (.int j) h = some (.int (i - j), h) := rfl
theorem aug_int {i y : Int} (hr : (r2 = addII ∧ v = .int (i + y)) ∨ (r2 = subII ∧ v = .int (i - y))) (e : h[n]? = some (.ins t fs)) (hl : fs.length < 900) : aug1 r2 s j t (.ref n) (.int i) (.int y) h = .nx s (h.set n (.ins t (fput fs j v))) := by
  rcases hr with ⟨rfl, rfl⟩ | ⟨rfl, rfl⟩
  · simp [aug1, ins_of e, hl]
  · simp [aug1, ins_of e, hl]
def aug2 (r : D2) (s : Sl) (i : Nat) (a b : AV) (h : Hep) : SR := match r a b h with
  | some (z, h2) => .nx (s.set i (some z)) h2
  | none => .stuck
@[simp] theorem aug2_add {i' j' : Int} : aug2 addII s i (.int i') (.int j') h = .nx (s.set i (some (.int (i' + j')))) h := rfl
@[simp] theorem aug2_sub {i' j' : Int} : aug2 subII s i (.int i') (.int j') h = .nx (s.set i (some (.int (i' - j')))) h := rfl
def augN (r : D2) (i : Nat) (g : DE) (s : Sl) (h : Hep) (o : Option (Option AV)) : SR := match o with
  | some (some a) => if a.nx = true then (g s h).st s fun b h1 => aug2 r s i a b h1 else .stuck
  | _ => .stuck
@[simp] theorem xAug : dAug r2 i g s h = augN r2 i g s h s[i]? := by
  unfold dAug augN aug2
  rfl
@[simp] theorem augN_some : augN r2 i g s h (some (some a)) = if a.nx = true then (g s h).st s fun b h1 => aug2 r2 s i a b h1 else .stuck := rfl
@[simp] theorem xMeth : dMeth t F n m q ix dfl f fa fk s h = (f s h).bind fun o h1 => methK t F n m q ix dfl fa fk s o h1 := rfl
theorem methK_of (e : h[i]? = some (.ins t fs)) : methK t F n m q ix dfl fa fk s (.ref i) h = (fa s h).bind fun a h1 => (fk s h1).bind fun b h2 => if a.length = n ∧ b.length = m ∧ (sel ix (.ref i :: a ++ dfl ++ b)).length = q then F (sel ix (.ref i :: a ++ dfl ++ b)) h2 else .stuck := by
  unfold methK
  rw [ins_of e]
  exact if_pos rfl
theorem isT_of (e : h[i]? = some (.ins t fs)) : isT h t (.ref i) = true := by
  simp [isT, ins_of e]
theorem isT_no (e : h[i]? = some (.ins m fs)) (hn : (m == t) = false) : isT h t (.ref i) = false := by
  simp [isT, ins_of e]
  simpa using hn
@[simp] theorem xProp : dProp t F f s h = (f s h).bind fun o h1 => if isT h1 t o = true then (F [o] h1).noX else .stuck := rfl
@[simp] theorem xLenO : dLenO t F fa s h = (fa s h).bind fun as h1 => lenOK t F as h1 := rfl
@[simp] theorem lenOK_one : lenOK t F [a] h = if isT h t a = true then (F [a] h).bind lenK else .stuck := rfl
@[simp] theorem lenK_int {i : Int} : lenK (.int i) h = if 0 ≤ i ∧ i ≤ 1000000000 then .ok (.int i) h else .stuck := rfl
@[simp] theorem xOpX : dOpX r f g s h = (f s h).bind fun a h1 => (g s h1).bind fun b h2 => r a b h2 := rfl
@[simp] theorem xaltX : altX r r' a b h = altK (r a b h) (r' a b h) := rfl
@[simp] theorem xAlt : dAlt f g s h = altK (f s h) (g s h) := rfl
@[simp] theorem altK_ok {x : T} {k : R T} : altK (.ok x h) k = .ok x h := rfl
@[simp] theorem altK_stuck {k : R T} : altK .stuck k = k := rfl
@[simp] theorem ofX_eq : ofX r2 a b h = R.of (r2 a b h) := rfl
@[simp] theorem blK_bl {c d : Bool} : blK c (.bl d) h = .ok (.bl (if c = true then d else !d)) h := rfl
@[simp] theorem xinOK {c : Bool} : inOK c t F a b h = if isT h t b = true then (F [b, a] h).bind (blK c) else .stuck := rfl
@[simp] theorem xixOK : ixOK t F a b h = if isT h t a = true then F [a, b] h else .stuck := rfl
@[simp] theorem xcmpOK : cmpOK ct t F a b h = if isT h t a = true ∧ okR ct t (twOf ct h b) = true then F [a, b] h else .stuck := rfl
@[simp] theorem xneOK : neOK ct t F a b h = (cmpOK ct t F a b h).bind (blK false) := rfl
@[simp] theorem xrefOK : refOK ct q t F a b h = if isT h q a = true ∧ okR ct q (twOf ct h b) = true ∧ isT h t b = true then F [b, a] h else .stuck := rfl
@[simp] theorem xbinSame : binSame t F a b h = if isT h t a = true ∧ isT h t b = true then F [a, b] h else .stuck := rfl
@[simp] theorem xbinInt {i : Int} : binInt t F a (.int i) h = if isT h t a = true then F [a, .int i] h else .stuck := rfl
def makK (n : Nat) (v : AV) (h : Hep) : R AV := match v with
  | .non => .ok (.ref n) h
  | _ => .stuck
@[simp] theorem makK_non : makK n .non h = .ok (.ref n) h := rfl
@[simp] theorem xMake : dMake t F n m q ix dfl fa fk s h = (fa s h).bind fun a h1 => (fk s h1).bind fun b h2 =>
  if a.length = n ∧ b.length = m ∧ (sel ix (.ref h2.length :: a ++ dfl ++ b)).length = q then (F (sel ix (.ref h2.length :: a ++ dfl ++ b)) (h2 ++ [.ins t []])).bind (makK h2.length) else .stuck := by
  unfold dMake makK
  rfl
@[simp] theorem xPutO : dPutO t F f g k s h = (k s h).st s fun v h1 => (f s h1).st s fun o h2 => (g s h2).st s fun i h3 => if isT h3 t o = true then (F [o, i, v] h3).st s fun _ h4 => .nx s h4 else .stuck := rfl
theorem tw_ins (e : h[i]? = some (.ins t fs)) (hk : ct.kit t = true) : twOf ct h (.ref i) = some (.cls t) := by
  simp [twOf, e, twO, kitB, hk]
theorem isi_ins {c : Nat} {z : Bool} (e : h[i]? = some (.ins t fs)) (hk : ct.kit t = true) (hc : ct.kit c = true) (hz : ct.sub t c = z) : isiL ct [.ref i, .cls c] h = some (.bl z, h) := by
  simp [isiL, isiB, tw_ins e hk, twC, kitB, hc, TW.sub, hz]
theorem isi_lst {c : Nat} {xs : List AV} (e : h[i]? = some (.lst xs)) (hc : ct.kit c = true) : isiL ct [.ref i, .cls c] h = some (.bl false, h) := by
  simp [isiL, isiB, twOf, e, twO, twC, kitB, hc, TW.sub]
end
end Dn
namespace Dn
open PySem PySem.Spec PyProof.Rows L2
def mIndex : DMt := fun a as h => match lstAt h a, as with
  | some (_, xs), [y] => (match toD DD h y, xs.mapM (toD DD h) with
    | some d, some ds => if SeqAt.shaped (.list ds) = true ∧ SeqAt.shaped d = true then (ds.findIdx? fun z => PyData.eqv z d).map fun j => (.int (j : Nat), h) else none
    | _, _ => none)
  | _, _ => none
section
variable {W : Wd} {X : Cx}
theorem meIndex (hK : X.K = W.K) (hu : X.A.units + 65 < cLine) : MtR X "list.index" (tm W mIndex) := mt_imp (mt_indexD hu) fun x xs H Q ⟨io, hp, a, as, rl, ra, ras, P⟩ => by
  unfold mIndex at P
  cases z : lstAt hp a with
  | none =>
    rw [z] at P
    exact P.elim
  | some q =>
    obtain ⟨n, ys⟩ := q
    rw [z] at P
    obtain ⟨p, vs, rfl, hi, hu, rv⟩ := lstAt_in z rl ra
    match as, ras, P with
    | [], .nil, P => exact P.elim
    | _ :: _ :: _, _, P => exact P.elim
    | [c], ras, P =>
      obtain ⟨y, rfl, rb⟩ := one_inv ras
      dsimp only at P
      cases z1 : toD DD hp c with
      | none =>
        rw [z1] at P
        exact P.elim
      | some d =>
        cases z2 : ys.mapM (toD DD hp) with
        | none =>
          rw [z1, z2] at P
          exact P.elim
        | some ds =>
          rw [z1, z2] at P
          dsimp only at P
          by_cases h : SeqAt.shaped (.list ds) = true ∧ SeqAt.shaped d = true
          · rw [if_pos h] at P
            cases z3 : ds.findIdx? (fun z => PyData.eqv z d) with
            | none =>
              rw [z3] at P
              exact P.elim
            | some j =>
              rw [z3] at P
              obtain ⟨hj, hj2, hj3⟩ := List.findIdx?_eq_some_iff_getElem.mp z3
              rw [hK]
              refine ⟨p, y, d, ds, j, ds[j], rfl, rfl, .lst (SqL.of hu) (toD_list DD (toD_in rl DD) ys vs ds z2 rv), toD_in rl DD c y d z1 rb, h.1, h.2, List.getElem?_eq_getElem hj, hj2, fun m z' hm hz => ?_, P.ok rl (.int _)⟩
              obtain ⟨hm2, ez⟩ := List.getElem?_eq_some_iff.mp hz
              subst ez
              simpa using hj3 m hm
          · rw [if_neg h] at P
            exact P.elim
def rCountD (K : PySem.W.Frag) : V → List V → Hp → VK → Prop := fun x xs H Q => ∃ (a : Addr) (y : V) (d : PyData) (ds : List PyData), x = V.ref a ∧ xs = [y] ∧ Dp K H (V.ref a) (.list ds) ∧ Dp K H y d ∧
  SeqAt.shaped (.list ds) = true ∧ SeqAt.shaped d = true ∧ Q (.int (ds.countP (fun z => PyData.eqv z d) : Nat)) H
theorem mt_countD (hu : X.A.units + 65 < cLine) : MtR X "list.count" (rCountD X.K) := by
  intro pins s σ H x xs v us Q I rx rxs h
  obtain ⟨a, y, d, ds, rfl, rfl, hl, hy, sl, sd, q⟩ := h
  cases rx
  cases rxs with
  | cons ry rt =>
    rename_i uy ut
    cases rt
    obtain ⟨bs, r1⟩ := Dp.reads I d y uy hy ry
    have hxs : PyData.canLayAll0 ds = true := SeqAt.canLay_of_shaped sl
    have hroom : X.A.units + 1 + min (PyData.depthAll ds) d.depth < cLine := room_in_shaped sd hu
    cases hl with
    | lst hs ha =>
      obtain ⟨its, rv, ⟨⟨cls, dd, data, sls⟩, n, ho, hc, hdn, hdt⟩, hlen⟩ := I.list hs
      simp only at hc hdt
      subst hc hdt
      obtain ⟨as, h4⟩ := Dp.readsAll I ds _ its ha rv
      have hmap : its.map (SeqAt.readOf s.heap) = ds := SeqAt.readsAll_map ds its as hxs h4
      refine call_meets PySem.F.slot_list_count ⟨_, ho, rfl⟩ PySem.F.entry_list_count (PySem.F.args_list_count_2 _ _)
        (SeqAt.list_countAt a its.toArray n dd sls uy (fun u => PyData.eqv (SeqAt.readOf s.heap u) d)) ⟨ho, SeqAt.items_eqAt (vs := its.toArray) (show ReadsAll s.heap its.toArray.toList ds as from h4) r1 hxs (SeqAt.canLay_of_shaped sd) hroom, ?_⟩
      have ec : its.toArray.toList.countP (fun u => PyData.eqv (SeqAt.readOf s.heap u) d) = ds.countP (fun z => PyData.eqv z d) := by
        rw [← hmap, List.countP_map]
        rfl
      refine ⟨.int (ds.countP (fun z => PyData.eqv z d) : Nat), H, I.tok _, ⟨s.toks, ?_⟩, q⟩
      show Value.int ((its.toArray.toList.countP (fun u => PyData.eqv (SeqAt.readOf s.heap u) d) : Nat) : Int) s.toks = Value.int ((ds.countP (fun z => PyData.eqv z d) : Nat) : Int) s.toks
      rw [ec]
def mCount : DMt := fun a as h => match lstAt h a, as with
  | some (_, xs), [y] => (match toD DD h y, xs.mapM (toD DD h) with
    | some d, some ds => if SeqAt.shaped (.list ds) = true ∧ SeqAt.shaped d = true then some (.int (ds.countP (fun z => PyData.eqv z d) : Nat), h) else none
    | _, _ => none)
  | _, _ => none
theorem meCount (hK : X.K = W.K) (hu : X.A.units + 65 < cLine) : MtR X "list.count" (tm W mCount) := mt_imp (mt_countD hu) fun x xs H Q ⟨io, hp, a, as, rl, ra, ras, P⟩ => by
  unfold mCount at P
  cases z : lstAt hp a with
  | none =>
    rw [z] at P
    exact P.elim
  | some q =>
    obtain ⟨n, ys⟩ := q
    rw [z] at P
    obtain ⟨p, vs, rfl, hi, hu, rv⟩ := lstAt_in z rl ra
    match as, ras, P with
    | [], .nil, P => exact P.elim
    | _ :: _ :: _, _, P => exact P.elim
    | [c], ras, P =>
      obtain ⟨y, rfl, rb⟩ := one_inv ras
      dsimp only at P
      cases z1 : toD DD hp c with
      | none =>
        rw [z1] at P
        exact P.elim
      | some d =>
        cases z2 : ys.mapM (toD DD hp) with
        | none =>
          rw [z1, z2] at P
          exact P.elim
        | some ds =>
          rw [z1, z2] at P
          dsimp only at P
          by_cases h : SeqAt.shaped (.list ds) = true ∧ SeqAt.shaped d = true
          · rw [if_pos h] at P
            rw [hK]
            exact ⟨p, y, d, ds, rfl, rfl, .lst (SqL.of hu) (toD_list DD (toD_in rl DD) ys vs ds z2 rv), toD_in rl DD c y d z1 rb, h.1, h.2, P.ok rl (.int _)⟩
          · rw [if_neg h] at P
            exact P.elim
end
end Dn
namespace Dn
open PySem PySem.Spec PyProof.Rows L2
def txtOf : AV → Option Str
  | .str x => if x.length ≤ SZ then some x else none
  | .int i => if i.natAbs.log2 < 1920 then some (toString i : String) else none
  | .non => some "None"
  | _ => none
def strL : DL := fun as h => match as with
  | [.str x] => if x.length ≤ SZ then some (.str x, h) else none
  | [.int i] => if i.natAbs.log2 < 1920 then some (.str (toString i : String), h) else none
  | [.non] => some (.str "None", h)
  | _ => none
def fmtAV : D1 := fun a h => (txtOf a).map fun x => (.str x, h)
section
variable {W : Wd} {M : Md W} {E : WX} {X : Cx}
theorem call_str_none : CallR X (.type "str") (fun xs H Q => xs = [.non] ∧ Q (.str "None") H) := by
  intro pins s σ H xs us Q I r h
  obtain ⟨rfl, q⟩ := h
  obtain ⟨u, rfl, r1⟩ := vals1 r
  cases r1
  exact PySem.P.str_of_none ⟨.str "None", H, I.tok _, ⟨_, rfl⟩, q⟩
theorem cStr : CallR X (.type "str") (tl W strL) := call_imp (call_or (call_or call_str_int SkE.call_str_str) call_str_none) fun xs H Q ⟨io, hp, as, rl, ra, P⟩ => by
  match as, ra, P with
  | [.int i], ra, P =>
    obtain ⟨x, rfl, r⟩ := one_inv ra
    obtain rfl := r.int_inv
    have P' : Pop W (RV W) Q io H (if i.natAbs.log2 < 1920 then some (AV.str (toString i : String), hp) else none) := P
    by_cases h : i.natAbs.log2 < 1920
    · rw [if_pos h] at P'
      exact .inl (.inl ⟨i, rfl, h, P'.ok rl (.str _)⟩)
    · rw [if_neg h] at P'
      exact P'.elim
  | [.str i], ra, P =>
    obtain ⟨x, rfl, r⟩ := one_inv ra
    obtain rfl := r.str_inv
    have P' : Pop W (RV W) Q io H (if i.length ≤ SZ then some (AV.str i, hp) else none) := P
    by_cases h : i.length ≤ SZ
    · rw [if_pos h] at P'
      exact .inl (.inr ⟨i, rfl, P'.ok rl (.str _)⟩)
    · rw [if_neg h] at P'
      exact P'.elim
  | [.non], ra, P =>
    obtain ⟨x, rfl, r⟩ := one_inv ra
    cases r
    exact .inr ⟨rfl, P.ok rl (.str _)⟩
/-- a part of an f-string -/
def dFmt (f : DE) : DE := dUn fmtAV f
theorem pe_fmt3 {e : Expr} {te : TE} {pos : Pos} (he : PE X e te) : PE X (.FormattedValue e (-1) none pos) (fun σ H Q => te σ H fun x H1 => t1 W fmtAV x H1 Q) := by
  refine ⟨fun pins s σ H Q I h => ?_⟩
  refine wpAny_FormattedValue_plain (thn (he.run pins s σ H _ I h) fun v s1 hv => ?_)
  obtain ⟨x, H1, I1, r1, io, hp, a, rl, ra, P⟩ := hv
  cases a with
  | str y =>
    obtain rfl := ra.str_inv
    have P' : Pop W (RV W) Q io H1 ((if y.length ≤ SZ then some y else none).map fun x => (AV.str x, hp)) := P
    by_cases h : y.length ≤ SZ
    · rw [if_pos h] at P'
      obtain ⟨t, rfl⟩ := r1
      have q := P'.ok rl (.str _)
      exact wpAny_formatField_str ⟨.str y, H1, I1, ⟨t, rfl⟩, q⟩ ⟨.str y, H1, I1.tok _, ⟨_, rfl⟩, q⟩ (szL h)
    · rw [if_neg h] at P'
      exact P'.elim
  | int i =>
    obtain rfl := ra.int_inv
    have P' : Pop W (RV W) Q io H1 ((if i.natAbs.log2 < 1920 then some (Str.ofString (toString i : String)) else none).map fun x => (AV.str x, hp)) := P
    by_cases h : i.natAbs.log2 < 1920
    · rw [if_pos h] at P'
      obtain ⟨t, rfl⟩ := r1
      exact wpAny_formatField_int h ⟨.str (toString i), H1, I1.tok _, ⟨_, rfl⟩, P'.ok rl (.str _)⟩
    · rw [if_neg h] at P'
      exact P'.elim
  | non =>
    cases ra
    cases r1
    have P' : Pop W (RV W) Q io H1 (some (AV.str "None", hp)) := P
    exact wpAny_formatField_none ⟨.str "None", H1, (I1.tok _).tok _, ⟨_, rfl⟩, P'.ok rl (.str _)⟩
  | _ => exact P.elim
theorem fmtD {e : Expr} {f : DE} {pos : Pos} (he : PE X e (tD W M E f)) : PE X (.FormattedValue e (-1) none pos) (tD W M E (dFmt f)) := peI (pe_fmt3 he) fun _ _ _ h => un_in h
def jsR : List DE → Str → DE
  | [], acc => fun _ h => .ok (.str acc) h
  | f :: fs, acc => fun s h => (f s h).bind fun a h1 => match a with
    | .str y => if (acc ++ y).length ≤ SZ then jsR fs (acc ++ y) s h1 else .stuck
    | _ => .stuck
theorem js_in : ∀ (fs : List DE) (acc : Str) {σ : L2.St} {H : Hp} {Q : VK}, tD W M E (jsR fs acc) σ H Q → tJs (fs.map (tD W M E)) acc σ H fun out H1 => Q (.str out) H1
  | [], acc, σ, H, Q, ⟨io, hp, as, rl, S, P⟩ => Pst.ok P rl (.str _)
  | f :: fs, acc, σ, H, Q, ⟨io, hp, as, rl, S, P⟩ => (step (rh := RV W) (f := f) rl S P).imp fun x H1 ⟨io2, hp2, a, e2, rl2, ra, P2⟩ => by
    cases a with
    | str y =>
      obtain rfl := ra.str_inv
      dsimp only at P2
      by_cases h : (acc ++ y).length ≤ SZ
      · rw [if_pos h] at P2
        exact ⟨y, rfl, szL h, js_in fs (acc ++ y) ⟨io2, hp2, as, rl2, M.mono e2 S, P2⟩⟩
      · rw [if_neg h] at P2
        exact P2.elim
    | _ => exact P2.elim
theorem jsD {v1 v2 : Expr} {rest : List Expr} {fs : List DE} {pos : Pos} (h : PJ X (v1 :: v2 :: rest) (fs.map (tD W M E))) : PE X (.JoinedStr (v1 :: v2 :: rest) pos) (tD W M E (jsR fs Str.empty)) := peI (pe_joined h) fun _ _ _ h => js_in fs _ h
theorem js0 : PJ X [] (List.map (tD W M E) []) := .nil
theorem jsC {e : Expr} {f : DE} {es : List Expr} {fs : List DE} (he : PE X e (tD W M E f)) (h : PJ X es (fs.map (tD W M E))) : PJ X (e :: es) ((f :: fs).map (tD W M E)) := .cons he h
end
def strK (v : AV) (h : Hep) : R AV := match v with
  | .str x => .ok (.str x) h
  | _ => .stuck
def reprOK (t : Nat) (F : DF) (as : List AV) (h : Hep) : R AV := match as with
  | [o] => if isT h t o = true then (F [o] h).bind strK else .stuck
  | _ => .stuck
def dReprO (t : Nat) (F : DF) (fa : DA) : DE := fun s h => (fa s h).bind fun as h1 => reprOK t F as h1
section
variable {W : Wd} {M : Md W} {E : WX} {X : Cx} {k j n t : Nat} {ps : List Str} {F : DF} {x : Str} {p pos apos : Pos} {e e' o : Expr} {f g fo : DE}
theorem reprOD {es : List Expr} {fa : DA} (H : HasO X.prog X.w X.mg X.base W j t "__repr__" ps 1 F) (hr : Room k X.A) (hj : j + 1 ≤ k) (hK : X.K = W.K) (tk : Takes X E) (hm : X.mg "repr" = none) (ho : PA X (o :: es) (tDA W M E fa)) (hg : Gl X "repr" := by rfl)
    (he : starEach (o :: es) X.env = (false, eval o X.env) :: starEach es X.env := by rfl) (hpl : (backTo pos (starEach es X.env)).any (·.1) = false := by rfl) : PE X (.Call (.Name "repr" p) (o :: es) [] pos) (tD W M E (dReprO t F fa)) := by
  obtain ⟨a, fd, hm', hfi, hF, hb⟩ := H
  rw [← hK] at hm' hF
  refine ⟨fun pins s σ H Q I h => ?_⟩
  obtain ⟨io, hp, as, rl, S, P⟩ := h
  refine wpAny_Call_Name_kw (ld_blt I hg hm bt_repr ?_ (by decide) (by decide))
  refine PyProof.Rows.callWith_builtin1 (thn (ho.run pos pins s σ H _ I (step (rh := RVs W) (f := fa) rl S P)) fun us s1 ⟨xv, H1, I1, rx, io1, hp1, a1, e1, rl1, ra1, P1⟩ => ?_) he hpl
  match a1, ra1, P1 with
  | [], .nil, P1 => exact P1.elim
  | _ :: _ :: _, .cons _ (.cons _ _), P1 => exact P1.elim
  | [a1], .cons (v := xv) ra1 .nil, P1 =>
  obtain ⟨u, rfl, rx2⟩ : ∃ u, us = [u] ∧ L2.RelV xv u := by
    cases rx with
    | cons r t =>
      cases t
      exact ⟨_, rfl, r⟩
  have P1' : Pst W (RV W) E σ Q io1 H1 (if isT hp1 t a1 = true then (F [a1] hp1).bind strK else .stuck) := P1
  by_cases ht : isT hp1 t a1 = true
  · rw [if_pos ht] at P1'
    obtain ⟨q, dx, vs, rfl, ea, hk⟩ := isT_in ht rl1 ra1
    obtain rfl : u = Value.ref q := rx2
    obtain ⟨od, J⟩ := inst_of I1 ea
    obtain ⟨mm, fr⟩ := I1.fr
    refine PySem.W.repr_K (ru1 hr) fr I1.ok.mod.kin J hm'.at_ hm'.fn ?_
    refine wpAny_mono (run_sp hF (hr.mono hj).in1 I1.env0.in1 hb hK tk I1 (vs := [.ref q]) (.cons rfl .nil) rl1 (.cons ra1 .nil) rfl rfl (P1'.imp (rh' := RV W) (Q' := fun y H2 => ∃ i, y = .str i ∧ Q (.str i) H2) fun io2 H2 b hp2 y e2 rl2 rb P2 => ?_)) (fun v s2 ⟨y, H2, I2, ry, i, ei, q2⟩ => ?_) fun _ _ z => z
    · cases b with
      | str i =>
        have P3 : Pst W (RV W) E σ Q io2 H2 (.ok (.str i) hp2) := P2
        exact ⟨i, rb.str_inv, Pst.ok P3 rl2 (.str i)⟩
      | _ => exact P2.elim
    · subst ei
      obtain ⟨tk', rfl⟩ := (show ∃ t, v = Value.str i t from ry)
      exact ⟨.str i, H2, I2, ⟨_, rfl⟩, q2⟩
  · rw [if_neg ht] at P1'
    exact P1'.elim
end
end Dn
namespace Dn
open PySem PySem.Spec PyProof.Rows L2
section
variable {prog : Program} {w : World} {A : Around} {E : Value → Shared → Prop} {s : Shared}
theorem bounds_all (n : Nat) : sliceBounds none none none n = ((0 : Int), (n : Int), 1) := by
  simp [sliceBounds]
theorem meets_all (l b sl : Addr) (items new : Array Value) (n n2 : Nat) (hne : l ≠ b) (hsz : items.size + new.size ≤ sizeLine) :
    Meets (Builtin.«list.__setitem__» ⟨[.ref l, .ref sl, .ref b], []⟩) (fun _ R s => s.heap.get? l = some { cls := .type "list", data := .seq items n } ∧ s.heap.get? b = some { cls := .type "list", data := .seq new n2 } ∧ s.heap.IsSliceOf sl .none .none .none ∧
      R (.ok (.ret .none)) { s with heap := s.heap.update l (Obj.mapSeq fun xs => xs.extract 0 0 ++ new ++ xs.extract items.size xs.size) }) :=
  .of_wp fun prog w A R s h => by
    obtain ⟨e, e2, hs, h⟩ := h
    have hl : s.heap.IsList l items := PySem.IsL.isList e
    have hb : s.heap.IsList b new := PySem.IsL.isList e2
    obtain ⟨os, hos, hcs, hds⟩ := id hs
    have hTs : s.TypeIs (.ref sl) "slice" := ⟨os, hos, hcs⟩
    have hsame : Builtin.List.listSameRef (.ref l) (.ref b) = false := by
      unfold Builtin.List.listSameRef
      exact beq_eq_false_iff_ne.mpr hne
    show wpAny _ _ (Builtin.List.listSubscript? (.ref sl) >>= _) _ _ s
    refine wpAny_bind ?_
    unfold Builtin.List.listSubscript?
    refine wpAny_bind (wpAny_specialOf hTs slice_no_index (wpAny_pure ?_))
    show wpAny _ _ (typeOf (.ref sl) >>= _) _ _ s
    refine wpAny_bind (wpAny_typeOf hTs ?_)
    dsimp only
    rw [listSliceParts_eq]
    refine wpAny_bind (wpAny_bind (wpAny_field hos hds (x := .none) rfl (wpAny_bind (wpAny_listPart .none ?_))))
    rw [if_neg (show ¬ ((rawPart none == rawInt 0) = true) from Bool.false_ne_true)]
    refine wpAny_bind (wpAny_field hos hds (x := .none) rfl (wpAny_bind (wpAny_listPart .none ?_)))
    refine wpAny_bind (wpAny_field hos hds (x := .none) rfl (wpAny_bind (wpAny_listPart .none (wpAny_pure ?_))))
    rw [if_neg (by rw [hsame]; exact Bool.false_ne_true)]
    refine wpAny_bind (m := Builtin.List.listAllItems (.ref b) "must assign iterable to extended slice") ?_
    unfold Builtin.List.listAllItems
    refine wpAny_bind (wpAny_typeOf hb.typeIs ?_)
    rw [if_pos (by decide)]
    unfold Builtin.List.listItems
    refine wpAny_bind (wpAny_seqItems e2 rfl (wpAny_pure ?_))
    refine wpAny_bind (wpAny_bind (wpAny_seqItems e rfl (wpAny_pure ?_)))
    refine wpAny_bind (wpAny_of_eq ((sliceIndices_raw none none none items.size (by simp)).trans (congrArg (pure : Int × Int × Int → Sem (Int × Int × Int)) (bounds_all items.size))) ?_)
    show wpAny _ _ (if ((1 : Int) == 1) = true then _ else _) _ _ s
    rw [if_pos (by decide)]
    refine wpAny_bind (wpAny_rule ?_)
    rw [if_neg (by rw [notLongL hsz]; exact Bool.false_ne_true)]
    have hm : (max (0 : Int) (items.size : Int)).toNat = items.size := by omega
    show wpAny _ _ (updateSeq l (fun xs => xs.extract 0 ((0 : Int)).toNat ++ new ++ xs.extract (max (0 : Int) (items.size : Int)).toNat xs.size) >>= _) _ _ s
    rw [hm]
    refine wpAny_bind (wpAny_updateSeq (hz := Nat.le_trans (Nat.le_add_right _ _) hsz) (_hz' := by simp only [Array.size_append, Array.size_extract]; omega) e rfl ?_)
    refine wpAny_bind (wpAny_letGo ?_)
    exact wpAny_pure ⟨.none, rfl, h⟩
end
section
variable {X : Cx}
theorem set_all {pins : List (Addr × Obj)} {s : Shared} {σ : L2.St} {H : Hp} {l b sl : Addr} {xs ys : List V} {Q : Unit → Shared → Prop} (I : Inv X pins σ H s)
    (hH : H l = some (.lst xs)) (hB : H b = some (.lst ys)) (hne : l ≠ b) (hs : s.heap.IsSliceOf sl .none .none .none)
    (hz : xs.length + ys.length ≤ sizeLine) (h : ∀ s', Inv X pins σ (upd H l (.lst ys)) s' → Q () s') :
    wpAny (model X.prog X.w) X.A (setItem (.ref l) (.ref sl) (.ref b)) Q X.xe s := by
  obtain ⟨z, its, n, r, hl, e⟩ := I.lstM hH
  obtain ⟨z2, its2, n2, r2, hl2, e2⟩ := I.lstM hB
  have hli : s.heap.IsList l its.toArray := PySem.IsL.isList e
  unfold setItem
  try with_reducible refine wpAny_holding ?_
  first | refine wpAny_bind (wpAny_pure ?_) | skip
  refine wpAny_bind (wpAny_sequenceKey hli.typeIs (by decide) ?_)
  refine wpAny_bind (wpAny_callSpecial?_slot (name := Str.ofString "__setitem__") hli.typeIs slot_list_setitem
    (call_meets slot_list_setitem hli.typeIs entry_list_setitem (args_list_setitem _ _ _) (meets_all l b sl its.toArray its2.toArray n n2 hne (by rw [List.size_toArray, List.size_toArray, ← hl, ← hl2]; exact hz)) ⟨e, e2, hs, ?_⟩))
  refine wpAny_pure (h _ (I.lset (its' := its2) (t' := s.toks) hH e ?_ r2 ?_))
  · show its.toArray.extract 0 0 ++ its2.toArray ++ its.toArray.extract its.toArray.size its.toArray.size = its2.toArray
    rw [splice_eq]
    simp
  · omega
end
def putAllAV (o v : AV) (h : Hep) : Option Hep := match o, v with
  | .ref n, .ref m => if n = m then none else match h[n]?, h[m]? with
    | some (.lst xs), some (.lst ys) => if xs.length + ys.length ≤ SZ then some (h.set n (.lst ys)) else none
    | _, _ => none
  | _, _ => none
def dPutA (fo fv : DE) : DS := fun s h => (fv s h).st s fun v h1 => (fo s h1).st s fun o h2 => match putAllAV o v h2 with
  | some h3 => .nx s h3
  | none => .stuck
section
variable {W : Wd} {M : Md W} {E : WX} {X : Cx} {k : Nat}
theorem sPutA {o v : Expr} {fo fv : DE} {p p2 pos : Pos} (ho : PE X o (tD W M E fo)) (hv : PE X v (tD W M E fv)) (hs : swapsWith v (some (.Subscript o (.Slice none none none p2) p)) pos.line X.env = pure false := by rfl) :
    PS X (.Assign [.Subscript o (.Slice none none none p2) p] v pos) (tS W M E (dPutA fo fv)) := by
  refine ⟨fun pins s σ H D I ⟨io, hp, as, rl, S, P⟩ => ?_⟩
  refine wpAny_Assign_Subscript (thn (hv.run pins s σ H _ I (stepS (rh := RV W) (f := fv) rl S P)) fun uv s1 ⟨xv, H1, I1, rv, io1, hp1, a1, e1, rl1, r1, P1⟩ => ?_) hs
  refine thn (ho.run pins s1 σ H1 _ I1 (stepS (rh := RV W) (f := fo) rl1 (M.mono e1 S) P1)) fun uo s2 ⟨xo, H2, I2, ro, io2, hp2, a2, e2, rl2, r2, P2⟩ => ?_
  have S2 := M.mono (e1.trans e2) S
  have q1 := r1.mono e2
  refine wpAny_Slice ?_
  rw [evalPart_none]
  refine wpAny_pure ?_
  refine wpAny_pure ?_
  refine wpAny_pure ?_
  have I3 : Inv X pins σ H2 { s2 with heap := s2.heap.push { cls := .type "slice", data := .fields #[.none, .none, .none] } } := I2.kept (t' := s2.toks) fun b ob q => Heap.get?_push_of_some _ q
  cases r2 with
  | @ref n a hi =>
    cases q1 with
    | @ref m b hj =>
      have P3 : Pss W M E D io2 H2 (match putAllAV (.ref n) (.ref m) hp2 with
        | some h4 => .nx as h4
        | none => .stuck) := P2
      by_cases hnm : n = m
      · simp only [putAllAV, if_pos hnm] at P3
        exact P3.elim
      · cases z : hp2[n]? with
        | none =>
          simp only [putAllAV, if_neg hnm, z] at P3
          exact P3.elim
        | some ob =>
          cases z2 : hp2[m]? with
          | none =>
            simp only [putAllAV, if_neg hnm, z, z2] at P3
            cases ob <;> exact P3.elim
          | some ob2 =>
            cases ob with
            | lst xs =>
              cases ob2 with
              | lst ys =>
                by_cases hz : xs.length + ys.length ≤ SZ
                · simp only [putAllAV, if_neg hnm, z, z2, if_pos hz] at P3
                  obtain ⟨vs, ev, rvs⟩ := rl2.lst hi z
                  obtain ⟨ws, ew, rws⟩ := rl2.lst hj z2
                  have hab : a ≠ b := fun e => hnm ((List.getElem?_inj (List.getElem?_eq_some_iff.mp hi).1 rl2.nd).mp (by rw [hi, hj, e]))
                  obtain rfl : uo = Value.ref a := ro
                  obtain rfl : uv = Value.ref b := rv
                  have eS : Ext W io2 H2 io2 (upd H2 a (.lst ws)) := Ext.set _ ev trivial
                  refine set_all I3 ev ew hab (Heap.IsSliceOf.new ..) (by rw [← rvs.len, ← rws.len]; exact szL hz) fun s4 I4 => ?_
                  exact ⟨σ, _, I4, P3 _ _ _ eS (rl2.set hi ev trivial (.lst (rws.mono eS))) (M.mono eS S2)⟩
                · simp only [putAllAV, if_neg hnm, z, z2, if_neg hz] at P3
                  exact P3.elim
              | _ =>
                simp only [putAllAV, if_neg hnm, z, z2] at P3
                exact P3.elim
            | _ =>
              simp only [putAllAV, if_neg hnm, z, z2] at P3
              exact P3.elim
    | _ => exact P2.elim
  | _ => exact P2.elim
end
end Dn
namespace PySem
namespace DX
open PySem.W PySem.Calls PyProof.Rows
theorem newF_KeyError : NewF "LookupError" "LookupError.__new__" bmKey :=
  have F := PySem.F.excBase_LookupError
  ⟨F.newSplit, F.newKind, F.newRow, by decide +kernel, by decide +kernel, by decide +kernel, F.canon, F.entry, F.ends, F.owner, F.quiet, F.noStar⟩
theorem newF_ValueError : NewF "ValueError" "ValueError.__new__" [.type "ValueError", .type "Exception", .type "BaseException", .type "object"] := NewF.of PySem.F.excBase_ValueError
theorem newF_IndexError : NewF "IndexError" "IndexError.__new__" [.type "IndexError", .type "LookupError", .type "Exception", .type "BaseException", .type "object"] := NewF.of PySem.F.excBase_IndexError
theorem newF_LookupError : NewF "LookupError" "LookupError.__new__" [.type "LookupError", .type "Exception", .type "BaseException", .type "object"] := NewF.of PySem.F.excBase_LookupError
theorem newF_RuntimeError : NewF "RuntimeError" "RuntimeError.__new__" [.type "RuntimeError", .type "Exception", .type "BaseException", .type "object"] := NewF.of PySem.F.excBase_RuntimeError
theorem keyStore : StoreFacts "KeyError" bmKey "object.__setattr__" "object" := by
  have G := PySem.F.store_IndexError
  refine ⟨by kernel_rfl, ?_, G.entry, G.kind, G.split, G.hasOwner, G.args, fun v => by kernel_rfl⟩
  refine Slot.of (owner := "object") (n := "__setattr__") ?_ (by decide +kernel) (by decide +kernel) (by decide +kernel) ?_ ?_
  · rw [typeLookup_type, builtinLookup_eq_fast]
    kernel_rfl
  · first
      | exact .inl (by decide +kernel)
      | exact .inr (by decide +kernel)
  · rw [isSubtype_type]
    kernel_rfl
section
variable {md : Model} {ar : Around} {ex : Value → Shared → Prop} {hp : Heap} {gs : Array GenState} {dr : Drawn} {tc : Nat} {ops : OsState}
variable {cn qn : Str} {C N : Addr} {bs bm bmB : List Value} {hd : Bool} {sl : List Str} {sb : List Value} {ab : Bool} {col : Option Bool} {dd : Option Addr} {k0 k1 k2 k3 k5 : Option Value} {O nid : String}
/-- the check of the call of `__new__` -/
theorem newOk (F : NewF O nid bmB) (same : ∀ X : String, bm.contains (.type X) = bmB.contains (.type X)) {more : List Value} {Q : Unit → Shared → Prop} (cAt : ClsAt hp cn qn C N bs bm hd sl sb ab col dd k0 k1 k2 k3 k5 nid) (z : Q () ⟨hp, gs, dr, tc, ops⟩) :
    wpAny md ar (checkBuiltinCall nid ⟨.ref C :: more, []⟩) Q ex ⟨hp, gs, dr, tc, ops⟩ := by
  have isO : (Value.ref C :: bm).contains (.type O) = true := (List.contains_cons ..).trans ((congrArg (_ || ·) ((same O).trans F.has)).trans (Bool.or_true _))
  have st := F.sta
  simp only [checkBuiltinCall, F.spl, F.knd, F.sig]
  repeat
    first
      | refine wpAny_loadPart_at cAt ?_
      | (refine wpAny_isSubtype_exc cAt ?_
         rw [isO])
      | refine wpAny_staticBase_exc cAt ?_
      | refine wpAny_madeBy_exc cAt ?_
      | simp only [bne_self_eq_false, if_false, Bool.false_eq_true]
      | wp_step
  exact z
end
section
variable {prog : Program} {w : World} {ar : Around} {ex : Value → Shared → Prop} {R : Result → Shared → Prop} {hp : Heap} {gs : Array GenState} {dr : Drawn} {tc : Nat} {ops : OsState}
variable {cn qn : Str} {C N : Addr} {bs bm bmB : List Value} {hd : Bool} {sl : List Str} {sb : List Value} {ab : Bool} {col : Option Bool} {dd : Option Addr} {k0 k1 k2 k3 k5 : Option Value} {O nid : String}
/-- `__new__` itself -/
theorem newRun (F : NewF O nid bmB) (same : ∀ X : String, bm.contains (.type X) = bmB.contains (.type X)) {more : List Value} (cAt : ClsAt hp cn qn C N bs bm hd sl sb ab col dd k0 k1 k2 k3 k5 nid)
    (z : R (.ok (.ret (.ref (hp.objs.size + 1)))) ⟨(hp.push (W.kdv_tup more)).push (HandSPX.excO C hp.objs.size), gs, dr, tc, ops⟩) (few : more.length ≤ sizeLine) :
    codeAny (model prog w) ar (.builtin nid ⟨.ref C :: more, []⟩) R ⟨hp, gs, dr, tc, ops⟩ := by
  have en := F.fin
  have isO : (Value.ref C :: bm).contains (.type O) = true := (List.contains_cons ..).trans ((congrArg (_ || ·) ((same O).trans F.has)).trans (Bool.or_true _))
  have noA : (Value.ref C :: bm).contains (.type "AttributeError") = false := (List.contains_cons ..).trans ((congrArg (_ || ·) ((same _).trans F.nat)).trans rfl)
  have noN : (Value.ref C :: bm).contains (.type "NameError") = false := (List.contains_cons ..).trans ((congrArg (_ || ·) ((same _).trans F.nnm)).trans rfl)
  refine codeAny_builtinAt F.ent ?_
  unfold Builtin.«BaseException.__new__»
  refine wpAt_bind (?_ : wpAt _ _ _ (stack >>= _) _ _ _)
  refine wpAt_bind (wpAt_stack fun _ _ => wpAt_of_wpAny ?_)
  wp_walk
  refine wpAt_of_wpAny ?_
  rw [F.own]
  repeat
    first
      | with_reducible refine wpAny_madeHere_exc F.can cAt ?_
      | with_reducible refine wpAny_loadPart_at cAt ?_
      | (with_reducible refine wpAny_isSubtype_exc cAt ?_
         first | rw [isO] | rw [noA] | rw [noN])
      | wp_step
  refine (?_ : R _ _)
  rw [Heap.size_push]
  exact z
/-- type.__call__ -/
theorem typeRun (F : NewF O nid bmB) (same : ∀ X : String, bm.contains (.type X) = bmB.contains (.type X)) {more : List Value} {fI : Addr} {Q : Fin → Shared → Prop} (cAt : ClsAt hp cn qn C N bs bm hd sl sb ab col dd k0 k1 k2 k3 k5 nid)
    (li : W.Looks (model prog w) hp (typeLookup (.ref C) "__init__") (some (.ref fI))) (lb : ∀ me, W.Looks (model prog w) hp (bindSpecial (.ref fI) me) (.ref fI, [me])) (few : more.length ≤ sizeLine)
    (z : codeAny (model prog w) ar (.call (.ref fI) ⟨.ref (hp.objs.size + 1) :: more, []⟩)
      (fun r s' => match r with | .ok (.ret v) => v = .none ∧ Q (.done (.ret (.ref (hp.objs.size + 1)))) s' | .ok _ => False | .error e => ex e s') ⟨(hp.push (W.kdv_tup more)).push (HandSPX.excO C hp.objs.size), gs, dr, tc, ops⟩) :
    wpAny (model prog w) ar (Builtin.«type.__call__» ⟨.ref C :: more, []⟩) Q ex ⟨hp, gs, dr, tc, ops⟩ := by
  repeat
    first
      | with_reducible refine wpAny_loadPart_at cAt ?_
      | with_reducible refine wpAny_madeBy_exc cAt ?_
      | wp_step
  refine codeAny_call_builtin_code (Code.quiet_builtin _ F.qui) (newOk F same cAt (newRun F same cAt (?_ : wpAny _ _ _ _ _ _) few))
  have kp : ∀ b o, hp.get? b = some o → ((hp.push (W.kdv_tup more)).push (HandSPX.excO C hp.objs.size)).get? b = some o := fun b o q => Heap.get?_push_of_some _ (Heap.get?_push_of_some _ q)
  have at1 := kp _ _ cAt
  have at2 : ((hp.push (W.kdv_tup more)).push (HandSPX.excO C hp.objs.size)).get? (hp.objs.size + 1) = some (HandSPX.excO C hp.objs.size) := by heap_get
  have self : (Value.ref C :: bm).contains (.ref C) = true := by simp
  have l1 := li.keeps kp
  have l2 := (lb (.ref (hp.objs.size + 1))).keeps kp
  unfold isInstance
  repeat
    first
      | with_reducible refine wpAny_loadPart_at at2 ?_
      | (with_reducible refine wpAny_isSubtype_exc at1 ?_
         rw [self])
      | wp_step
  refine (?_ : wpAny _ _ (typeLookup (.ref C) _) _ _ _)
  refine l1.at (wpAny_holding (wpAny_bind (l2.at (wpAny_bind (wpAny_call (codeAny_mono z fun r s' y => ?_))))))
  cases r with
  | error er => exact y
  | ok fl =>
    cases fl with
    | ret u =>
      obtain ⟨e0, y2⟩ := (show u = .none ∧ Q (.done (.ret (.ref (hp.objs.size + 1)))) s' from y)
      subst e0
      first
        | exact wpAny_pure (wpAny_pure y2)
        | (wp_walk
           exact y2)
    | _ => exact (show False from y).elim
/-- C(..) -/
theorem makeRun (F : NewF O nid bmB) (same : ∀ X : String, bm.contains (.type X) = bmB.contains (.type X)) {more : List Value} {fI : Addr} (cAt : ClsAt hp cn qn C N bs bm hd sl sb ab col dd k0 k1 k2 k3 k5 nid)
    (li : W.Looks (model prog w) hp (typeLookup (.ref C) "__init__") (some (.ref fI))) (lb : ∀ me, W.Looks (model prog w) hp (bindSpecial (.ref fI) me) (.ref fI, [me])) (few : more.length ≤ sizeLine)
    (z : codeAny (model prog w) (ar.under (.builtin "type.__call__" ⟨.ref C :: more, []⟩)) (.call (.ref fI) ⟨.ref (hp.objs.size + 1) :: more, []⟩) (W.InitBack (hp.objs.size + 1) R) ⟨(hp.push (W.kdv_tup more)).push (HandSPX.excO C hp.objs.size), gs, dr, tc, ops⟩) :
    codeAny (model prog w) ar (.call (.ref C) ⟨more, []⟩) R ⟨hp, gs, dr, tc, ops⟩ := by
  have t1 := tc_lookup
  have t2 := tc_bind (.ref C)
  have ty : (⟨hp, gs, dr, tc, ops⟩ : Shared).TypeIs (.ref C) "type" := ⟨_, cAt, rfl⟩
  refine codeAny_of_tree (?_ : wpAny _ _ (callAny (.ref C) _) _ _ _)
  repeat
    any_goals
      first
        | assumption
        | with_reducible refine wpAny_loadPart_at cAt ?_
        | wp_step
  refine ⟨rfl, codeAny_call_builtin_at (Code.quiet_builtin _ (by decide +kernel)) entry_typeCall (wpAny_check_type_call_sub cAt (typeRun F same cAt li lb few (codeAny_mono z fun r s' y => ?_)))⟩
  rcases r with e | (v | _ | _ | _) <;> exact y
end
section
variable {prog : Program} {w : World} {A : Around} {R : Result → Shared → Prop} {g : Array GenState} {d : Drawn} {tt : Nat} {os : OsState}
/-- the first field of a new exception, over any built-in base -/
theorem first_field {K : Frag} {G : Heap} {nm : Str} {tk : Tok} {u : Value} {e C t1 : Addr} {B : String} {bmB : List Value} (SF : StoreFacts B bmB "object.__setattr__" "object") (kin : K.In G) (he : G.get? e = some (excObj C t1 none .none))
    (h1 : excOver K C bmB = true) (h2 : takerIn K C nm = some none) (h3 : hasDictIn K C = true)
    (fin : ∀ G' tk' dx, (∀ b o, b ≠ e → G.get? b = some o → G'.get? b = some o) → G.objs.size ≤ dx → dx ≠ e → G'.get? e = some (excObj C t1 (some dx) .none) → G'.Ns1 dx (fun y => if y = nm then some u else none) → R (.ok (.ret .none)) ⟨G', g, d, tk', os⟩) :
    codeAny (model prog w) A (.call (.builtin "object.__setattr__") ⟨[.ref e, .str nm tk, u], []⟩) R ⟨G, g, d, tt, os⟩ := by
  have ne : e ≠ G.objs.size := Nat.ne_of_lt (Heap.lt_size he)
  refine osa_openX (od := none) SF kin ⟨he, rfl, rfl, trivial⟩ h1 h2 fun b => ?_
  obtain ⟨cd, c1, c2⟩ := any_some h3
  refine wpAny_bind (wpAny_pure (wpAny_bind (instanceDict_exc he (looks_clsIn kin c1) c2 ?_)))
  refine HandSPX.store_in_new ⟨_, #[], _, (Heap.get?_update_ne _ _ _ _ ne.symm).trans (Heap.get?_push_at rfl rfl), rfl, fun x hx => absurd hx (by simp), fun _ => rfl⟩ fun G' tk' ns same => ?_
  have he' : (G.push (dictOf [] 0)).get? e = some (excObj C t1 none .none) := Heap.get?_push_of_some _ he
  have z1 : ((G.push (dictOf [] 0)).update e fun o => { o with dict := some G.objs.size }).get? e = some (excObj C t1 (some G.objs.size) .none) := Heap.get?_update_self _ he' rfl
  refine fin G' tk' G.objs.size (fun b o hb hbo => ?_) (Nat.le_refl _) ne.symm ((same.2 e ne).trans z1) ns
  have z2 := Heap.get?_push_of_some (dictOf [] 0) hbo
  exact (same.2 b (Nat.ne_of_lt (Heap.lt_size hbo))).trans ((Heap.get?_update_ne _ _ _ _ hb).trans z2)
end
end DX
end PySem

namespace Dn
open PySem PySem.Spec PyProof.Rows L2

section
variable {X : Cx} {pins : List (Addr × Obj)} {σ : L2.St} {H : Hp} {s : Shared} {e C : Addr} {nm : Str} {y : V} {u : Value} {Q : Unit → Shared → Prop} {E : Value → Shared → Prop} {A : Around} {B newId initId : String} {bmB : List Value}
theorem xi_store (SF : StoreFacts B bmB "object.__setattr__" "object") (T : Xi X.K C bmB newId nm) (I : Inv X pins σ H s) (he : H e = some (exo e C none)) (ry : RelV y u)
    (fin : ∀ dx s', H dx = none → dx ≠ e → Inv X pins σ (upd (upd H dx (exd dx [(nm, y)])) e (exo e C (some dx))) s' → Q () s') : wpAny (model X.prog X.w) A (setAttr (.ref e) nm u) Q E s := by
  obtain ⟨t1, z⟩ := exo_at I.hok he
  obtain ⟨G, gs, dr, tk, os⟩ := s
  refine PySem.W.set_plain I.kIn (ox := PySem.W.excObj C t1 none .none) (od := none) ⟨z, rfl, rfl, trivial⟩ T.sat ?_
  refine PySem.DX.first_field SF I.kIn z T.ovr T.tkr T.dct fun G' tk' dx kp big ndx ze ns => ?_
  have fresh : H dx = none := I.hok.fresh big
  have far : ∀ {b : Addr} {o : Obj}, G.get? b = some o → b ≠ dx := fun q => Nat.ne_of_lt (Nat.lt_of_lt_of_le (Heap.lt_size q) big)
  have off : ∀ {b : Addr}, H b = none → b ≠ e := fun n q => by
    subst q
    rw [he] at n
    cases n
  have U : Un X.fs [] H (upd (upd H dx (exd dx [(nm, y)])) e (exo e C (some dx))) G G' := by
    refine ⟨fun b o q n _ _ => kp b o (off n) q, fun b o q n _ _ => ⟨o.slots, kp b o (off n) q⟩, fun b o q n _ => ?_, fun b o q _ => ?_, fun b xs q => ?_, fun b o v q => ?_, fun b ps q => ?_⟩
    · rw [upd_ne (off n), upd_ne (far q)]
      exact n
    · by_cases hb : b = e
      · subst hb
        exact ⟨_, ze⟩
      · exact ⟨o, kp b o hb q⟩
    · rw [upd_ne (at_ne he q exo_tup), upd_ne (ne_of_none q fresh)]
      exact q
    · rw [upd_ne (at_ne he q exo_frz), upd_ne (ne_of_none q fresh)]
      exact q
    · refine ⟨#[], ?_⟩
      rw [upd_ne (at_ne he q exo_tbl), upd_ne (ne_of_none q fresh), q]
      simp
  refine fin dx _ fresh ndx (I.un (t' := tk') U fun b o q => ?_)
  by_cases hb : b = e
  · subst hb
    rw [upd_same] at q
    cases q
    exact exo_ok ze
  by_cases hd : b = dx
  · subst hd
    rw [upd_ne hb, upd_same] at q
    cases q
    exact exd_ok ns (relO_put (fs := []) ry fun _ => True.intro)
  rw [upd_ne hb, upd_ne hd] at q
  refine (I.hok b o q).stay (fun c v hc z => kp c v ?_ z) (fun c hc => ?_) (fun c xs hc => ?_)
  · rcases hc with hc | hc
    · rw [hc]
      exact hb
    · exact at_ne he hc exo_own
  · rw [upd_ne (at_ne he hc exo_own), upd_ne (ne_of_none hc fresh)]
    exact hc
  · rw [upd_ne (at_ne he hc exo_tup), upd_ne (ne_of_none hc fresh)]
    exact hc
/-- self.f = e, in such an __init__ -/
def tXiS (K : PySem.W.Frag) (bmB : List Value) (newId : String) (nm : Str) (to te : TE) : TS := fun D σ H => te σ H fun y H1 => to σ H1 fun x H2 => ∃ e C : Addr, x = .ref e ∧ Xi K C bmB newId nm ∧ H2 e = some (exo e C none) ∧
  ∀ dx, H2 dx = none → dx ≠ e → D.nx σ (upd (upd H2 dx (exd dx [(nm, y)])) e (exo e C (some dx)))
theorem ps_xiS {o v : Expr} {to te : TE} {p pos : Pos} (SF : StoreFacts B bmB "object.__setattr__" "object") (ho : PE X o to) (hv : PE X v te) (hs : swapsWith v (some (.Attribute o nm p)) pos.line X.env = pure false := by rfl) :
    PS X (.Assign [.Attribute o nm p] v pos) (tXiS X.K bmB newId nm to te) := ⟨fun pins s σ H D I h => by
  refine plainObj_wpAny_Assign_Attribute (thn (hv.run pins s σ H _ I h) fun v1 s1 h1 => ?_) hs
  obtain ⟨y, H1, I1, r1, q1⟩ := h1
  refine thn (ho.run pins s1 σ H1 _ I1 q1) fun v2 s2 h2 => ?_
  obtain ⟨x, H2, I2, r2, e, C, rfl, T, he, q⟩ := h2
  cases (show v2 = Value.ref e from r2)
  exact xi_store SF T I2 he r1 fun dx s' f n J => ⟨σ, _, J, q dx f n⟩⟩
/-- the promise of such an __init__ -/
def spXi (K : PySem.W.Frag) (bmB : List Value) (newId : String) (nm : Str) : Sp := fun vs H Q _ => ∃ (e C : Addr) (y : V), vs = [.ref e, y] ∧ Xi K C bmB newId nm ∧ H e = some (exo e C none) ∧ ∀ dx, H dx = none → dx ≠ e → Q .non (upd (upd H dx (exd dx [(nm, y)])) e (exo e C (some dx)))
end
/-- def __init__(self, x): self.nm = x -/
theorem xi_init {P : Program} {w : World} {mg : Str → Option Value} {base : Heap} {K : PySem.W.Frag} {q x0 x1 nm : Str} {f : Addr} {fd : FuncData} {params : Arguments} {scope : Scope} {bmB : List Value} {newId B : String} {p1 p2 p3 pos : Pos} {dvs : List V} {kws : List (Str × V)} {fn : Str}
    (SF : StoreFacts B bmB "object.__setattr__" "object") (F : FunD K fn q params [.Assign [.Attribute (.Name x0 p1) nm p2] (.Name x1 p3) pos] scope dvs kws f fd) (S : FnScope [x0, x1] [x0, x1] scope)
    (hb : ∀ (cdv : Value) (A : Around) (outer : List Env) (s : Shared) (H : Hp) (E : XK), PS (cxOf (L2.CX P w) P w K mg base [x0, x1] q scope f cdv A outer s H E) (.Assign [.Attribute (.Name x0 p1) nm p2] (.Name x1 p3) pos) (tXiS K bmB newId nm (tVar 0) (tVar 1))) :
    FnOk P w K mg base (L2.CX P w) 1 f fd [x0, x1] (spXi K bmB newId nm) := by
  refine F.ok (k := 0) S (fun vs H Q E h => ?_) fun cdv A outer s H vs Q E hr h => ⟨_, pss_one (hb cdv A outer s H E), ?_⟩
  · obtain ⟨e, C, y, rfl, _⟩ := h
    rfl
  · obtain ⟨e, C, y, rfl, T, he, q⟩ := h
    exact ⟨y, rfl, .ref e, rfl, e, C, rfl, T, he, q⟩
section
variable {X : Cx} {E : WX} {C : Addr} {nm : Str} {B newId initId : String} {bmB : List Value} {x : Str} {p pos : Pos} {e : Expr}
/-- C(e) with such an __init__ -/
def tXiM (C : Addr) (nm : Str) (ta : TA) : L2.St → Hp → XK → Prop := fun σ H Q => ta σ H fun vs H1 => ∃ y, vs = [y] ∧ ∀ dx, H1 dx = none → Q (.ref C) (some dx) (upd H1 dx (.xd [(nm, y)]))
theorem pmk_xi {ta : TA} {k : Nat} {fI : Addr} {fd : FuncData} {ps : List Str} (FB : PySem.DX.NewF B newId bmB) (T : Xi X.K C bmB newId nm) (iC : PySem.W.findIn X.K (.ref C) "__init__" = some (some (.ref fI))) (tI : PySem.W.typeIn X.K (.ref fI) = some (.type "function"))
    (F : FnOk X.prog X.w X.K X.mg X.base (L2.CX X.prog X.w) k fI fd ps (spXi X.K bmB newId nm)) (hr : Room (k + 1) X.A) (hb : Binds X.K fd ps []) (tk : Takes X E)
    (hm : X.mg x = some (.ref C)) (ha : PA X [e] ta) (hg : Gl X x := by rfl) (hdb : (x == ("__debug__" : Str)) = false := by decide) (hse : starEach [e] X.env = (false, eval e X.env) :: starEach [] X.env := by rfl) (hpl : (backTo pos (starEach [] X.env)).any (·.1) = false := by rfl) :
    PMk X (.Call (.Name x p) [e] [] pos) (tXiM C nm ta) := fun pins s σ H Q I h => by
  refine wpAny_Call_Name_kw (ld_glob I hg hm ?_ hdb)
  refine PySem.W.callWith_K (h₀ := X.base) I.ok.mod.kin T.kep (thn (ha.run pos pins s σ H _ I h) fun us s1 q0 => ?_) hse hpl
  obtain ⟨vs, H1, I1, r1, y, rfl, fin⟩ := q0
  refine ⟨I1.kIn, ?_⟩
  cases r1 with
  | @cons _ u0 _ ur ru rn =>
    cases rn
    show wpAny _ _ (call (.ref C) [u0]) _ _ _
    obtain ⟨G, gs, dr, tk0, os⟩ := s1
    obtain ⟨nm', N', qn, bs, bm, hdct, sn, sub, ab, col, dd, k0, k1, k2, k3, k5, hC, hT⟩ := PySem.W.excInit_of (I1.kIn) T.ini
    have big : G.objs.size ≤ G.objs.size + 1 := Nat.le_succ _
    have fresh : H1 (G.objs.size + 1) = none := I1.hok.fresh big
    have kp : ∀ b o, G.get? b = some o → ((G.push (PySem.W.kdv_tup [u0])).push (PySem.HandSPX.excO C G.objs.size)).get? b = some o := fun b o z => Heap.get?_push_of_some _ (Heap.get?_push_of_some _ z)
    have at2 : ((G.push (PySem.W.kdv_tup [u0])).push (PySem.HandSPX.excO C G.objs.size)).get? (G.objs.size + 1) = some (PySem.HandSPX.excO C G.objs.size) := by heap_get
    have I2 : Inv X pins σ (upd H1 (G.objs.size + 1) (exo (G.objs.size + 1) C none)) ⟨(G.push (PySem.W.kdv_tup [u0])).push (PySem.HandSPX.excO C G.objs.size), gs, dr, tk0, os⟩ := I1.laid (t' := tk0) kp big (exo_ok at2)
    have one : ([u0] : List Value).length ≤ sizeLine := by
      show 1 ≤ sizeLine
      rw [sizeLine_eq]
      decide
    have pr : spXi X.K bmB newId nm [V.ref (G.objs.size + 1), y] (upd H1 (G.objs.size + 1) (exo (G.objs.size + 1) C none)) (fun v H2 => v = .non ∧ ∃ dx, H1 dx = none ∧ dx ≠ G.objs.size + 1 ∧ H2 = upd (upd (upd H1 (G.objs.size + 1) (exo (G.objs.size + 1) C none)) dx (exd dx [(nm, y)])) (G.objs.size + 1) (exo (G.objs.size + 1) C (some dx))) (fun _ _ _ => False) :=
      ⟨_, C, y, rfl, T, upd_same, fun dx f n => ⟨rfl, dx, by rw [upd_ne n] at f; exact f, n, rfl⟩⟩
    have lps : ps.length = 2 := (F.len _ _ _ _ pr).symm
    have b2 := hb ⟨(G.push (PySem.W.kdv_tup [u0])).push (PySem.HandSPX.excO C G.objs.size), gs, dr, tk0, os⟩ [Value.ref (G.objs.size + 1), u0] I2.kIn (by rw [List.append_nil]; exact lps.symm)
    rw [List.append_nil] at b2
    have rr : Vals [V.ref (G.objs.size + 1), y] [Value.ref (G.objs.size + 1), u0] := .cons rfl (.cons ru .nil)
    refine wpAny_call (PySem.DX.makeRun FB hT hC (PySem.W.looks_findIn I1.kIn iC) (fun self => PySem.W.bind_fn I1.kIn self tI) one
      (codeAny_mono (F.run _ X.stack _ _ ⟨[Value.ref (G.objs.size + 1), u0], []⟩ _ _ _ (fun _ _ _ => False) (hr.make C [u0] []) (I2.env0.make C [u0] []) b2 rr pr) fun r s' z => ?_))
    cases r with
    | error er => exact passAt tk σ pins _ _ er s' I2 (by
        obtain ⟨a, B', H', cls, dd', _, _, _, _, _, _, _, w⟩ := z
        exact w.elim)
    | ok fl =>
      cases fl with
      | ret v =>
        obtain ⟨v', H2, os2, bare2, un2, hok2, rv, rfl, dx, f1, n1, rfl⟩ := z
        obtain ⟨h2, g2, d2, t2, os'⟩ := s'
        have e1 : upd (del (upd (upd (upd H1 (G.objs.size + 1) (exo (G.objs.size + 1) C none)) dx (exd dx [(nm, y)])) (G.objs.size + 1) (exo (G.objs.size + 1) C (some dx))) (G.objs.size + 1)) dx (.xd [(nm, y)]) = upd H1 dx (.xd [(nm, y)]) := by
          funext b
          by_cases c1 : b = dx
          · subst c1
            rw [upd_same, upd_same]
          · rw [upd_ne c1, upd_ne c1]
            by_cases c2 : b = G.objs.size + 1
            · subst c2
              rw [del_same, fresh]
            · rw [del_ne c2, upd_ne c2, upd_ne c1, upd_ne c2]
        refine ⟨rv, mk_end (raises_own T.sub T.typ) I1 big kp un2 hok2 os2 bare2 upd_same (by rw [upd_ne n1, upd_same]) f1 ?_⟩
        rw [e1]
        exact fin dx f1
      | next => exact z.elim
      | brk => exact z.elim
      | cont => exact z.elim
/-- C() of a class without own __init__ -/
theorem pmk_x0 (FB : ExcBaseFacts B newId initId bmB) (q : PySem.W.excIn X.K C bmB newId = true) (gC : X.mg x = some (.ref C)) (kC : PySem.W.keepIn X.K (.ref C) = true) (r : Raises X (.ref C)) (hg : Gl X x := by rfl) (hdb : (x == ("__debug__" : Str)) = false := by decide)
    (hpl : ((backTo pos (starEach [] X.env)).any (·.1) || (backToKw pos (keywordEach [] X.env)).any (·.1.isNone)) = false := by rfl) (hall : (backToKw pos (keywordEach [] X.env)).all (·.1.isSome) = true := by rfl) (hnil : ((backToKw pos (keywordEach [] X.env)).map (·.2)) = [] := by rfl) (hfm : (backToKw pos (keywordEach [] X.env)).filterMap (·.1) = [] := by rfl) :
    PMk X (.Call (.Name x p) [] [] pos) (fun _ H Q => Q (.ref C) none H) := fun pins s σ H Q I h => by
  refine wpAny_Call_Name_kw (ld_glob I hg gC ?_ hdb)
  refine PySem.W.callWith_KW0 (h₀ := X.base) I.ok.mod.kin kC hall ?_ hpl
  rw [hnil, hfm]
  unfold evalAll
  refine wpAny_pure ⟨I.kIn, ?_⟩
  show wpAny _ _ (call (.ref C) []) _ _ _
  obtain ⟨bm, N, nm, qn, bs, hdct, sn, sub, ab, col, dd, k0, k1, k2, k3, k5, mN, hC, hN, hni, T⟩ := exc_obj I.kIn q
  exact wpAny_call_exc_subT FB T hC hN hni (fun h' e hm => mk_of I hm r h (I.hok.gone hm.new)) (by rw [sizeLine_eq]; decide)
end
end Dn
namespace Dn
open PySem PySem.Spec PyProof.Rows L2

def Lnd (X : Cx) (pins : List (Addr × Obj)) (σ : L2.St) (H : Hp) (a : Addr) (cls : Value) (d : Option Addr) (s : Shared) : Prop :=
  ∃ (B : Heap) (sI : Shared), Inv X pins σ H sI ∧ (∀ b o, sI.heap.get? b = some o → b ∉ frs X.stack → B.get? b = some o) ∧ sI.heap.UpToSlots s.heap ∧ HandSPX.FlyingZ B X.stack a (Zc cls d) s.heap ∧ H a = none ∧ s.os = sI.os ∧ AllBare s.gens
/-- clauses that serve all exceptions with the wish w -/
def Cls_ (X : Cx) (D : Ends) (hds : List ExceptHandler) (w : WX) : Prop := ∀ (pins : List (Addr × Obj)) (σ : L2.St) (H : Hp) (a : Addr) (cls : Value) (d : Option Addr) (s : Shared), Lnd X pins σ H a cls d s → w cls d σ H →
  wpAny (model X.prog X.w) X.A (handleBy (.ref a) X.env hds) (SP X pins D) X.xe s
section
variable {X : Cx} {pins : List (Addr × Obj)} {σ : L2.St} {H : Hp} {a : Addr} {cls : Value} {d : Option Addr} {s : Shared} {D : Ends}
theorem Lnd.inv (l : Lnd X pins σ H a cls d s) : Inv X pins σ H s := by
  obtain ⟨B, sI, J, nb, up, fl, na, os, ag⟩ := l
  exact J.landed nb fl.1 up os ag
/-- its object, and that it is no frame -/
theorem Lnd.obj (l : Lnd X pins σ H a cls d s) (hs : X.stack = X.env :: X.outer) (hf : X.env.frame = some X.env.locals) : ∃ oe vs, s.heap.get? a = some oe ∧ Zc cls d oe ∧ oe.data = .fields vs ∧ a ≠ X.env.locals ∧ a ∉ X.fs ∧ H a = none := by
  obtain ⟨B, sI, J, nb, up, fl, na, os, ag⟩ := l
  obtain ⟨oe, vs, z1, z2, z3⟩ := fl.there
  have no : a ∉ frs X.stack := fun hm => by
    obtain ⟨_, o', e', hn⟩ := fl.2.2.1.mem hm
    rw [z1] at e'
    cases e'
    exact hn _ z3
  refine ⟨oe, vs, z1, z2, z3, fun z => no ?_, fun hm => no ?_, na⟩
  · rw [hs]
    exact List.mem_filterMap.mpr ⟨X.env, List.mem_cons_self, by rw [hf, z]⟩
  · rw [hs]
    obtain ⟨e, he, q⟩ := List.mem_filterMap.mp hm
    exact List.mem_filterMap.mpr ⟨e, List.mem_cons_of_mem _ he, q⟩
theorem cls_nil {w : WX} (hf : X.env.frame = some X.env.locals) (tk : Takes X w) : Cls_ X D [] w := fun pins σ H a cls d s l hw => by
  obtain ⟨B, sI, J, nb, up, fl, na, os, ag⟩ := l
  refine wpAny_handleBy_nil ?_
  obtain ⟨_, _, _, oe, vs, T, _, _, z1, _, z3, z4, _⟩ := id fl
  unfold PySem.passOn
  refine wpAny_bind (wpAny_field z1 z3 z4 ?_)
  rw [if_neg (by simp)]
  have up2 : wpAny (model X.prog X.w) X.A (setFlight (.ref a) X.env.frame) (fun _ s4 => wpAny (model X.prog X.w) X.A (throw (.ref a) : Sem Flow) (SP X pins D) X.xe s4) X.xe s := by
    rw [hf]
    exact HandSPX.setFlight_upZ fl fun h4 held up4 => wpAny_throw (tk _ _ ⟨a, B, sI, pins, σ, H, cls, d, rfl, J, nb, up.trans up4, .inr (.inr held), na, os, ag, hw⟩)
  first
    | exact wpAny_bind (wpAny_pure (wpAny_bind up2))
    | exact wpAny_bind up2
/-- a clause's test -/
theorem Lnd.test {x : Str} {np pos : Pos} {c : Value} {b : Bool} {R : Result → Shared → Prop} (l : Lnd X pins σ H a cls d s) (hs : X.stack = X.env :: X.outer) (hf : X.env.frame = some X.env.locals) (hc : Names X x c) (hb : PySem.W.exmOne X.K cls c = some b) (q : R (.ok (if b then .brk else .next)) s) :
    codeAny (model X.prog X.w) (X.A.mark (some (.ref a))) (.handlers (.ref a) [.ExceptHandler (some (.Name x np)) none [] pos] X.env) R s := by
  obtain ⟨oe, vs, z1, z2, z3, nL, nF, na⟩ := l.obj hs hf
  have I2 := l.inv.suite z1 z3 na nL nF
  have ty : PySem.W.Looks (model X.prog X.w) s.heap (typeOf (.ref a)) cls := fun _ _ _ _ k q => wpAny_typeOf_ref (k _ _ z1) (by rw [z2.1]; exact q)
  have lk := PySem.W.exm_one (M := model X.prog X.w) l.inv.kIn ty hb
  refine codeAny_handlers_test ?_
  obtain ⟨g1, g2, g3⟩ := hc
  rcases g3 with g3 | ⟨g3, g4, g5⟩
  · exact ld_glob (X := X.suite a ((a, oe) :: (X.pn ++ pins))) I2 g1 g3 (lk.here q) g2
  · exact ld_blt (X := X.suite a ((a, oe) :: (X.pn ++ pins))) I2 g1 g3 g4 (lk.here q) g5 g2
theorem Lnd.again (l : Lnd X pins σ H a cls d s) {M : Model} {A : Around} {E : Value → Shared → Prop} {Q : Unit → Shared → Prop} (q : ∀ s', Lnd X pins σ H a cls d s' → Q () s') : wpAny M A (setFlight (.ref a) none) Q E s := by
  obtain ⟨B, sI, J, nb, up, fl, na, os, ag⟩ := l
  exact HandSPX.lands_againZ fl fun h4 fl4 up4 => q _ ⟨B, sI, J, nb, up.trans up4, fl4, na, os, ag⟩
variable {hds : List ExceptHandler} {x n : Str} {np pos : Pos} {b₀ : Stmt} {suite : List Stmt} {c : Value} {i : Nat}
/-- except x: suite -/
theorem cls_only {w w' : WX} {ts : Addr → Value → Option Addr → TS} (hs : X.stack = X.env :: X.outer) (hf : X.env.frame = some X.env.locals) (hc : Names X x c)
    (hsu : ∀ (a : Addr) (oe : Obj) (cls : Value) (d : Option Addr) (pn : List (Addr × Obj)), Zc cls d oe → (∃ vs, oe.data = .fields vs) → PSs (X.suite a ((a, oe) :: pn)) (b₀ :: suite) (ts a cls d))
    (hw : ∀ cls d σ H, w cls d σ H → ∃ b, PySem.W.exmOne X.K cls c = some b ∧ (b = true → ∀ a, H a = none → ts a cls d D σ H) ∧ (b = false → w' cls d σ H)) (r : Cls_ X D hds w') :
    Cls_ X D (.ExceptHandler (some (.Name x np)) none (b₀ :: suite) pos :: hds) w := fun pins σ H a cls d s l h => by
  obtain ⟨b, hb, yes, no⟩ := hw _ _ _ _ h
  refine wpAny_handleBy_cons (l.test hs hf hc hb ?_) (fun q => by cases q)
  cases b with
  | false => exact r pins σ H a cls d s l (no rfl)
  | true =>
    refine codeAny_handlers_suite (l.again fun s4 l4 => ?_)
    obtain ⟨oe, vs, z1, z2, z3, nL, nF, na⟩ := l4.obj hs hf
    refine wpAny_mono ((hsu a oe cls d (X.pn ++ pins) z2 ⟨_, z3⟩).run [] _ _ H _ (l4.inv.suite z1 z3 na nL nF) (yes rfl a na)) (fun f s6 h6 => ?_) (fun _ _ z => z.elim)
    have ok := l4.inv.ok
    cases f with
    | ret u =>
      obtain ⟨v6, σ6, H6, S6, r6, q6⟩ := h6
      exact ⟨_, _, _, S6.unsuite ok, r6, q6⟩
    | next =>
      obtain ⟨σ6, H6, S6, q6⟩ := h6
      exact ⟨_, _, S6.unsuite ok, q6⟩
    | brk =>
      obtain ⟨σ6, H6, S6, q6⟩ := h6
      exact ⟨_, _, S6.unsuite ok, q6⟩
    | cont =>
      obtain ⟨σ6, H6, S6, q6⟩ := h6
      exact ⟨_, _, S6.unsuite ok, q6⟩
/-- except x as n: suite -/
theorem cls_as {w w' : WX} {ts : Addr → Value → Option Addr → TS} (hs : X.stack = X.env :: X.outer) (hf : X.env.frame = some X.env.locals) (hN : X.N.Nodup) (hi : X.N[i]? = some n) (hl : X.env.kindOf n = some .local) (hc : Names X x c)
    (hsu : ∀ (a : Addr) (oe : Obj) (cls : Value) (d : Option Addr) (pn : List (Addr × Obj)), Zc cls d oe → (∃ vs, oe.data = .fields vs) → PSs (X.suite a ((a, oe) :: pn)) (b₀ :: suite) (ts a cls d))
    (hw : ∀ cls d σ H, w cls d σ H → ∃ b, PySem.W.exmOne X.K cls c = some b ∧ (b = true → ∀ a, H a = none → ts a cls d ⟨fun σ' H' => D.nx (σ'.set i none) H', D.rt, fun σ' H' => D.bk (σ'.set i none) H', fun σ' H' => D.ct (σ'.set i none) H'⟩ (σ.set i (some (.ref a))) H) ∧ (b = false → w' cls d σ H)) (r : Cls_ X D hds w') :
    Cls_ X D (.ExceptHandler (some (.Name x np)) (some n) (b₀ :: suite) pos :: hds) w := fun pins σ H a cls d s l h => by
  obtain ⟨b, hb, yes, no⟩ := hw _ _ _ _ h
  refine wpAny_handleBy_cons (l.test hs hf hc hb ?_) (fun q => by cases q)
  cases b with
  | false => exact r pins σ H a cls d s l (no rfl)
  | true =>
    refine codeAny_handlers_suite_as (l.again fun s4 l4 => ?_)
    obtain ⟨oe, vs, z1, z2, z3, nL, nF, na⟩ := l4.obj hs hf
    refine store_ok (v := .ref a) (X := X.suite a ((a, oe) :: (X.pn ++ pins))) (l4.inv.suite z1 z3 na nL nF) hN hi (.inl hl) rfl (fun s5 I5 => ?_) (.inr hl)
    refine wpAny_mono ((hsu a oe cls d (X.pn ++ pins) z2 ⟨_, z3⟩).run [] s5 _ H _ I5 (yes rfl a na)) (fun f s6 h6 => ?_) (fun _ _ z => z.elim)
    have ok := l4.inv.ok
    cases f with
    | ret u =>
      obtain ⟨v6, σ6, H6, S6, r6, q6⟩ := h6
      exact gone_ok (S6.unsuite ok) hN hi hl fun s7 J7 => ⟨_, _, _, J7, r6, q6⟩
    | next =>
      obtain ⟨σ6, H6, S6, q6⟩ := h6
      exact gone_ok (S6.unsuite ok) hN hi hl fun s7 J7 => ⟨_, _, J7, q6⟩
    | brk =>
      obtain ⟨σ6, H6, S6, q6⟩ := h6
      exact gone_ok (S6.unsuite ok) hN hi hl fun s7 J7 => ⟨_, _, J7, q6⟩
    | cont =>
      obtain ⟨σ6, H6, S6, q6⟩ := h6
      exact gone_ok (S6.unsuite ok) hN hi hl fun s7 J7 => ⟨_, _, J7, q6⟩
/-- try: body except ..: .. -/
theorem ps_tryG {body : List Stmt} {h₀ : ExceptHandler} {tb : WX → TS} {wi : Ends → WX} (hs : X.stack = X.env :: X.outer) (hf : X.env.frame = some X.env.locals)
    (hb : ∀ (w : WX) (pn : List (Addr × Obj)) (xe : Value → Shared → Prop), Takes (X.tr pn xe) w → PassesOwn (model X.prog X.w) X.A X.env xe → PSs (X.tr pn xe) body (tb w)) (hh : ∀ D, Cls_ X D (h₀ :: hds) (wi D)) :
    PS X (.Try body (h₀ :: hds) [] [] pos) (fun D σ H => tb (wi D) D σ H) := ⟨fun pins s σ H D I h => by
  have ok := I.ok
  have hfr : X.A.frames = some (X.env :: X.outer) := ok.frames.trans (by rw [hs])
  refine wpAny_Try_except ?_
  have tkn : Takes (X.tr (X.pn ++ pins) (fun e s₁ => wpAny (model X.prog X.w) X.A (noteFrame e X.env) (fun _ s₂ => wpAny (model X.prog X.w) X.A (setFlight e none) (fun _ s₃ => wpAny (model X.prog X.w) X.A (handleBy e X.env (h₀ :: hds)) (SP X pins D) X.xe s₃) X.xe s₂) X.xe s₁)) (wi D) := fun u s' x => by
    obtain ⟨a, B, sI, pins', σ', H', cls, d, rfl, J', nb, up, sky, na, os, ag, w⟩ := x
    have J : Inv X pins σ' H' sI := J'.ofTry ok
    have sky2 : Sky B (X.env :: X.outer) a (Zc cls d) X.env.locals s'.heap := by
      rw [← hs]
      exact sky
    show wpAny (model X.prog X.w) X.A (noteFrame (.ref a) X.env) _ _ _
    refine Sky.land Zc.steady hfr hf sky2 fun h3 fl3 up3 => ?_
    exact hh D pins σ' H' a cls d _ ⟨B, sI, J, nb, up.trans up3, by rw [hs]; exact fl3, na, os, ag⟩ w
  refine wpAny_mono ((hb _ _ _ tkn PassesOwn.looking).run [] s σ H D (I.toTry _) h) (fun f s1 h1 => ?_) (fun _ _ z => z)
  cases f with
  | ret u =>
    obtain ⟨v, σ', H', J', r, q⟩ := h1
    exact ⟨v, σ', H', J'.ofTry ok, r, q⟩
  | next =>
    obtain ⟨σ', H', J', q⟩ := h1
    exact wpAny_execs_nil ⟨σ', H', J'.ofTry ok, q⟩
  | brk =>
    obtain ⟨σ', H', J', q⟩ := h1
    exact ⟨σ', H', J'.ofTry ok, q⟩
  | cont =>
    obtain ⟨σ', H', J', q⟩ := h1
    exact ⟨σ', H', J'.ofTry ok, q⟩⟩
end
end Dn
namespace Dn
open PySem PySem.Spec PyProof.Rows L2

def dRaise0 (t : Nat) : DS := fun s h => .exc t [] s h
def dRaiseI (t j : Nat) (f : DE) : DS := fun s h => (f s h).st s fun v h1 => .exc t [(j, v)] s h1
def SR.noX : SR → SR
  | .exc _ _ _ _ => .stuck
  | r => r
def SR.wip (i : Nat) : SR → SR
  | .nx s h => .nx (s.set i none) h
  | .bk s h => .bk (s.set i none) h
  | .ct s h => .ct (s.set i none) h
  | .rt v h => .rt v h
  | _ => .stuck
def pickH (T : XT) (t : Nat) (fs : List (Nat × AV)) (s : Sl) (h : Hep) : Hds → SR
  | [] => .exc t fs s h
  | (c, o, f) :: r => match T.sub t c with
    | true => (match o with
      | none => (f s h).noX
      | some i => if i < s.length then (f (s.set i (some (.exn t fs))) h).wip i else .stuck)
    | false => pickH T t fs s h r
def dTry (T : XT) (f : DS) (hs : Hds) : DS := fun s h => match f s h with
  | .exc t fs s1 h1 => if T.n ≤ t ∧ t < T.m then pickH T t fs s1 h1 hs else .stuck
  | r => r
def xfK (j : Nat) (o : Option (Option AV)) (h : Hep) : R AV := match o with
  | some (some (.exn _ fs)) => (match fget fs j with
    | some v => .ok v h
    | none => .stuck)
  | _ => .stuck
/-- e.f of a caught exception -/
def dXf (i j : Nat) : DE := fun s h => xfK j s[i]? h
def tyLook (l : List (Nat × String × Bool)) (t : Nat) (n : String) : Option Bool := match l with
  | [] => none
  | (t', n', b) :: r => if t' = t ∧ n' = n then some b else tyLook r t n
def isXK (T : XT) (n : String) (o : Option (Option AV)) (h : Hep) : R AV := match o with
  | some (some (.exn t _)) => (match tyLook T.ty t n with
    | some b => .ok (.bl b) h
    | none => .stuck)
  | _ => .stuck
/-- isinstance(e, T), e a caught exception -/
def dIsX (T : XT) (i : Nat) (n : String) : DE := fun s h => isXK T n s[i]? h

/-- a class without own __init__ -/
def HasX0 (mg : Str → Option Value) (W : Wd) (t : Nat) (x : Str) : Prop := ∃ (B newId initId : String) (bmB : List Value), ExcBaseFacts B newId initId bmB ∧ PySem.W.excIn W.K (W.cl t) bmB newId = true ∧ mg x = some (.ref (W.cl t)) ∧ PySem.W.keepIn W.K (.ref (W.cl t)) = true ∧
  PySem.W.subIn W.K (.ref (W.cl t)) (.type "BaseException") = some true ∧ PySem.W.typeIn W.K (.ref (W.cl t)) = some (.type "type")
/-- a class whose own __init__ stores its argument as attribute j -/
def HasXI (P : Program) (w : World) (mg : Str → Option Value) (base : Heap) (W : Wd) (t j : Nat) (x : Str) : Prop := ∃ (B newId : String) (bmB : List Value) (nm : Str) (fI : Addr) (fd : FuncData) (ps : List Str), PySem.DX.NewF B newId bmB ∧ W.fn[j]? = some nm ∧ Xi W.K (W.cl t) bmB newId nm ∧
  PySem.W.findIn W.K (.ref (W.cl t)) "__init__" = some (some (.ref fI)) ∧ PySem.W.typeIn W.K (.ref fI) = some (.type "function") ∧ FnOk P w W.K mg base (L2.CX P w) 1 fI fd ps (spXi W.K bmB newId nm) ∧ Binds W.K fd ps [] ∧ mg x = some (.ref (W.cl t))
section
variable {W : Wd} {M : Md W} {E : WX} {X : Cx} {t j k : Nat} {x : Str} {e : Expr} {f : DE} {p p2 pos : Pos}
theorem sRaise0 (h : HasX0 X.mg W t x) (hK : X.K = W.K) (hc : X.calm = true) (tk : Takes X E) (hg : Gl X x := by rfl) (hdb : (x == ("__debug__" : Str)) = false := by decide)
    (hpl : ((backTo p2 (starEach [] X.env)).any (·.1) || (backToKw p2 (keywordEach [] X.env)).any (·.1.isNone)) = false := by rfl) (hall : (backToKw p2 (keywordEach [] X.env)).all (·.1.isSome) = true := by rfl) (hnil : ((backToKw p2 (keywordEach [] X.env)).map (·.2)) = [] := by rfl) (hfm : (backToKw p2 (keywordEach [] X.env)).filterMap (·.1) = [] := by rfl) :
    PS X (.Raise (some (.Call (.Name x p) [] [] p2)) none pos) (tS W M E (dRaise0 t)) := by
  obtain ⟨B, newId, initId, bmB, FB, h1, h2, h3, h4, h5⟩ := h
  rw [← hK] at h1 h3 h4 h5
  refine psI (ps_raise hc tk (pmk_x0 FB h1 h2 h3 (raises_own h4 h5) hg hdb hpl hall hnil hfm)) fun D σ H ⟨io, hp, as, rl, S, P⟩ => ?_
  exact P io H σ _ _ Ext.refl rl S ⟨rfl, .inl ⟨rfl, rfl⟩⟩
theorem sRaiseI (h : HasXI X.prog X.w X.mg X.base W t j x) (hr : Room k X.A) (hk : 2 ≤ k) (hK : X.K = W.K) (hc : X.calm = true) (tk : Takes X E) (he : PE X e (tD W M E f)) (hg : Gl X x := by rfl) (hdb : (x == ("__debug__" : Str)) = false := by decide)
    (hse : starEach [e] X.env = (false, eval e X.env) :: starEach [] X.env := by rfl) (hpl : (backTo p2 (starEach [] X.env)).any (·.1) = false := by rfl) :
    PS X (.Raise (some (.Call (.Name x p) [e] [] p2)) none pos) (tS W M E (dRaiseI t j f)) := by
  obtain ⟨B, newId, bmB, nm, fI, fd, ps, FB, hn, T, iC, tI, F, hb, hm⟩ := h
  rw [← hK] at T iC tI F hb
  refine psI (ps_raise hc tk (pmk_xi FB T iC tI F (hr.mono hk) hb tk hm (aD (M := M) (E := E) he nD hse) hg hdb hse hpl)) fun D σ H ⟨io, hp, as, rl, S, P⟩ => ?_
  refine ⟨io, hp, as, rl, S, ?_⟩
  have P' : Pss W M E D io H ((f as hp).st as fun v h1 => .exc t [(j, v)] as h1) := P
  unfold dCons dNil
  cases z : f as hp with
  | stuck =>
    rw [z] at P'
    exact P'
  | exc t' fs hp1 =>
    rw [z] at P'
    exact fun io' H' cls d e' rl' rx => P' io' H' σ cls d e' rl' (M.mono e' S) rx
  | ok a hp1 =>
    rw [z] at P'
    intro io' H' xs e' rl' rxs
    match xs, rxs with
    | [y], .cons ry .nil =>
      refine ⟨y, rfl, fun dx hn2 => ?_⟩
      have ex : Ext W io' H' io' (upd H' dx (.xd [(nm, y)])) := Ext.new0 hn2
      exact P' io' _ σ _ _ (e'.trans ex) (rl'.other hn2) (M.mono (e'.trans ex) S) ⟨rfl, .inr ⟨dx, _, rfl, upd_same, .cons hn (ry.mono ex) .nil⟩⟩
end

section
variable {W : Wd} {X : Cx} {T : XT}
/-- the wish of the clauses -/
def wiH (W : Wd) (T : XT) (E : WX) (hs : Hds) (D : Ends) : WX := fun cls d σ H => ∃ io hp as t fs, Rl W io hp H ∧ (std W).rel io H as σ ∧ RX W io H t fs cls d ∧ T.n ≤ t ∧ t < T.m ∧ Pss W (std W) E D io H (pickH T t fs as hp hs)
theorem PssE0 {D : Ends} {io : List Addr} {H : Hp} {E : WX} {M : Md W} {r : SR} (P : Pss W M E D io H r.noX) : Pss W M E0x D io H r := by
  cases r with
  | exc t fs s h => exact P.elim
  | _ => exact P
theorem exM_in {i t : Nat} {fs : List (Nat × AV)} {a : Addr} {d : Option Addr} {io : List Addr} {H : Hp} {as : Sl} {σ : L2.St} (S : (std W).rel io H as σ) (hi : i < as.length) (rx : RXf W io H fs d) :
    (exM W i t fs a d).rel io H (as.set i (some (.exn t fs))) (σ.set i (some (.ref a))) := by
  have hl : as.length = σ.length := S.1
  refine ⟨⟨by simp [hl], List.getElem?_set_self (by rw [← hl]; exact hi), List.getElem?_set_self hi⟩, fun j v n q => ?_, rx⟩
  rw [List.getElem?_set_ne (Ne.symm n)] at q ⊢
  exact S.2 j v q
theorem exM_out {i t : Nat} {fs : List (Nat × AV)} {a : Addr} {d : Option Addr} {io : List Addr} {H : Hp} {as : Sl} {σ : L2.St} (S : (exM W i t fs a d).rel io H as σ) : (std W).rel io H (as.set i none) (σ.set i none) := by
  refine ⟨by simp [S.1.1], fun j v q => ?_⟩
  by_cases e : j = i
  · subst e
    obtain ⟨hl, _⟩ := List.getElem?_eq_some_iff.mp q
    rw [List.length_set] at hl
    rw [List.getElem?_set_self hl] at q
    cases q
  · rw [List.getElem?_set_ne (Ne.symm e)] at q ⊢
    exact S.2.1 j v e q
theorem PssWip {E : WX} {D : Ends} {io : List Addr} {H : Hp} {i t : Nat} {fs : List (Nat × AV)} {a : Addr} {d : Option Addr} {r : SR} (P : Pss W (std W) E D io H (r.wip i)) :
    Pss W (exM W i t fs a d) E0x ⟨fun σ' H' => D.nx (σ'.set i none) H', D.rt, fun σ' H' => D.bk (σ'.set i none) H', fun σ' H' => D.ct (σ'.set i none) H'⟩ io H r := by
  cases r with
  | nx s h => exact fun io' H' σ' e rl S => P io' H' _ e rl (exM_out S)
  | bk s h => exact fun io' H' σ' e rl S => P io' H' _ e rl (exM_out S)
  | ct s h => exact fun io' H' σ' e rl S => P io' H' _ e rl (exM_out S)
  | rt v h => exact P
  | exc t fs s h => exact P.elim
  | stuck => exact P
theorem hd_ok {E : WX} (w : XWd W T) (hK : X.K = W.K) (hs' : X.stack = X.env :: X.outer) (hf : X.env.frame = some X.env.locals) (tk : Takes X E) {hds : List ExceptHandler} {hs : Hds} (h : HdD W X T hds hs) (D : Ends) : Cls_ X D hds (wiH W T E hs D) := by
  induction h with
  | nil => exact cls_nil hf (tk.imp fun cls d σ H ⟨io, hp, as, t, fs, rl, S, rx, _, _, P⟩ => P io H σ cls d Ext.refl rl S rx)
  | @only x c f b₀ suite np pos hds hs hc h1 h2 hsu r ih =>
    refine cls_only (ts := fun _ _ _ => tS W (std W) E0x f) (w' := wiH W T E hs D) hs' hf hc (fun a oe cls d pn _ _ => hsu a oe pn) (fun cls d σ H ⟨io, hp, as, t, fs, rl, S, rx, t1, t2, P⟩ => ?_) ih
    obtain ⟨rc, rx2⟩ := rx
    subst rc
    refine ⟨T.sub t c, by rw [hK]; exact w.exm t c t1 t2 h1 h2, fun hb a na => ⟨io, hp, as, rl, S, ?_⟩, fun hb => ⟨io, hp, as, t, fs, rl, S, ⟨rfl, rx2⟩, t1, t2, ?_⟩⟩
    · unfold pickH at P
      rw [hb] at P
      exact PssE0 P
    · unfold pickH at P
      rw [hb] at P
      exact P
  | @as x n i c f b₀ suite np pos hds hs hc h1 h2 hN hi hl hsu r ih =>
    refine cls_as (ts := fun a cls d D' σ H => ∃ t fs, T.n ≤ t ∧ t < T.m ∧ cls = .ref (W.cl t) ∧ tS W (exM W i t fs a d) E0x f D' σ H) (w' := wiH W T E hs D) hs' hf hN hi hl hc (fun a oe cls d pn z1 z2 => ⟨fun pins s σ H D' I ⟨t, fs, t1, t2, ec, q⟩ => ?_⟩) (fun cls d σ H ⟨io, hp, as, t, fs, rl, S, rx, t1, t2, P⟩ => ?_) ih
    · subst ec
      exact (hsu a oe pn t fs d t1 t2 z1 z2).run pins s σ H D' I q
    · obtain ⟨rc, rx2⟩ := rx
      subst rc
      refine ⟨T.sub t c, by rw [hK]; exact w.exm t c t1 t2 h1 h2, fun hb a na => ?_, fun hb => ⟨io, hp, as, t, fs, rl, S, ⟨rfl, rx2⟩, t1, t2, ?_⟩⟩
      · unfold pickH at P
        rw [hb] at P
        have P2 : Pss W (std W) E D io H (if i < as.length then (f (as.set i (some (.exn t fs))) hp).wip i else .stuck) := P
        by_cases hl2 : i < as.length
        · rw [if_pos hl2] at P2
          exact ⟨t, fs, t1, t2, rfl, io, hp, _, rl, exM_in S hl2 rx2, PssWip P2⟩
        · rw [if_neg hl2] at P2
          exact P2.elim
      · unfold pickH at P
        rw [hb] at P
        exact P
theorem sTry {E : WX} {body : List Stmt} {h₀ : ExceptHandler} {hds : List ExceptHandler} {hs : Hds} {fb : DS} {pos : Pos} (w : XWd W T) (hK : X.K = W.K) (hs' : X.stack = X.env :: X.outer) (hf : X.env.frame = some X.env.locals) (tk : Takes X E)
    (hb : ∀ (E' : WX) (pn : List (Addr × Obj)) (xe : Value → Shared → Prop), Takes (X.tr pn xe) E' → PassesOwn (model X.prog X.w) X.A X.env xe → PSs (X.tr pn xe) body (tS W (std W) E' fb)) (hd : HdD W X T (h₀ :: hds) hs) :
    PS X (.Try body (h₀ :: hds) [] [] pos) (tS W (std W) E (dTry T fb hs)) := psI (ps_tryG (tb := fun w' => tS W (std W) w' fb) (wi := wiH W T E hs) hs' hf hb (hd_ok w hK hs' hf tk hd)) fun D σ H ⟨io, hp, as, rl, S, P⟩ => by
  refine ⟨io, hp, as, rl, S, ?_⟩
  unfold dTry at P
  cases z : fb as hp with
  | exc t fs s1 h1 =>
    rw [z] at P
    have P2 : Pss W (std W) E D io H (if T.n ≤ t ∧ t < T.m then pickH T t fs s1 h1 hs else .stuck) := P
    by_cases ht : T.n ≤ t ∧ t < T.m
    · rw [if_pos ht] at P2
      exact fun io' H' σ' cls d e rl' S' rx => ⟨io', h1, s1, t, fs, rl', S', rx, ht.1, ht.2, Pss.later P2 e⟩
    · rw [if_neg ht] at P2
      exact P2.elim
  | nx s h =>
    rw [z] at P
    exact P
  | rt v h =>
    rw [z] at P
    exact P
  | bk s h =>
    rw [z] at P
    exact P
  | ct s h =>
    rw [z] at P
    exact P
  | stuck =>
    rw [z] at P
    exact P
end
section
variable {W : Wd} {X : Cx} {T : XT} {E : WX} {a : Addr} {oe : Obj} {pn : List (Addr × Obj)} {i j t : Nat} {fs : List (Nat × AV)} {d : Option Addr} {x nm : Str} {p pos : Pos}
theorem xfD (w : XWd W T) (hK : X.K = W.K) (h1 : T.n ≤ t) (h2 : t < T.m) (hz : Zc (.ref (W.cl t)) d oe) (hf : ∃ vs, oe.data = .fields vs) (hj : W.fn[j]? = some nm) (he : PE (X.suite a ((a, oe) :: pn)) (.Name x p) (tVar i)) (hb : attributeBase (.Name x p) nm X.env (eval (.Name x p) X.env) = eval (.Name x p) X.env := by rfl) :
    PE (X.suite a ((a, oe) :: pn)) (.Attribute (.Name x p) nm pos) (tD W (exM W i t fs a d) E (dXf i j)) := by
  have xf := w.xf t h1 h2
  have no := w.no t nm h1 h2 (List.mem_of_getElem? hj)
  rw [← hK] at xf no
  refine peI (pe_xf xf no hz hf he hb) fun σ H Q ⟨io, hp, as, rl, S, P⟩ => ?_
  obtain ⟨⟨_, s2, s3⟩, _, s5⟩ := S
  unfold dXf at P
  rw [s3] at P
  refine ⟨.ref a, s2, rfl, rfl, ?_⟩
  cases z : fget fs j with
  | none =>
    have P2 : Pst W (RV W) E σ Q io H (match fget fs j with
      | some v => .ok v hp
      | none => .stuck) := P
    rw [z] at P2
    exact P2.elim
  | some v =>
    have P2 : Pst W (RV W) E σ Q io H (match fget fs j with
      | some v => .ok v hp
      | none => .stuck) := P
    rw [z] at P2
    rcases s5 with ⟨rfl, _⟩ | ⟨dd, vs, e1, e2, e3⟩
    · cases z
    · obtain ⟨y, l, ry⟩ := e3.get hj z
      exact ⟨dd, vs, y, e1, e2, l, P2.ok rl ry⟩
theorem tyLook_in : ∀ {l : List (Nat × String × Bool)} {t : Nat} {n : String} {b : Bool}, tyLook l t n = some b → (t, n, b) ∈ l
  | [], _, _, _, h => by cases h
  | (t', n', b') :: r, t, n, b, h => by
    unfold tyLook at h
    by_cases e : t' = t ∧ n' = n
    · rw [if_pos e] at h
      cases h
      obtain ⟨rfl, rfl⟩ := e
      exact List.mem_cons_self
    · rw [if_neg e] at h
      exact List.mem_cons_of_mem _ (tyLook_in h)
theorem isXD {n : String} {xc : Str} {p2 p3 : Pos} (w : XWd W T) (hK : X.K = W.K) (h1 : T.n ≤ t) (h2 : t < T.m) (hz : Zc (.ref (W.cl t)) d oe) (hf : ∃ vs, oe.data = .fields vs) (hm : X.mg "isinstance" = none) (he : PE (X.suite a ((a, oe) :: pn)) (.Name x p) (tVar i)) (hm2 : X.mg xc = none) (hv : bootBuiltins xc = some (.type n))
    (hg : Gl X "isinstance" := by rfl) (hg2 : Gl X xc := by rfl) (hn : xc ≠ "__name__" := by decide) (hdb : (xc == ("__debug__" : Str)) = false := by decide)
    (hs : starEach [.Name x p, .Name xc p2] X.env = (false, eval (.Name x p) X.env) :: starEach [.Name xc p2] X.env := by rfl) (hs2 : starEach [.Name xc p2] X.env = (false, eval (.Name xc p2) X.env) :: starEach [] X.env := by rfl) (hpl : (backTo pos (starEach [.Name xc p2] X.env)).any (·.1) = false := by rfl) :
    PE (X.suite a ((a, oe) :: pn)) (.Call (.Name "isinstance" p3) [.Name x p, .Name xc p2] [] pos) (tD W (exM W i t fs a d) E (dIsX T i n)) := by
  have cr : CallR (X.suite a ((a, oe) :: pn)) (.builtin "isinstance") (fun xs H Q => ∃ (b : Bool), xs = [.ref a, .ty n] ∧ PySem.W.kitOne X.K (.ref (W.cl t)) (.type n) = some b ∧ (d = none ∨ ∃ dd vs, d = some dd ∧ H dd = some (.xd vs)) ∧ Q (.bl b) H) := by
    intro pins s σ H xs us Q I r h
    obtain ⟨b, rfl, e, hd, q⟩ := h
    cases r with
    | cons rx rr =>
      cases rr with
      | cons rt rr =>
        cases rr
        cases rx
        cases rt
        obtain ⟨hget, _⟩ := I.pin (a, oe) (List.mem_append.mpr (.inl List.mem_cons_self))
        obtain ⟨vs, hv⟩ := hf
        have ec := w.ec t h1 h2
        rw [← hK] at ec
        have hcl : (PySem.W.clsIn X.K (W.cl t)).isSome = true := by
          obtain ⟨cd, hc, _⟩ := PySem.W.any_some ec.hd
          rw [hc]
          rfl
        obtain ⟨od, J⟩ : ∃ od, PySem.W.InstAt s.heap a oe (W.cl t) od := by
          rcases hd with rfl | ⟨dd, ws, rfl, hdd⟩
          · exact ⟨none, hget, hz.1, by unfold PySem.W.notCls; rw [hv] <;> rfl, by rw [hz.2]; trivial⟩
          · have hx : ObjOk X.prog X.w H s.heap dd (.xd ws) := I.hok dd _ hdd
            obtain ⟨mA, hns, _⟩ := hx
            obtain ⟨o, ho, _⟩ := lookIn_ns hns
            exact ⟨some o, hget, hz.1, by unfold PySem.W.notCls; rw [hv] <;> rfl, by rw [hz.2]; exact ho⟩
        exact PySem.W.kia_one (PySem.W.kitx_exc hcl ec.hg ec.hk ec.hs ec.ha ec.hn ec.ht ec.hm) I.kIn J e (fun z => nomatch z) fun tk => ⟨.bl b, H, I.kept (t' := tk) fun _ _ z => z, rfl, q⟩
  have ta : PA (X.suite a ((a, oe) :: pn)) [.Name x p, .Name xc p2] (tCons (tVar i) (tCons (tC (.ty n)) tNil)) := pa_cons he (pa_cons (pe_bltn hg2 hm2 hv (v := .ty n) rfl hn hdb) pa_nil (by exact hs2)) (by exact hs)
  refine peI (pe_callB cr hg hm PyProof.Rows.Boot.«isinstance» ta (by decide) (by decide) (by exact hs) (by exact hpl)) fun σ H Q ⟨io, hp, as, rl, S, P⟩ => ?_
  obtain ⟨⟨_, s2, s3⟩, _, s5⟩ := S
  unfold dIsX at P
  rw [s3] at P
  have P2 : Pst W (RV W) E σ Q io H (match tyLook T.ty t n with
    | some b => .ok (.bl b) hp
    | none => .stuck) := P
  cases z : tyLook T.ty t n with
  | none =>
    rw [z] at P2
    exact P2.elim
  | some b =>
    rw [z] at P2
    have e := w.ty _ (tyLook_in z)
    rw [← hK] at e
    refine ⟨.ref a, s2, b, rfl, e, ?_, P2.ok rl (.bl b)⟩
    rcases s5 with ⟨_, h⟩ | ⟨dd, vs, h, h', _⟩
    · exact .inl h
    · exact .inr ⟨dd, vs, h, h'⟩
end
end Dn
namespace Dn
open PySem PySem.Spec PyProof.Rows L2

section
variable {X : Cx}
theorem vt (i : Nat) {x : Str} {pos : Pos} (hN : X.N[i]? = some x := by rfl) (hv : Vis X.env.scope x := by first | exact Or.inl rfl | exact Or.inr (Or.inl rfl) | exact Or.inr (Or.inr rfl)) (hd : (x == ("__debug__" : Str)) = false := by decide)
    (hcd : (x == ("__classdict__" : Str)) = false := by decide) : PE X (.Name x pos) (tVar i) := pe_var hN hv hd hcd
end
theorem bt_ValueError : bootBuiltins "ValueError" = some (.type "ValueError") := by decide +kernel
theorem bt_IndexError : bootBuiltins "IndexError" = some (.type "IndexError") := by decide +kernel
theorem bt_KeyError : bootBuiltins "KeyError" = some (.type "KeyError") := by decide +kernel
theorem bt_LookupError : bootBuiltins "LookupError" = some (.type "LookupError") := by decide +kernel
theorem bt_RuntimeError : bootBuiltins "RuntimeError" = some (.type "RuntimeError") := by decide +kernel

def mkWX (K : PySem.W.Frag) (cs xs fn : List Str) (sub : Nat → Nat → Bool) (hn : fn.Nodup) (h : wdXB cs xs fn sub K = true) (h1 : PySem.W.specialIn K (.builtin "object.__class__") "__get__" = some (some (.builtin "getset_descriptor.__get__"))) (h2 : PySem.W.takesIn K (.builtin "object.__class__") = some true) : Wd where
  K := K
  cl := clOf K (cs ++ xs)
  fn := fn
  fnd := hn
  ct := ctOf cs.length sub
  cg := fun t ht => clB_ok (He.ba (allN_ok h t (of_decide_eq_true ht))).1
  cd := h1
  ck := h2
  ctf := fun n t hn ht => by
    have h3 := (He.ba (He.ba (He.ba (allN_ok h t (of_decide_eq_true ht))).2).2).1
    exact of_decide_eq_true (He.ba (List.all_eq_true.mp h3 n hn)).1
  cty := fun n t hn ht => by
    have h3 := (He.ba (He.ba (He.ba (allN_ok h t (of_decide_eq_true ht))).2).2).1
    exact of_decide_eq_true (He.ba (List.all_eq_true.mp h3 n hn)).2
  csf := fun s t hs ht => by
    have h3 := (He.ba (He.ba (He.ba (He.ba (allN_ok h t (of_decide_eq_true ht))).2).2).2).1
    exact of_decide_eq_true (He.ba (allN_ok h3 s (of_decide_eq_true hs))).1
  cks := fun t ht => (clB_ok (He.ba (allN_ok h t (of_decide_eq_true ht))).1).1
  cb := fun t ht => (He.ba (He.ba (allN_ok h t (of_decide_eq_true ht))).2).1
  css := fun s t hs ht => by
    have h3 := (He.ba (He.ba (He.ba (He.ba (allN_ok h t (of_decide_eq_true ht))).2).2).2).1
    exact of_decide_eq_true (He.ba (allN_ok h3 s (of_decide_eq_true hs))).2
  noat := fun t s ht hs => by
    have h3 := (He.ba (He.ba (He.ba (He.ba (allN_ok h t (of_decide_eq_true ht))).2).2).2).2
    exact He.eqO_ok (List.all_eq_true.mp h3 s hs)
theorem xwB_ok {W : Wd} {cs : List Str} {T : XT} (hc : W.cl = clOf W.K cs) (h : xwB cs W.fn T W.K = true) : XWd W T := by
  obtain ⟨h1, h2⟩ := He.ba h
  have at_ : ∀ t, T.n ≤ t → t < T.m → xcB W.fn W.K (W.cl t) = true ∧ allN (T.m - T.n) (fun j => decide (PySem.W.exmOne W.K (.ref (clOf W.K cs t)) (.ref (clOf W.K cs (T.n + j))) = some (T.sub t (T.n + j)))) = true := fun t a b => by
    have z := He.ba (allN_ok h1 (t - T.n) (by omega))
    rw [show T.n + (t - T.n) = t by omega, ← hc] at z
    rw [← hc]
    exact z
  have xc : ∀ t, T.n ≤ t → t < T.m → xfB W.K (W.cl t) = true ∧ (W.fn.all fun x => He.eqO (PySem.W.findIn W.K (.ref (W.cl t)) x) (some none)) = true ∧ He.eqO (PySem.W.findIn W.K (.ref (W.cl t)) "__class__") (some (some (.builtin "object.__class__"))) = true ∧ decide (PySem.W.mroIn W.K (W.cl t) (.type "object") = some true) = true := fun t a b => by
    obtain ⟨z1, z⟩ := He.ba (at_ t a b).1
    obtain ⟨z2, z⟩ := He.ba z
    exact ⟨z1, z2, He.ba z⟩
  refine ⟨fun s t a b c d => ?_, fun t a b => xfB_ok (xc t a b).1, fun t s a b hs => He.eqO_ok (List.all_eq_true.mp (xc t a b).2.1 s hs), fun t a b => ?_, fun q hq => ?_⟩
  · have z := of_decide_eq_true (allN_ok (at_ s a b).2 (t - T.n) (by omega))
    rw [show T.n + (t - T.n) = t by omega, ← hc] at z
    exact z
  · have xf := xfB_ok (xc t a b).1
    exact ⟨xf.ga, xf.gg, xf.exC, xf.hdC, He.eqO_ok (xc t a b).2.2.1, W.cd, W.ck, of_decide_eq_true (xc t a b).2.2.2⟩
  · rw [hc]
    exact of_decide_eq_true (List.all_eq_true.mp h2 q hq)
theorem x0B_ok {mg : Str → Option Value} {W : Wd} {t : Nat} {x : Str} {B newId initId : String} {bmB : List Value} (F : ExcBaseFacts B newId initId bmB) (hc : W.cl t = He.ga W.K x) (hm : mg x = some (.ref (He.ga W.K x))) (h : x0B x bmB newId W.K = true) : HasX0 mg W t x := by
  obtain ⟨h1, h2⟩ := He.ba h
  obtain ⟨h3, h4⟩ := He.ba h2
  obtain ⟨h5, h6⟩ := He.ba h4
  exact ⟨B, newId, initId, bmB, F, by rw [hc]; exact h1, by rw [hc]; exact hm, by rw [hc]; exact h6, by rw [hc]; exact of_decide_eq_true h3, by rw [hc]; exact of_decide_eq_true h5⟩
theorem xiB_ok {P : Program} {w : World} {mg : Str → Option Value} {base : Heap} {W : Wd} {t j : Nat} {x nm : Str} {p : Pth} {B newId : String} {bmB : List Value} {fd : FuncData} {ps : List Str} (F : PySem.DX.NewF B newId bmB) (hc : W.cl t = He.ga W.K x) (hm : mg x = some (.ref (He.ga W.K x))) (hj : W.fn[j]? = some nm)
    (h : xiB x nm p bmB newId W.K = true) (fo : FnOk P w W.K mg base (L2.CX P w) 1 (p W.K) fd ps (spXi W.K bmB newId nm)) (hb : ∀ (s : Shared) (us : List Value), us.length = ps.length → BindsTo s fd ⟨us, []⟩ (ps.zip us)) : HasXI P w mg base W t j x := by
  obtain ⟨h1, h⟩ := He.ba h
  obtain ⟨h2, h⟩ := He.ba h
  obtain ⟨h3, h⟩ := He.ba h
  obtain ⟨h4, h⟩ := He.ba h
  obtain ⟨h5, h⟩ := He.ba h
  obtain ⟨h6, h⟩ := He.ba h
  obtain ⟨h7, h⟩ := He.ba h
  obtain ⟨h8, h⟩ := He.ba h
  obtain ⟨h9, h10⟩ := He.ba h
  refine ⟨B, newId, bmB, nm, p W.K, fd, ps, F, hj, ⟨?_, ?_, ?_, ?_, ?_, ?_, ?_, ?_⟩, by rw [hc]; exact He.eqO_ok h6, of_decide_eq_true h7, fo, fun s us _ hl => ?_, by rw [hc]; exact hm⟩
  · rw [hc]; exact h1
  · rw [hc]; exact h2
  · rw [hc]; exact He.eqO_ok h3
  · rw [hc]; exact h4
  · rw [hc]; exact He.eqO_ok h5
  · rw [hc]; exact of_decide_eq_true h8
  · rw [hc]; exact of_decide_eq_true h9
  · rw [hc]; exact h10
  · rw [List.append_nil] at hl ⊢
    exact hb s us hl
end Dn
namespace Dn
open PySem
section
variable {h : Hep} {s : Sl} {t j i c : Nat} {fs : List (Nat × AV)} {v : AV} {f : DE} {fb : DS} {T : XT} {hs : Hds} {n : String}
@[simp] theorem xRaise0 : dRaise0 t s h = .exc t [] s h := rfl
@[simp] theorem xRaiseI : dRaiseI t j f s h = (f s h).st s fun v h1 => .exc t [(j, v)] s h1 := rfl
@[simp] theorem SR.fin_exc' : (SR.exc t fs s h).fin = .exc t fs h := rfl
def tryK (T : XT) (hs : Hds) (r : SR) : SR := match r with
  | .exc t fs s1 h1 => if T.n ≤ t ∧ t < T.m then pickH T t fs s1 h1 hs else .stuck
  | r => r
@[simp] theorem xTry : dTry T fb hs s h = tryK T hs (fb s h) := rfl
@[simp] theorem tryK_nx : tryK T hs (.nx s h) = .nx s h := rfl
@[simp] theorem tryK_rt : tryK T hs (.rt v h) = .rt v h := rfl
@[simp] theorem tryK_bk : tryK T hs (.bk s h) = .bk s h := rfl
@[simp] theorem tryK_ct : tryK T hs (.ct s h) = .ct s h := rfl
@[simp] theorem tryK_exc : tryK T hs (.exc t fs s h) = if T.n ≤ t ∧ t < T.m then pickH T t fs s h hs else .stuck := rfl
@[simp] theorem pickH_nil : pickH T t fs s h [] = .exc t fs s h := rfl
@[simp] theorem pickH_only : pickH T t fs s h ((c, none, fb) :: hs) = if T.sub t c = true then (fb s h).noX else pickH T t fs s h hs := by
  rw [pickH]
  cases T.sub t c <;> rfl
@[simp] theorem pickH_as : pickH T t fs s h ((c, some i, fb) :: hs) = if T.sub t c = true then (if i < s.length then (fb (s.set i (some (.exn t fs))) h).wip i else .stuck) else pickH T t fs s h hs := by
  rw [pickH]
  cases T.sub t c <;> rfl
@[simp] theorem noX_nx : (SR.nx s h).noX = .nx s h := rfl
@[simp] theorem noX_rt : (SR.rt v h).noX = .rt v h := rfl
@[simp] theorem noX_bk : (SR.bk s h).noX = .bk s h := rfl
@[simp] theorem noX_ct : (SR.ct s h).noX = .ct s h := rfl
@[simp] theorem wip_nx : (SR.nx s h).wip i = .nx (s.set i none) h := rfl
@[simp] theorem wip_rt : (SR.rt v h).wip i = .rt v h := rfl
@[simp] theorem wip_bk : (SR.bk s h).wip i = .bk (s.set i none) h := rfl
@[simp] theorem wip_ct : (SR.ct s h).wip i = .ct (s.set i none) h := rfl
@[simp] theorem xXf : dXf i j s h = xfK j s[i]? h := rfl
@[simp] theorem xfK_some : xfK j (some (some (.exn t fs))) h = match fget fs j with
  | some v => .ok v h
  | none => .stuck := rfl
@[simp] theorem xIsX : dIsX T i n s h = isXK T n s[i]? h := rfl
@[simp] theorem isXK_some : isXK T n (some (some (.exn t fs))) h = match tyLook T.ty t n with
  | some b => .ok (.bl b) h
  | none => .stuck := rfl
@[simp] theorem fget_one : fget [(j, v)] j = some v := by simp [fget]
/-- an exception leaves a call -/
@[simp] theorem R.st_exc' {U : Type} {k : U → Hep → SR} : (R.exc t fs h : R U).st s k = .exc t fs s h := rfl
end
end Dn
namespace Dn
open PySem PySem.Spec PyProof.Rows L2

def dD0 : DE := fun _ h => .ok (.ref h.length) (h ++ [.dK []])
/-- the dict at a value -/
def dicAt (h : Hep) : AV → Option (Nat × List (Key × AV))
  | .ref n => match h[n]? with
    | some (.dK kvs) => some (n, kvs)
    | _ => none
  | _ => none
def getK (d : AV) (o : Option (Nat × List (Key × AV))) (k : Option Key) (h : Hep) : R AV := match o, k with
  | some (_, kvs), some q => .ok ((dget kvs q).getD d) h
  | _, _ => .stuck
/-- d.get(k) -/
def dGet1 (fo fk : DE) : DE := fun s h => (fo s h).bind fun o h1 => match dicAt h1 o with
  | some _ => (fk s h1).bind fun k h2 => getK .non (dicAt h2 o) (keyOf k) h2
  | none => .stuck
def dGet2 (fo fk fx : DE) : DE := fun s h => (fo s h).bind fun o h1 => match dicAt h1 o with
  | some _ => (fk s h1).bind fun k h2 => (fx s h2).bind fun x h3 => getK x (dicAt h3 o) (keyOf k) h3
  | none => .stuck
def popK (o : Option (Nat × List (Key × AV))) (k : Option Key) (h : Hep) : R AV := match o, k with
  | some (n, kvs), some q => (match dget kvs q with
    | some v => .ok v (h.set n (.dK (ddrop kvs q)))
    | none => .stuck)
  | _, _ => .stuck
/-- d.pop(k), the key is there -/
def dPop1 (fo fk : DE) : DE := fun s h => (fo s h).bind fun o h1 => match dicAt h1 o with
  | some _ => (fk s h1).bind fun k h2 => popK (dicAt h2 o) (keyOf k) h2
  | none => .stuck
def clearK (o : Option (Nat × List (Key × AV))) (h : Hep) : R AV := match o with
  | some (n, _) => .ok .non (h.set n (.dK []))
  | none => .stuck
def dClr (fo : DE) : DE := fun s h => (fo s h).bind fun o h1 => clearK (dicAt h1 o) h1
def setdK (x : AV) (o : Option (Nat × List (Key × AV))) (k : Option Key) (h : Hep) : R AV := match o, k with
  | some (n, kvs), some q => if kvs.length < SZ then (match dget kvs q with
    | some v => .ok v h
    | none => .ok x (h.set n (.dK (dput kvs q x)))) else .stuck
  | _, _ => .stuck
def dSetd (fo fk fx : DE) : DE := fun s h => (fo s h).bind fun o h1 => match dicAt h1 o with
  | some _ => (fk s h1).bind fun k h2 => (fx s h2).bind fun x h3 => setdK x (dicAt h3 o) (keyOf k) h3
  | none => .stuck
section
variable {W : Wd} {M : Md W} {E : WX} {X : Cx} {o e f : Expr} {fo fk fx : DE} {pos apos cpos : Pos}
theorem d0D : PE X (.Dict [] [] pos) (tD W M E dD0) := peI pe_dnewK fun σ H Q ⟨io, hp, as, rl, S, P⟩ p hn => by
  have rl2 : Rl W (io ++ [p]) (hp ++ [.dK []]) (upd H p (.dK [])) := rl.new hn (.dK .nil)
  have at_ : (io ++ [p])[hp.length]? = some p := by
    rw [← rl.len]
    simp
  exact P _ _ _ (Ext.new io (.dK []) hn [p]) rl2 (.ref at_)
theorem dicAt_in {io : List Addr} {H : Hp} {hp : Hep} {a : AV} {x : V} {n : Nat} {kvs : List (Key × AV)} (z : dicAt hp a = some (n, kvs)) (rl : Rl W io hp H) (r : RV W io H a x) : ∃ p vs, x = .ref p ∧ a = .ref n ∧ io[n]? = some p ∧ hp[n]? = some (.dK kvs) ∧ H p = some (.dK vs) ∧ RKs W io H kvs vs := by
  cases r with
  | @ref m p hi =>
    have z1 : (match hp[m]? with
      | some (.dK kvs) => some (m, kvs)
      | _ => none) = some (n, kvs) := z
    cases q : hp[m]? with
    | none =>
      rw [q] at z1
      cases z1
    | some ob =>
      rw [q] at z1
      cases ob with
      | dK l =>
        cases z1
        obtain ⟨vs, e1, r1⟩ := rl.dK hi q
        exact ⟨p, vs, rfl, rfl, hi, q, e1, r1⟩
      | _ => cases z1
  | _ => cases z
theorem g1_in {σ : L2.St} {H : Hp} {Q : VK} (h : tD W M E (dGet1 fo fk) σ H Q) : tDGet1 (tD W M E fo) (tD W M E fk) σ H Q := by
  obtain ⟨io, hp, as, rl, S, P⟩ := h
  refine (step (rh := RV W) (f := fo) rl S P).imp fun x H1 ⟨io2, hp2, a, e2, rl2, ra, P2⟩ => ?_
  cases z : dicAt hp2 a with
  | none =>
    simp only [z] at P2
    exact P2.elim
  | some q =>
    obtain ⟨n, kvs⟩ := q
    simp only [z] at P2
    obtain ⟨p, vs, rfl, rfl, hi, hk, hd, rk⟩ := dicAt_in z rl2 ra
    refine ⟨p, rfl, .inl ⟨vs, .inl hd⟩, (step (rh := RV W) (f := fk) rl2 (M.mono e2 S) P2).imp fun y H3 ⟨io3, hp3, b, e3, rl3, rb, P3⟩ => ?_⟩
    cases z3 : dicAt hp3 (.ref n) with
    | none =>
      rw [z3] at P3
      exact P3.elim
    | some q3 =>
      obtain ⟨n3, kvs3⟩ := q3
      rw [z3] at P3
      cases kb : keyOf b with
      | none =>
        rw [kb] at P3
        exact P3.elim
      | some k =>
        rw [kb] at P3
        obtain ⟨p3, vs3, ep, en, hi3, hk3, hd3, rk3⟩ := dicAt_in z3 rl3 (.ref (e3.at hi))
        cases ep
        have rg := rk3.get k
        refine ⟨valV vs3 k, ?_, P3.ok rl3 ?_⟩
        · rw [keyOf_in kb rb]
          exact DGet.k hd3
        · cases d1 : dget kvs3 k with
          | none =>
            rw [d1] at rg
            cases d2 : valV vs3 k with
            | none => exact .non
            | some _ =>
              rw [d2] at rg
              exact rg.elim
          | some v =>
            rw [d1] at rg
            cases d2 : valV vs3 k with
            | none =>
              rw [d2] at rg
              exact rg.elim
            | some w =>
              rw [d2] at rg
              exact rg
theorem get1D (hu : X.A.units + 1 < cLine) (ho : PE X o (tD W M E fo)) (he : PE X e (tD W M E fk)) (m : M1 X o "get" apos e cpos := by exact ⟨rfl, rfl, rfl, rfl⟩) : PE X (.Call (.Attribute o "get" apos) [e] [] cpos) (tD W M E (dGet1 fo fk)) := peI (pe_dget1 hu ho he m) fun _ _ _ h => g1_in h
theorem g2_in {σ : L2.St} {H : Hp} {Q : VK} (h : tD W M E (dGet2 fo fk fx) σ H Q) : tDGet2 (tD W M E fo) (tD W M E fk) (tD W M E fx) σ H Q := by
  obtain ⟨io, hp, as, rl, S, P⟩ := h
  refine (step (rh := RV W) (f := fo) rl S P).imp fun x H1 ⟨io2, hp2, a, e2, rl2, ra, P2⟩ => ?_
  cases z : dicAt hp2 a with
  | none =>
    simp only [z] at P2
    exact P2.elim
  | some q =>
    obtain ⟨n, kvs⟩ := q
    simp only [z] at P2
    obtain ⟨p, vs, rfl, rfl, hi, hk, hd, rk⟩ := dicAt_in z rl2 ra
    refine ⟨p, rfl, .inl ⟨vs, .inl hd⟩, (step (rh := RV W) (f := fk) rl2 (M.mono e2 S) P2).imp fun y H3 ⟨io3, hp3, b, e3, rl3, rb, P3⟩ => ?_⟩
    refine (step (rh := RV W) (f := fx) rl3 (M.mono e3 (M.mono e2 S)) P3).imp fun w H4 ⟨io4, hp4, c, e4, rl4, rc, P4⟩ => ?_
    cases z4 : dicAt hp4 (.ref n) with
    | none =>
      rw [z4] at P4
      exact P4.elim
    | some q4 =>
      obtain ⟨n4, kvs4⟩ := q4
      rw [z4] at P4
      cases kb : keyOf b with
      | none =>
        rw [kb] at P4
        exact P4.elim
      | some k =>
        rw [kb] at P4
        obtain ⟨p4, vs4, ep, en, hi4, hk4, hd4, rk4⟩ := dicAt_in z4 rl4 (.ref (e4.at (e3.at hi)))
        cases ep
        have rg := rk4.get k
        refine ⟨valV vs4 k, ?_, P4.ok rl4 ?_⟩
        · rw [keyOf_in kb rb]
          exact DGet.k hd4
        · cases d1 : dget kvs4 k with
          | none =>
            rw [d1] at rg
            cases d2 : valV vs4 k with
            | none => exact rc
            | some _ =>
              rw [d2] at rg
              exact rg.elim
          | some v =>
            rw [d1] at rg
            cases d2 : valV vs4 k with
            | none =>
              rw [d2] at rg
              exact rg.elim
            | some w =>
              rw [d2] at rg
              exact rg
theorem get2D (hu : X.A.units + 1 < cLine) (ho : PE X o (tD W M E fo)) (he : PE X e (tD W M E fk)) (hf : PE X f (tD W M E fx)) (m : M2 X o "get" apos e f cpos := by exact ⟨rfl, rfl, rfl, rfl⟩) : PE X (.Call (.Attribute o "get" apos) [e, f] [] cpos) (tD W M E (dGet2 fo fk fx)) := peI (pe_dget2 hu ho he hf m) fun _ _ _ h => g2_in h
theorem p1_in {σ : L2.St} {H : Hp} {Q : VK} (h : tD W M E (dPop1 fo fk) σ H Q) : tDPop1 (tD W M E fo) (tD W M E fk) σ H Q := by
  obtain ⟨io, hp, as, rl, S, P⟩ := h
  refine (step (rh := RV W) (f := fo) rl S P).imp fun x H1 ⟨io2, hp2, a, e2, rl2, ra, P2⟩ => ?_
  cases z : dicAt hp2 a with
  | none =>
    simp only [z] at P2
    exact P2.elim
  | some q =>
    obtain ⟨n, kvs⟩ := q
    simp only [z] at P2
    obtain ⟨p, vs, rfl, rfl, hi, hk, hd, rk⟩ := dicAt_in z rl2 ra
    refine ⟨p, rfl, .inl ⟨vs, .inl hd⟩, (step (rh := RV W) (f := fk) rl2 (M.mono e2 S) P2).imp fun y H3 ⟨io3, hp3, b, e3, rl3, rb, P3⟩ => ?_⟩
    cases z3 : dicAt hp3 (.ref n) with
    | none =>
      rw [z3] at P3
      exact P3.elim
    | some q3 =>
      obtain ⟨n3, kvs3⟩ := q3
      rw [z3] at P3
      cases kb : keyOf b with
      | none =>
        rw [kb] at P3
        exact P3.elim
      | some k =>
        rw [kb] at P3
        obtain ⟨p3, vs3, ep, en, hi3, hk3, hd3, rk3⟩ := dicAt_in z3 rl3 (.ref (e3.at hi))
        cases ep
        cases en
        have rg := rk3.get k
        have P4 : Pst W (RV W) E σ Q io3 H3 (match dget kvs3 k with
          | some v => .ok v (hp3.set n (.dK (ddrop kvs3 k)))
          | none => .stuck) := P3
        cases d1 : dget kvs3 k with
        | none =>
          rw [d1] at P4
          exact P4.elim
        | some v =>
          rw [d1] at P4 rg
          cases d2 : valV vs3 k with
          | none =>
            rw [d2] at rg
            exact rg.elim
          | some w =>
            rw [d2] at rg
            have es : Ext W io3 H3 io3 (upd H3 p (.dK (dropK vs3 k))) := Ext.set _ hd3 trivial
            exact ⟨vs3, k, w, hd3, keyOf_in kb rb, d2, P4 io3 _ w es (rl3.set hi3 hd3 trivial (.dK ((rk3.drop k).mono es))) (RV.mono es rg)⟩
theorem pop1D (ho : PE X o (tD W M E fo)) (he : PE X e (tD W M E fk)) (m : M1 X o "pop" apos e cpos := by exact ⟨rfl, rfl, rfl, rfl⟩) : PE X (.Call (.Attribute o "pop" apos) [e] [] cpos) (tD W M E (dPop1 fo fk)) := peI (pe_dpop1 ho he m) fun _ _ _ h => p1_in h
theorem tyV_dict {K : PySem.W.Frag} {p : Addr} {vs : List (Key × V)} {H : Hp} (e : H p = some (.dK vs)) : tyV K "dict" (.ref p) H := .inr (.inr (.inl ⟨rfl, .inl ⟨vs, e⟩⟩))
theorem clrD (ho : PE X o (tD W M E fo)) (hbase : attributeBase o "clear" X.env (eval o X.env) = eval o X.env := by rfl) (hline : (apos.endLine == cpos.line) = true := by rfl) : PE X (.Call (.Attribute o "clear" apos) [] [] cpos) (tD W M E (dClr fo)) := peI (pe_dclear ho hbase hline) fun σ H Q ⟨io, hp, as, rl, S, P⟩ => by
  refine (step (rh := RV W) (f := fo) rl S P).imp fun x H1 ⟨io2, hp2, a, e2, rl2, ra, P2⟩ => ?_
  cases z : dicAt hp2 a with
  | none =>
    rw [z] at P2
    exact P2.elim
  | some q =>
    obtain ⟨n, kvs⟩ := q
    rw [z] at P2
    obtain ⟨p, vs, rfl, rfl, hi, hk, hd, rk⟩ := dicAt_in z rl2 ra
    have es : Ext W io2 H1 io2 (upd H1 p (.dK [])) := Ext.set _ hd trivial
    exact ⟨tyV_dict hd, p, vs, rfl, rfl, hd, P2 io2 _ .non es (rl2.set hi hd trivial (.dK .nil)) .non⟩
end
end Dn
namespace Dn
open PySem PySem.Spec PyProof.Rows L2

section
variable {W : Wd} {io : List Addr} {H H' : Hp}
variable {p : Addr} {od : Obj} {vs : List (Key × V)} {o : HO}
theorem unlock_ne {a : Addr} {u : HO} (hp : H p = some (.frz od (.dK vs))) (ha : H a = some u) (n : ∀ b, u ≠ .frz b (.dK vs)) : a ≠ p := fun z => by
  subst z
  rw [hp] at ha
  cases ha
  exact n _ rfl
theorem unlock0 (hp : H p = some (.frz od (.dK vs))) : Ext0 W H (upd H p o) := by
  refine ⟨fun a xs h => ?_, fun a xs h => ?_, fun h' p' hp' => (fun ⟨ps, h1, h2, h3⟩ => ⟨ps, by rw [upd_ne (unlock_ne hp h1 fun _ z => by cases z)]; exact h1, h2, fun pos cv hc => by
      obtain ⟨c, e1, e2⟩ := h3 pos cv hc
      exact ⟨c, e1, by rw [upd_ne (unlock_ne hp e2 fun _ z => by unfold LamX.CodeO at z; cases z)]; exact e2⟩⟩) (h' p' hp')⟩
  · rcases h with (h | ⟨b, h⟩) | h
    · exact .inl (.inl (by rw [upd_ne (unlock_ne hp h fun _ z => by cases z)]; exact h))
    · exact .inl (.inr ⟨b, by rw [upd_ne (unlock_ne hp h fun _ z => by cases z)]; exact h⟩)
    · exact .inr h
  · rcases h with ⟨b, h⟩ | h
    · exact .inl ⟨b, by rw [upd_ne (unlock_ne hp h fun _ z => by cases z)]; exact h⟩
    · exact .inr h
/-- locked and unlocked: all else goes on -/
theorem unlockE {io' : List Addr} {H1 : Hp} (hd : H p = some (.dK vs)) (e : Ext W io (upd H p (.frz od (.dK vs))) io' H1) : Ext W io H io' (upd H1 p (.dK vs)) := by
  have es : Ext W io H io (upd H p (.frz od (.dK vs))) := Ext.set _ hd trivial
  have hp := e.frz p od _ upd_same
  have e2 := es.trans e
  have u := unlock0 (W := W) (o := .dK vs) hp
  refine ⟨e2.pre, fun a xs h => u.tup a xs (e2.tup a xs h), fun a xs h => u.rol a xs (e2.rol a xs h), fun a fs h => ?_, fun a b v h => ?_, fun a v h => ?_, fun h => u.tab (e2.tab h)⟩
  · have := e2.xd a fs h
    rw [upd_ne (unlock_ne hp this fun _ z => by cases z)]
    exact this
  · have ne : a ≠ p := fun z => by
      subst z
      rw [hd] at h
      cases h
    rw [upd_ne ne]
    exact e.frz a b v (by rw [upd_ne ne]; exact h)
  · have := e2.cod a v h
    rw [upd_ne (unlock_ne hp this fun _ z => by cases z)]
    exact this
theorem unlockR {io' : List Addr} {hp2 : Hep} {H1 : Hp} {n : Nat} {kvs : List (Key × AV)} (rl : Rl W io' hp2 H1) (hi : io'[n]? = some p) (hp : H1 p = some (.frz od (.dK vs))) (rk : RKs W io' H1 kvs vs) : Rl W io' (hp2.set n (.dK kvs)) (upd H1 p (.dK vs)) := by
  have u := unlock0 (W := W) (o := .dK vs) hp
  refine ⟨by simp [rl.len], rl.nd, fun i a q hi' h => ?_, u.tab rl.tb⟩
  by_cases e : i = n
  · subst e
    rw [hi] at hi'
    cases hi'
    obtain ⟨hl, _⟩ := List.getElem?_eq_some_iff.mp h
    rw [List.length_set] at hl
    rw [List.getElem?_set_self hl] at h
    cases h
    exact ⟨_, upd_same, .dK (rk.mono0 u)⟩
  · rw [List.getElem?_set_ne (Ne.symm e)] at h
    obtain ⟨v, ev, rv⟩ := rl.at hi' h
    have ne : a ≠ p := fun z => by
      subst z
      obtain ⟨l1, e1⟩ := List.getElem?_eq_some_iff.mp hi
      obtain ⟨l2, e2⟩ := List.getElem?_eq_some_iff.mp hi'
      exact e ((List.getElem_inj rl.nd).mp (e2.trans e1.symm))
    exact ⟨v, by rw [upd_ne ne]; exact ev, rv.mono0 u⟩
end
def lockK (n : Nat) (kvs : List (Key × AV)) (r : R AV) : R AV := match r with
  | .ok v h => .ok v (h.set n (.dK kvs))
  | _ => .stuck
def dLkE (fd f : DE) : DE := fun s h => match fd s h with
  | .ok a _ => (match dicAt h a with
    | some (n, kvs) => lockK n kvs (f s (h.set n (.frz (.dK kvs))))
    | none => .stuck)
  | _ => .stuck
section
variable {W : Wd} {M : Md W} {E : WX} {X : Cx} {e : Expr} {fd f : DE}
theorem dicAt_h {hp : Hep} {a : AV} {n : Nat} {kvs : List (Key × AV)} (z : dicAt hp a = some (n, kvs)) : hp[n]? = some (.dK kvs) := by
  cases a with
  | ref m =>
    have z1 : (match hp[m]? with
      | some (.dK kvs) => some (m, kvs)
      | _ => none) = some (n, kvs) := z
    cases q : hp[m]? with
    | none =>
      rw [q] at z1
      cases z1
    | some ob =>
      rw [q] at z1
      cases ob with
      | dK l =>
        cases z1
        exact q
      | _ => cases z1
  | _ => cases z
theorem lkD (he : PE X e (tD W M E f)) : PE X e (tD W M E (dLkE fd f)) := peI (pe_lock he) fun σ H Q ⟨io, hp, as, rl, S, P⟩ => by
  unfold dLkE at P
  cases z : fd as hp with
  | stuck =>
    rw [z] at P
    exact P.elim
  | exc t fs h =>
    rw [z] at P
    exact P.elim
  | ok a hx =>
    rw [z] at P
    cases z2 : dicAt hp a with
    | none =>
      simp only [z2] at P
      exact P.elim
    | some q =>
      obtain ⟨n, kvs⟩ := q
      simp only [z2] at P
      have hn := dicAt_h z2
      obtain ⟨p, hi⟩ : ∃ p, io[n]? = some p := by
        obtain ⟨l, _⟩ := List.getElem?_eq_some_iff.mp hn
        exact ⟨_, List.getElem?_eq_getElem (by rw [rl.len]; exact l)⟩
      obtain ⟨vs, hd, rk⟩ := rl.dK hi hn
      refine ⟨p, .dK vs, hd, trivial, fun od => ?_⟩
      have es : Ext W io H io (upd H p (.frz od (.dK vs))) := Ext.set _ hd trivial
      refine ⟨io, hp.set n (.frz (.dK kvs)), as, rl.set hi hd trivial (.frz (.dK (rk.mono es))), M.mono es S, ?_⟩
      cases z3 : f as (hp.set n (.frz (.dK kvs))) with
      | stuck =>
        rw [z3] at P
        exact P.elim
      | exc t fs h =>
        rw [z3] at P
        exact P.elim
      | ok v hp2 =>
        rw [z3] at P
        intro io' H' x e' rl' rx
        have hp' := e'.frz p od _ upd_same
        refine ⟨hp', ?_⟩
        exact P io' _ x (unlockE hd e') (unlockR rl' (e'.at hi) hp' ((rk.mono es).mono e')) (rx.mono0 (unlock0 hp'))
end

section
variable {W : Wd} {io : List Addr} {H : Hp} {n : Nat} {p : Addr} {od : Obj} {vs : List (Key × V)}
theorem dk_next {hp : Hep} {w i : Nat} {r : Option AV} (z : (Src.dK n w).next i hp = some r) : ∃ kvs, hp[n]? = some (.frz (.dK kvs)) ∧ r = kvs[i]?.map (pickD w i) := by
  have z1 : (match hp[n]? with
    | some (.frz (.dK kvs)) => some (kvs[i]?.map (pickD w i))
    | _ => none) = some r := z
  cases q : hp[n]? with
  | none =>
    rw [q] at z1
    cases z1
  | some o =>
    rw [q] at z1
    cases o with
    | frz o2 =>
      cases o2 with
      | dK kvs => exact ⟨kvs, rfl, (Option.some.inj z1).symm⟩
      | _ => cases z1
    | _ => cases z1
theorem frz_at {io' : List Addr} {H' : Hp} {hp : Hep} {kvs : List (Key × AV)} (hi : io[n]? = some p) (hd : H p = some (.frz od (.dK vs))) (e : Ext W io H io' H') (rl : Rl W io' hp H') (z : hp[n]? = some (.frz (.dK kvs))) : H' p = some (.frz od (.dK vs)) ∧ RKs W io' H' kvs vs := by
  have h1 := e.frz p od _ hd
  obtain ⟨u, e1, r1⟩ := rl.at (e.at hi) z
  rw [h1] at e1
  cases e1
  cases r1 with
  | frz r2 =>
    cases r2 with
    | dK r3 => exact ⟨h1, r3⟩
theorem src_keys (hi : io[n]? = some p) (hd : H p = some (.frz od (.dK vs))) : RSrc W io H (.dK n 0) (Itk p od vs) := fun io' H' hp e rl => by
  refine ⟨fun i z => ?_, fun i x z => ?_⟩
  · obtain ⟨kvs, z1, z2⟩ := dk_next z
    obtain ⟨h1, rk⟩ := frz_at hi hd e rl z1
    refine ⟨h1, ?_⟩
    rw [← rk.len]
    exact List.getElem?_eq_none_iff.mp (Option.map_eq_none_iff.mp z2.symm)
  · obtain ⟨kvs, z1, z2⟩ := dk_next z
    obtain ⟨h1, rk⟩ := frz_at hi hd e rl z1
    obtain ⟨⟨q, a⟩, e1, rfl⟩ := Option.map_eq_some_iff.mp z2.symm
    obtain ⟨v, e2, rv⟩ := rk.at_ e1
    refine ⟨⟨h1, (List.getElem?_eq_some_iff.mp e2).1⟩, fun w H2 ⟨eH, k2, v2, e3, ew⟩ => ?_⟩
    subst eH
    subst ew
    rw [e2] at e3
    cases e3
    exact ⟨Ext.refl, rl, rv_key q⟩
theorem src_vals (hi : io[n]? = some p) (hd : H p = some (.frz od (.dK vs))) : RSrc W io H (.dK n 1) (Itd p od vs) := fun io' H' hp e rl => by
  refine ⟨fun i z => ?_, fun i x z => ?_⟩
  · obtain ⟨kvs, z1, z2⟩ := dk_next z
    obtain ⟨h1, rk⟩ := frz_at hi hd e rl z1
    refine ⟨h1, ?_⟩
    rw [← rk.len]
    exact List.getElem?_eq_none_iff.mp (Option.map_eq_none_iff.mp z2.symm)
  · obtain ⟨kvs, z1, z2⟩ := dk_next z
    obtain ⟨h1, rk⟩ := frz_at hi hd e rl z1
    obtain ⟨⟨q, a⟩, e1, rfl⟩ := Option.map_eq_some_iff.mp z2.symm
    obtain ⟨v, e2, rv⟩ := rk.at_ e1
    refine ⟨⟨h1, (List.getElem?_eq_some_iff.mp e2).1⟩, fun w H2 ⟨eH, k2, e3⟩ => ?_⟩
    subst eH
    rw [e2] at e3
    cases e3
    exact ⟨Ext.refl, rl, rv⟩
theorem src_items (hi : io[n]? = some p) (hd : H p = some (.frz od (.dK vs))) : RSrc W io H (.dK n 2) (Iti p od vs) := fun io' H' hp e rl => by
  refine ⟨fun i z => ?_, fun i x z => ?_⟩
  · obtain ⟨kvs, z1, z2⟩ := dk_next z
    obtain ⟨h1, rk⟩ := frz_at hi hd e rl z1
    refine ⟨h1, ?_⟩
    rw [← rk.len]
    exact List.getElem?_eq_none_iff.mp (Option.map_eq_none_iff.mp z2.symm)
  · obtain ⟨kvs, z1, z2⟩ := dk_next z
    obtain ⟨h1, rk⟩ := frz_at hi hd e rl z1
    obtain ⟨⟨q, a⟩, e1, rfl⟩ := Option.map_eq_some_iff.mp z2.symm
    obtain ⟨v, e2, rv⟩ := rk.at_ e1
    refine ⟨⟨h1, (List.getElem?_eq_some_iff.mp e2).1⟩, fun w H2 ⟨T, k2, v2, e3, ew, hT, eH⟩ => ?_⟩
    subst eH
    subst ew
    rw [e2] at e3
    cases e3
    have ex : Ext W io' H' io' (upd H' T (.tup [kV q, v])) := Ext.new0 hT
    exact ⟨ex, rl.other hT, .tup (.inl (.inl upd_same)) (.cons (rv_key q) (.cons (rv.mono ex) .nil))⟩
end
def dDk (w : Nat) (f : DE) : DI := fun s h => (f s h).bind fun a h1 => match a with
  | .ref n => (match h1[n]? with
    | some (.frz (.dK _)) => .ok (.dK n w) h1
    | _ => .stuck)
  | _ => .stuck
section
variable {W : Wd} {M : Md W} {E : WX} {X : Cx} {tg e : Expr} {f : DE} {apos cpos : Pos}
theorem dk_in {w : Nat} {σ : L2.St} {H : Hp} {R : It → Hp → Prop} (h : tG W M (RSrc W) E (dDk w f) σ H R) : tD W M E f σ H fun x H1 => ∃ (d : Addr) (o : Obj) (kvs : List (Key × V)) (io : List Addr) (n : Nat) (hp : Hep), x = .ref d ∧ H1 d = some (.frz o (.dK kvs)) ∧ io[n]? = some d ∧ Rl W io hp H1 ∧ Pst W (RSrc W) E σ R io H1 (.ok (.dK n w) hp) := by
  obtain ⟨io, hp, as, rl, S, P⟩ := h
  refine (step (rh := RV W) (f := f) rl S P).imp fun x H1 ⟨io2, hp2, a, e2, rl2, ra, P2⟩ => ?_
  cases ra with
  | @ref n p hi =>
    have P3 : Pst W (RSrc W) E σ R io2 H1 (match hp2[n]? with
      | some (.frz (.dK _)) => .ok (.dK n w) hp2
      | _ => .stuck) := P2
    cases z : hp2[n]? with
    | none =>
      rw [z] at P3
      exact P3.elim
    | some o =>
      rw [z] at P3
      cases o with
      | frz o2 =>
        cases o2 with
        | dK kvs =>
          obtain ⟨u, e1, r1⟩ := rl2.at hi z
          cases r1 with
          | @frz _ u2 b r2 =>
            cases r2 with
            | dK r3 => exact ⟨p, b, _, io2, n, hp2, rfl, e1, hi, rl2, P3⟩
        | _ => exact P3.elim
      | _ => exact P3.elim
  | _ => exact P2.elim
theorem dkKeys (he : PE X e (tD W M E f)) : PI X tg e (tG W M (RSrc W) E (dDk 0 f)) := piI (pi_keys he) fun σ H R h => (dk_in h).imp fun x H1 ⟨d, o, kvs, io, n, hp, ex, hd, hi, rl, P⟩ => ⟨d, o, ex, .inl ⟨kvs, hd, P.ok rl (src_keys hi hd)⟩⟩
theorem dkVals (he : PE X e (tD W M E f)) (hbase : attributeBase e "values" X.env (eval e X.env) = eval e X.env := by rfl) (hline : (apos.endLine == cpos.line) = true := by rfl) : PI X tg (.Call (.Attribute e "values" apos) [] [] cpos) (tG W M (RSrc W) E (dDk 1 f)) :=
  piI (pi_values he hbase hline) fun σ H R h => (dk_in h).imp fun x H1 ⟨d, o, kvs, io, n, hp, ex, hd, hi, rl, P⟩ => ⟨d, o, kvs, ex, hd, P.ok rl (src_vals hi hd)⟩
theorem dkItems {elts : List Expr} {kk : Nat} {tpos : Pos} (he : PE X e (tD W M E f)) (hbase : attributeBase e "items" X.env (eval e X.env) = eval e X.env := by rfl) (hline : (apos.endLine == cpos.line) = true := by rfl) :
    PI X (.Tuple elts kk tpos) (.Call (.Attribute e "items" apos) [] [] cpos) (tG W M (RSrc W) E (dDk 2 f)) :=
  piI (pi_items he hbase hline) fun σ H R h => (dk_in h).imp fun x H1 ⟨d, o, kvs, io, n, hp, ex, hd, hi, rl, P⟩ => ⟨d, o, kvs, ex, hd, P.ok rl (src_items hi hd)⟩
end
end Dn
namespace Dn
open PySem PySem.Spec PyProof.Rows L2

def putAtD (D : Nat) (k : Option Key) (z : AV) (h : Hep) : Option Hep := match k, h[D]? with
  | some q, some (.dK kvs) => if kvs.length < SZ then some (h.set D (.dK (dput kvs q z))) else none
  | _, _ => none
def dDcL (src : Src) (g : DG) (tt : DT) (tk tv : DE) (D : Nat) (s0 : Sl) : Nat → Nat → Hep → R AV
  | 0, _, _ => .stuck
  | k + 1, i, h => match src.next i h with
    | none => .stuck
    | some none => .ok (.ref D) h
    | some (some x) => match g x s0 with
      | none => .stuck
      | some s1 => (tt s1 h).noX.bind fun b h1 => match b with
        | false => dDcL src g tt tk tv D s0 k (i + 1) h1
        | true => (tk s1 h1).noX.bind fun y h2 => (tv s1 h2).noX.bind fun z h3 => match putAtD D (keyOf y) z h3 with
          | none => .stuck
          | some h4 => dDcL src g tt tk tv D s0 k (i + 1) h4
def dDc (f : DI) (g : DG) (tt : DT) (tk tv : DE) (vs : List Nat) : DE := fun s h => (f s h).bind fun src h1 => dDcL src g tt tk tv h1.length (wipeS s vs) (src.len h1 + 1) 0 (h1 ++ [.dK []])
section
variable {W : Wd} {M : Md W} {E : WX} {X : Cx} {pos : Pos}
theorem dc_in {f : DI} {g : DG} {tt : DT} {tk tv : DE} {vs : List Nat} {σ : L2.St} {H : Hp} {Q : VK} (ok : ∀ v ∈ vs, M.ok v)
    (h : tD W M E (dDc f g tt tk tv vs) σ H Q) : tDc (tG W M (RSrc W) E f) (tgG W M (wipC vs) g) (tDT W M E0x tt) (tD W M E0x tk) (tD W M E0x tv) vs σ H Q := by
  obtain ⟨io, hp, as, rl, S, P⟩ := h
  refine (step (rh := RSrc W) (f := f) rl S P).imp fun J H1 ⟨io1, hp1, src, e1, rl1, rs, P1⟩ => ?_
  intro D hD
  have eD := Ext.new (W := W) io1 (.dK []) hD [D]
  have rlD : Rl W (io1 ++ [D]) (hp1 ++ [.dK []]) (upd H1 D (.dK [])) := rl1.new hD (.dK .nil)
  have wS : M.rel io1 H1 (wipeS as vs) (wipe σ vs) := wipe_rel (M.mono e1 S) ok
  have atD := rl1.atLen D
  refine ⟨fun i m H2 => ∃ io2 hp2, Ext W (io1 ++ [D]) (upd H1 D (.dK [])) io2 H2 ∧ Rl W io2 hp2 H2 ∧ Pst W (RV W) E σ Q io2 H2 (dDcL src g tt tk tv hp1.length (wipeS as vs) m i hp2), ⟨_, _, _, Ext.refl, rlD, Pst.later P1 eD⟩, ?_⟩
  rintro i m H2 ⟨io2, hp2, e2, rl2, P2⟩
  have e12 := eD.trans e2
  obtain ⟨hstop, hgo⟩ := rs io2 H2 hp2 e12 rl2
  cases m with
  | zero => exact P2.elim
  | succ m =>
    unfold dDcL at P2
    cases z : src.next i hp2 with
    | none =>
      rw [z] at P2
      exact P2.elim
    | some o =>
      cases o with
      | none =>
        rw [z] at P2
        exact .inl ⟨hstop i z, P2.ok rl2 (.ref (e2.at atD))⟩
      | some x =>
        rw [z] at P2
        obtain ⟨go, hy⟩ := hgo i x z
        refine .inr ⟨go, fun H3 => ∃ io3 hp3, Ext W (io1 ++ [D]) (upd H1 D (.dK [])) io3 H3 ∧ Rl W io3 hp3 H3 ∧ Pst W (RV W) E σ Q io3 H3 (dDcL src g tt tk tv hp1.length (wipeS as vs) m (i + 1) hp3), fun H' q => ⟨m, Nat.lt_succ_self m, q⟩, fun v H3 hyl => ?_⟩
        obtain ⟨e3, rl3, r3⟩ := hy v H3 hyl
        refine ⟨io2, hp2, wipeS as vs, x, rl3, M.mono e3 (M.mono e12 wS), r3, ?_⟩
        have P3 := Pst.later P2 e3
        cases z2 : g x (wipeS as vs) with
        | none =>
          simp only [z2] at P3
          exact P3
        | some as3 =>
          simp only [z2] at P3
          intro σ' S' hw
          refine ⟨Eq.trans hw (wipe_wipe σ vs), ?_⟩
          have S2' : M.rel io2 H3 as3 σ' := S'
          refine (step0 (rh := fun _ _ b c => b = c) (f := tt) (σ := σ') rl3 S2' P3).imp fun b H4 ⟨io4, hp4, b', e4, rl4, rb, P4⟩ => ?_
          subst rb
          cases b' with
          | false => exact iteF ⟨io4, hp4, (e2.trans e3).trans e4, rl4, P4⟩
          | true =>
            refine iteT ((step0 (rh := RV W) (f := tk) (σ := σ') rl4 (M.mono e4 S2') P4).imp fun y H5 ⟨io5, hp5, a, e5, rl5, ra, P5⟩ => ?_)
            refine (step0 (rh := RV W) (f := tv) (σ := σ') rl5 (M.mono e5 (M.mono e4 S2')) P5).imp fun w H6 ⟨io6, hp6, c, e6, rl6, rc, P6⟩ => ?_
            have atD6 : io6[hp1.length]? = some D := e6.at (e5.at (e4.at (e3.at (e2.at atD))))
            unfold putAtD at P6
            cases ka : keyOf a with
            | none =>
              simp only [ka] at P6
              exact P6.elim
            | some k =>
              cases z6 : hp6[hp1.length]? with
              | none =>
                simp only [ka, z6] at P6
                exact P6.elim
              | some o6 =>
                cases o6 with
                | dK kvs =>
                  simp only [ka, z6] at P6
                  by_cases hl : kvs.length < SZ
                  · simp only [if_pos hl] at P6
                    obtain ⟨avs, ea, rk⟩ := rl6.dK atD6 z6
                    refine ⟨avs, k, keyOf_in ka ra, ea, by rw [← rk.len]; exact szT hl, ?_⟩
                    have es : Ext W io6 H6 io6 (upd H6 D (.dK (putK avs k w))) := Ext.set _ ea trivial
                    exact ⟨io6, _, ((((e2.trans e3).trans e4).trans e5).trans e6).trans es, rl6.set atD6 ea trivial (.dK ((rk.put k rc).mono es)), Pst.later P6 es⟩
                  · simp only [if_neg hl] at P6
                    exact P6.elim
                | _ =>
                  simp only [ka, z6] at P6
                  exact P6.elim
theorem dcD {kx vx tg iter : Expr} {ifs : List Expr} {scope : Scope} {own : List (Str × Nat)} {f : DI} {g : DG} {tt : DT} {tk tv : DE} (hc : X.calm = true) (hN : X.N.Nodup) (hi : PI X tg iter (tG W M (RSrc W) E f)) (ok : BlkOk X.N X.env.scope scope own)
    (hg : ∀ (s : Shared) (H : Hp) (C : Addr) (cl : List (Str × Addr)) (fp : List Addr), PG (X.blk s H scope (compEnvC scope cl C X.env) fp) tg (tgG W M (wipC (own.map (·.2))) g))
    (ht : ∀ (s : Shared) (H : Hp) (C : Addr) (cl : List (Str × Addr)) (fp : List Addr), PTs (X.blk s H scope (compEnvC scope cl C X.env) fp) ifs (tDT W M E0x tt))
    (hk : ∀ (s : Shared) (H : Hp) (C : Addr) (cl : List (Str × Addr)) (fp : List Addr), PE (X.blk s H scope (compEnvC scope cl C X.env) fp) kx (tD W M E0x tk))
    (hv : ∀ (s : Shared) (H : Hp) (C : Addr) (cl : List (Str × Addr)) (fp : List Addr), PE (X.blk s H scope (compEnvC scope cl C X.env) fp) vx (tD W M E0x tv)) (ho : ∀ v ∈ own.map (·.2), M.ok v) (hs : ∀ x, foldedSetIterable iter X.env x = pure x := by intro _; rfl) :
    PE X (.DictComp kx vx [⟨tg, iter, ifs, 0⟩] scope pos) (tD W M E (dDc f g tt tk tv (own.map (·.2)))) := peI (pe_dc hc hN hi ok hg ht hk hv hs) fun _ _ _ h => dc_in ho h
end

def pairK (x : AV) (o : Option (List (Key × AV))) : Option (List (Key × AV)) := match x, o with
  | .tup [k, v], some l => (keyOf k).map fun q => (q, v) :: l
  | _, _ => none
def pairsOf : List AV → Option (List (Key × AV))
  | [] => some []
  | x :: r => pairK x (pairsOf r)
def mergeA (kvs more : List (Key × AV)) : List (Key × AV) := more.foldl (fun acc kv => dput acc kv.1 kv.2) kvs
def dictL : DL := fun as h => match as with
  | [a] => match dicAt h a with
    | some (_, kvs) => some (.ref h.length, h ++ [.dK kvs])
    | none => match lstAt h a with
      | some (_, xs) => (pairsOf xs).map fun kvs => (.ref h.length, h ++ [.dK (mergeA [] kvs)])
      | none => none
  | _ => none
section
variable {W : Wd} {M : Md W} {E : WX} {X : Cx}
theorem mergeA_cons (xs more : List (Key × AV)) (p : Key × AV) : mergeA xs (p :: more) = mergeA (dput xs p.1 p.2) more := by
  unfold mergeA
  rw [List.foldl_cons]
theorem mergeK_cons' (xs more : List (Key × V)) (p : Key × V) : mergeK xs (p :: more) = mergeK (putK xs p.1 p.2) more := by
  unfold mergeK
  rw [List.foldl_cons]
theorem RKs.merge {io : List Addr} {H : Hp} {more : List (Key × AV)} {mv : List (Key × V)} (r : RKs W io H more mv) : ∀ {xs : List (Key × AV)} {vs : List (Key × V)}, RKs W io H xs vs → RKs W io H (mergeA xs more) (mergeK vs mv) := by
  induction r with
  | nil => exact fun h => h
  | @cons q x v xs' vs' ra t ih =>
    intro xs vs h
    rw [mergeA_cons, mergeK_cons']
    exact ih (h.put q ra)
theorem pairsOf_in {io : List Addr} {H : Hp} {xs : List AV} {vs : List V} (r : RVs W io H xs vs) : ∀ {kvs : List (Key × AV)}, pairsOf xs = some kvs → ∃ (ps : List Addr) (kv : List (Key × V)), vs = ps.map V.ref ∧ Paired (fun p (q : Key × V) => SqT W.K H p [kV q.1, q.2]) ps kv ∧ RKs W io H kvs kv := by
  induction xs generalizing vs with
  | nil =>
    intro kvs e
    cases r
    cases e
    exact ⟨[], [], rfl, .nil, .nil⟩
  | cons x xs ih =>
    intro kvs e
    cases r with
    | cons rx t =>
      have e1 : pairK x (pairsOf xs) = some kvs := e
      cases z : pairsOf xs with
      | none =>
        rw [z] at e1
        unfold pairK at e1
        split at e1
        · rename_i h
          cases h
        · cases e1
      | some l =>
        rw [z] at e1
        obtain ⟨ps, kv, rfl, h3, h4⟩ := ih t z
        unfold pairK at e1
        split at e1
        · rename_i k v l2 h2
          cases h2
          obtain ⟨q, hq, rfl⟩ := Option.map_eq_some_iff.mp e1
          cases rx with
          | @tup a ws _ h1 h5 =>
            cases h5 with
            | cons rk h6 =>
              cases h6 with
              | cons rv h7 =>
                cases h7
                have := keyOf_in hq rk
                subst this
                exact ⟨a :: ps, (q, _) :: kv, rfl, .cons h1 h3, .cons rv h4⟩
        · cases e1
theorem cDict (hK : X.K = W.K) (hc : X.calm = true) : CallR X (.type "dict") (tl W dictL) := fun pins s σ H xs us Q I r h => by
  obtain ⟨io, hp, as, rl, ra, P⟩ := h
  match as, ra, P with
  | [], .nil, P => exact P.elim
  | _ :: _ :: _, _, P => exact P.elim
  | [a], ra, P =>
    obtain ⟨x, rfl, r1⟩ := one_inv ra
    have P1 : Pop W (RV W) Q io H (match dicAt hp a with
      | some (_, kvs) => some (.ref hp.length, hp ++ [.dK kvs])
      | none => match lstAt hp a with
        | some (_, xs) => (pairsOf xs).map fun kvs => (.ref hp.length, hp ++ [.dK (mergeA [] kvs)])
        | none => none) := P
    have fin : ∀ (kvs : List (Key × AV)) (vs : List (Key × V)), RKs W io H kvs vs → Pop W (RV W) Q io H (some (.ref hp.length, hp ++ [.dK kvs])) → ∀ p, H p = none → Q (.ref p) (upd H p (.dK vs)) := fun kvs vs rk P p hn => by
      have ex := Ext.new (W := W) io (.dK vs) hn [p]
      exact P _ _ _ ex (rl.new hn (.dK (rk.mono ex))) (.ref (rl.atLen p))
    cases z : dicAt hp a with
    | some q =>
      obtain ⟨n, kvs⟩ := q
      rw [z] at P1
      obtain ⟨p, vs, rfl, rfl, hi, hk, hd, rk⟩ := dicAt_in z rl r1
      exact call_dictD pins s σ H _ us Q I r ⟨p, vs, rfl, .inl hd, fin kvs vs rk P1⟩
    | none =>
      rw [z] at P1
      cases z2 : lstAt hp a with
      | none =>
        simp only [z2] at P1
        exact P1.elim
      | some q =>
        obtain ⟨n, ys⟩ := q
        simp only [z2] at P1
        obtain ⟨p, vs, rfl, hi, hu, rv⟩ := lstAt_in z2 rl r1
        cases z3 : pairsOf ys with
        | none =>
          rw [z3] at P1
          exact P1.elim
        | some kvs =>
          rw [z3] at P1
          obtain ⟨ps, kv, rfl, h3, h4⟩ := pairsOf_in rv z3
          rw [← hK] at h3
          exact call_dictP hc pins s σ H _ us Q I r ⟨p, ps, kv, rfl, SqL.of hu, h3, fin _ _ (RKs.merge h4 .nil) P1⟩
end

def leI (a b : Int) : Bool := decide (a ≤ b)
def sortedL : DL := fun as h => match as with
  | [a] => match lstAt h a with
    | some (_, xs) => (intsOf xs).map fun ns => (.ref h.length, h ++ [.lst ((ns.mergeSort leI).map .int)])
    | none => none
  | _ => none
theorem sorted_one : ∀ {l m : List Int}, l.Perm m → l.Pairwise (· ≤ ·) → m.Pairwise (· ≤ ·) → l = m
  | [], m, p, _, _ => by rw [List.nil_perm.mp p]
  | a :: l, [], p, _, _ => absurd p.length_eq (by simp)
  | a :: l, b :: m, p, hl, hm => by
    rw [List.pairwise_cons] at hl hm
    have e : a = b := by
      have h1 : a ∈ b :: m := p.subset List.mem_cons_self
      have h2 : b ∈ a :: l := p.symm.subset List.mem_cons_self
      rcases List.mem_cons.mp h1 with h1 | h1
      · exact h1
      · rcases List.mem_cons.mp h2 with h2 | h2
        · exact h2.symm
        · have := hm.1 a h1
          have := hl.1 b h2
          omega
    subst e
    rw [sorted_one ((List.perm_cons a).mp p) hl.2 hm.2]
theorem mergeI_sorted (ns : List Int) : (ns.mergeSort leI).Pairwise (· ≤ ·) := by
  have h := List.pairwise_mergeSort (le := leI) (fun a b c h1 h2 => by
    have h1 := of_decide_eq_true h1
    have h2 := of_decide_eq_true h2
    exact decide_eq_true (by omega)) (fun a b => by
    unfold leI
    by_cases c : a ≤ b
    · rw [decide_eq_true c]
      rfl
    · rw [decide_eq_true (show b ≤ a by omega), Bool.or_true]) ns
  exact h.imp fun {a b} h => of_decide_eq_true h
section
variable {W : Wd} {X : Cx}
theorem cSorted (hK : X.K = W.K) : CallR X (.builtin "sorted") (tl W sortedL) := call_imp cr_sortedI fun xs H Q ⟨io, hp, as, rl, ra, P⟩ => by
  match as, ra, P with
  | [], .nil, P => exact P.elim
  | _ :: _ :: _, _, P => exact P.elim
  | [a], ra, P =>
    obtain ⟨x, rfl, r1⟩ := one_inv ra
    have P1 : Pop W (RV W) Q io H (match lstAt hp a with
      | some (_, xs) => (intsOf xs).map fun ns => (.ref hp.length, hp ++ [.lst ((ns.mergeSort leI).map .int)])
      | none => none) := P
    cases z2 : lstAt hp a with
    | none =>
      rw [z2] at P1
      exact P1.elim
    | some q =>
      obtain ⟨n, ys⟩ := q
      rw [z2] at P1
      obtain ⟨p, vs, rfl, hi, hu, rv⟩ := lstAt_in z2 rl r1
      cases z3 : intsOf ys with
      | none =>
        simp only [z3] at P1
        exact P1.elim
      | some ns =>
        simp only [z3] at P1
        have ev := intsOf_in z3 rv
        subst ev
        refine ⟨p, ns, rfl, SqL.of hu, fun ns' q hp' hs hn => ?_⟩
        have e : ns' = ns.mergeSort leI := sorted_one (hp'.trans (List.mergeSort_perm ns leI).symm) hs (mergeI_sorted ns)
        subst e
        have ex := Ext.new (W := W) io (.lst ((ns.mergeSort leI).map V.int)) hn [q]
        exact P1 _ _ _ ex (rl.new hn (.lst (RVs.ints _))) (.ref (rl.atLen q))
end

def atEq : AV → AV → Option Bool
  | .int a, .int b => some (a == b)
  | .str a, .str b => some (a == b)
  | .int _, .str _ => some false
  | .str _, .int _ => some false
  | .non, .non => some true
  | .non, .int _ => some false
  | .non, .str _ => some false
  | .int _, .non => some false
  | .str _, .non => some false
  | .bl a, .bl b => some (a == b)
  | _, _ => none
def hitsA (kb : List (Key × AV)) : List (Key × AV) → Option Bool
  | [] => some true
  | (k, v) :: r => match dget kb k with
    | none => some false
    | some y => match atEq v y, hitsA kb r with
      | some e, some b => some (e && b)
      | _, _ => none
def eqDB (a b : AV) (h : Hep) : Option Bool := match dicAt h a, dicAt h b with
  | some (_, ka), some (_, kb) => if ka.length = kb.length then hitsA kb ka else some false
  | _, _ => none
def eqDA : D2 := fun a b h => (eqDB a b h).map fun c => (.bl c, h)
def neDA : D2 := fun a b h => (eqDB a b h).map fun c => (.bl (!c), h)
section
variable {W : Wd} {X : Cx}
theorem atEq_in {A : Around} {s : Shared} {io : List Addr} {H : Hp} {a b : AV} {v w : V} {x y : Value} {e : Bool} (h : atEq a b = some e) (ra : RV W io H a v) (rb : RV W io H b w) (rx : RelV v x) (ry : RelV w y) : SeqAt.EqAt A s x y e := by
  unfold atEq at h
  split at h <;> cases h
  · obtain ⟨t, rfl⟩ := (ra.int_inv ▸ rx : RelV (.int _) x)
    obtain ⟨u, rfl⟩ := (rb.int_inv ▸ ry : RelV (.int _) y)
    exact SeqAt.EqAt.int_int _ _ _ _
  · obtain ⟨t, rfl⟩ := (ra.str_inv ▸ rx : RelV (.str _) x)
    obtain ⟨u, rfl⟩ := (rb.str_inv ▸ ry : RelV (.str _) y)
    exact SeqAt.EqAt.str_str _ _ _ _
  · obtain ⟨t, rfl⟩ := (ra.int_inv ▸ rx : RelV (.int _) x)
    obtain ⟨u, rfl⟩ := (rb.str_inv ▸ ry : RelV (.str _) y)
    exact SeqAt.EqAt.int_str _ _ _ _
  · obtain ⟨t, rfl⟩ := (ra.str_inv ▸ rx : RelV (.str _) x)
    obtain ⟨u, rfl⟩ := (rb.int_inv ▸ ry : RelV (.int _) y)
    exact SeqAt.EqAt.str_int _ _ _ _
  · cases (ra.non_inv ▸ rx : RelV .non x)
    cases (rb.non_inv ▸ ry : RelV .non y)
    exact SeqAt.EqAt.same _
  · cases (ra.non_inv ▸ rx : RelV .non x)
    obtain ⟨u, rfl⟩ := (rb.int_inv ▸ ry : RelV (.int _) y)
    exact SeqAt.EqAt.none_int _ _
  · cases (ra.non_inv ▸ rx : RelV .non x)
    obtain ⟨u, rfl⟩ := (rb.str_inv ▸ ry : RelV (.str _) y)
    exact SeqAt.EqAt.none_str _ _
  · obtain ⟨t, rfl⟩ := (ra.int_inv ▸ rx : RelV (.int _) x)
    cases (rb.non_inv ▸ ry : RelV .non y)
    exact SeqAt.EqAt.int_none _ _
  · obtain ⟨t, rfl⟩ := (ra.str_inv ▸ rx : RelV (.str _) x)
    cases (rb.non_inv ▸ ry : RelV .non y)
    exact SeqAt.EqAt.str_none _ _
  · cases (ra.bl_inv ▸ rx : RelV (.bl _) x)
    cases (rb.bl_inv ▸ ry : RelV (.bl _) y)
    exact SeqAt.EqAt.bool_bool _ _
theorem hits_in {A : Around} {s : Shared} {io : List Addr} {H : Hp} {kb : List (Key × AV)} {lb : List (Key × V)} {vb : List (Key × Value)} (rkb : RKs W io H kb lb) (rb : KV lb vb) :
    ∀ {ka : List (Key × AV)} {la : List (Key × V)} {va : List (Key × Value)} {r : Bool}, hitsA kb ka = some r → RKs W io H ka la → KV la va → PySem.W.KeqHits A s vb va r
  | [], _, _, r, e, .nil, ra => by
    cases ra
    cases e
    exact .nil
  | (k, v) :: ka, _, _, r, e, .cons rv t, ra => by
    cases ra with
    | @cons p q ps qs hh tt =>
      obtain ⟨h1, h2⟩ := hh
      obtain ⟨k', x⟩ := q
      have hk : k = k' := h1
      subst hk
      have e1 : (match dget kb k with
        | none => some false
        | some y => match atEq v y, hitsA kb ka with
          | some e, some b => some (e && b)
          | _, _ => none) = some r := e
      have rg := rkb.get k
      have rv2 := rb.val k
      cases d1 : dget kb k with
      | none =>
        rw [d1] at e1 rg
        cases e1
        cases d2 : valV lb k with
        | some _ =>
          rw [d2] at rg
          exact rg.elim
        | none =>
          rw [d2] at rv2
          cases d3 : PySem.valueAt vb k with
          | none => exact .miss d3
          | some _ =>
            rw [d3] at rv2
            exact rv2.elim
      | some y =>
        rw [d1] at e1 rg
        cases d2 : valV lb k with
        | none =>
          rw [d2] at rg
          exact rg.elim
        | some w =>
          rw [d2] at rg rv2
          obtain ⟨z, hz, rz⟩ := RelO.some_of rv2
          cases a1 : atEq v y with
          | none =>
            simp only [a1] at e1
            cases e1
          | some e0 =>
            cases a2 : hitsA kb ka with
            | none =>
              simp only [a1, a2] at e1
              cases e1
            | some b0 =>
              simp only [a1, a2] at e1
              cases e1
              exact .hit hz (atEq_in a1 rv rg h2 rz) (hits_in rkb rb a2 t tt)
theorem eqD_core (hu : X.A.units < cLine) {pins : List (Addr × Obj)} {s : Shared} {σ : L2.St} {H : Hp} {io : List Addr} {hp : Hep} {a b : AV} {x y : V} {v u : Value} {c : Bool} (I : Inv X pins σ H s) (rx : RelV x v) (ry : RelV y u) (rl : Rl W io hp H) (ra : RV W io H a x) (rb : RV W io H b y) (e : eqDB a b hp = some c) :
    (∀ Q : VK, Q (.bl c) H → wpAny (model X.prog X.w) X.A (compareOp .Eq v u) (EP X pins σ Q) X.xe s) ∧ (∀ Q : VK, Q (.bl (!c)) H → wpAny (model X.prog X.w) X.A (compareOp .NotEq v u) (EP X pins σ Q) X.xe s) := by
  unfold eqDB at e
  split at e
  · rename_i m ka n kb z1 z2
    obtain ⟨p, vs, rfl, rfl, hi, hk, hd, rk⟩ := dicAt_in z1 rl ra
    obtain ⟨q, ws, rfl, rfl, hi2, hk2, hd2, rk2⟩ := dicAt_in z2 rl rb
    obtain rfl : v = Value.ref p := rx
    obtain rfl : u = Value.ref q := ry
    obtain ⟨_, ya, va, ra', da⟩ := (show ObjOk X.prog X.w H s.heap p (.dK vs) from I.hok p _ hd)
    obtain ⟨_, yb, vb, rb', db⟩ := (show ObjOk X.prog X.w H s.heap q (.dK ws) from I.hok q _ hd2)
    have l1 : va.length = ka.length := by rw [← ra'.length, rk.len]
    have l2 : vb.length = kb.length := by rw [← rb'.length, rk2.len]
    by_cases hl : ka.length = kb.length
    · rw [if_pos hl] at e
      have eq1 : (va.length == vb.length && c) = c := by
        rw [l1, l2, hl]
        simp
      exact ⟨fun Q hq => PySem.W.keq_eq (knd := mixKind X.prog X.w) (r := c) ya yb da db hu (fun _ => hits_in rk2 rb' e rk ra') (fin_bl I hq eq1.symm), fun Q hq => PySem.W.keq_ne (knd := mixKind X.prog X.w) (r := c) ya yb da db hu (fun _ => hits_in rk2 rb' e rk ra') (fin_bl I hq (by rw [eq1]))⟩
    · rw [if_neg hl] at e
      cases e
      have ne : ¬ va.length = vb.length := by rw [l1, l2]; exact hl
      have eq1 : (va.length == vb.length && false) = false := by simp
      exact ⟨fun Q hq => PySem.W.keq_eq (knd := mixKind X.prog X.w) (r := false) ya yb da db hu (fun z => absurd z ne) (fin_bl I hq eq1.symm), fun Q hq => PySem.W.keq_ne (knd := mixKind X.prog X.w) (r := false) ya yb da db hu (fun z => absurd z ne) (fin_bl I hq (by rw [eq1]))⟩
  · cases e
theorem oEqD (hu : X.A.units < cLine) : OpR X (compareOp .Eq) (t2 W eqDA) := fun pins s σ H x y v u Q I rx ry ⟨io, hp, a, b, rl, ra, rb, P⟩ => by
  unfold eqDA at P
  cases e : eqDB a b hp with
  | none =>
    rw [e] at P
    exact P.elim
  | some c =>
    rw [e] at P
    exact (eqD_core hu I rx ry rl ra rb e).1 Q (P.ok rl (.bl c))
theorem oNeD (hu : X.A.units < cLine) : OpR X (compareOp .NotEq) (t2 W neDA) := fun pins s σ H x y v u Q I rx ry ⟨io, hp, a, b, rl, ra, rb, P⟩ => by
  unfold neDA at P
  cases e : eqDB a b hp with
  | none =>
    rw [e] at P
    exact P.elim
  | some c =>
    rw [e] at P
    exact (eqD_core hu I rx ry rl ra rb e).2 Q (P.ok rl (.bl (!c)))
end
end Dn
namespace Dn
open PySem PySem.Spec PyProof.Rows L2

def hFK (s : Sl) (j : Nat) (v : AV) (r : R AV) : SR := match r with
  | .ok o h => setfK s j v (insAt h o) h
  | _ => .stuck
def hF (j : Nat) (fo : DE) : DGH := fun v s h => hFK s j v (fo s h)
def hC (g : DGH) (gs : DGHs) : DGHs := fun xs s h => match xs with
  | x :: r => (g x s h).then (gs r)
  | [] => .stuck
def hT (gs : DGHs) : DGH := fun v s h => match tupOf v with
  | some xs => gs xs s h
  | none => .stuck
def dAsgH (f : DE) (g : DGH) : DS := fun s h => (f s h).st s fun v h1 => g v s h1
section
variable {W : Wd} {M : Md W} {E : WX} {X : Cx}
def tH (W : Wd) (M : Md W) (g : DGH) : TG := fun v σ H Q => ∃ io hp as x, Rl W io hp H ∧ M.rel io H as σ ∧ RV W io H x v ∧ Pnx W M Q io H (g x as hp)
def tHs (W : Wd) (M : Md W) (g : DGHs) : TGs := fun vs σ H Q => ∃ io hp as xs, Rl W io hp H ∧ M.rel io H as σ ∧ RVs W io H xs vs ∧ Pnx W M Q io H (g xs as hp)
theorem tgN {i : Nat} {x : Str} {pos : Pos} (hN' : X.N.Nodup) (hi : X.N[i]? = some x) (hx : Loc X.env.scope x) (ho : M.ok i) (hf : X.fn x = true ∨ X.env.scope.names.lookup x = some .local := by first | exact .inl rfl | exact .inr rfl | assumption) : PG X (.Name x pos) (tH W M (hN i)) :=
  pgI (pg_name hN' hi hx hf) fun v σ H Q ⟨io, hp, as, y, rl, S, r, k⟩ => k io H _ Ext.refl rl (M.set S r ho)
theorem tgF {o : Expr} {fo : DE} {x : Str} {j : Nat} {pos : Pos} (hK : X.K = W.K) (hj : W.fn[j]? = some x) (ho : PE X o (tD W M E0x fo)) : PG X (.Attribute o x pos) (tH W M (hF j fo)) := ⟨fun pins s σ H v u Q I r ⟨io, hp, as, y, rl, S, ry, k⟩ => by
  rw [assign_Attribute]
  have h0 : tD W M E0x fo σ H fun xv H1 => ∃ p t dx vs, xv = .ref p ∧ H1 p = some (.ins (W.cl t) dx vs) ∧ W.ct.kit t = true ∧ vs.length < 1000 ∧ Q σ (upd H1 p (.ins (W.cl t) dx (putF x v vs))) := by
    refine ⟨io, hp, as, rl, S, ?_⟩
    unfold hF at k
    cases z : fo as hp with
    | stuck =>
      rw [z] at k
      exact k.elim
    | exc t fs h =>
      rw [z] at k
      exact k.elim
    | ok a hp2 =>
      rw [z] at k
      intro io2 H2 xv e2 rl2 ra
      have P := Pnx.later k e2
      have D0 : Ends := ⟨Q, fun _ _ => False, fun _ _ => False, fun _ _ => False⟩
      have P2 : Pss W M (fun _ _ _ _ => False) ⟨Q, fun _ _ => False, fun _ _ => False, fun _ _ => False⟩ io2 H2 (setfK as j y (insAt hp2 a) hp2) := by
        have P3 : Pnx W M Q io2 H2 (setfK as j y (insAt hp2 a) hp2) := P
        cases z3 : setfK as j y (insAt hp2 a) hp2 with
        | nx s h =>
          rw [z3] at P3
          exact P3
        | rt _ _ =>
          rw [z3] at P3
          exact P3.elim
        | bk _ _ =>
          rw [z3] at P3
          exact P3.elim
        | ct _ _ =>
          rw [z3] at P3
          exact P3.elim
        | exc _ _ _ _ =>
          rw [z3] at P3
          exact P3.elim
        | stuck =>
          rw [z3] at P3
          exact P3.elim
      obtain ⟨p, t, dx, vs, e1, ea, hk, hl, q⟩ := setF_at hj rl2 (M.mono e2 S) ra (ry.mono e2) P2
      exact ⟨p, t, dx, vs, e1, ea, hk, hl, q⟩
  refine wpAny_bind (wpAny_holding (thn (ho.run pins s σ H _ I h0) fun ov s1 ⟨xv, H1, I1, r1, p, t, dx, vs, ex, ea, hk, hl, q⟩ => ?_))
  subst ex
  obtain rfl : ov = Value.ref p := r1
  refine wpAny_bind (wpAny_standAt (wpAny_bind (wpAny_holding (setattr_ok I1 ea (by rw [hK]; exact W.cks t hk) (by rw [hK]; exact W.noat t x hk (List.mem_of_getElem? hj)) hl r fun s3 I3 => ?_))))
  exact wpAny_release ⟨σ, _, I3, q⟩⟩
theorem tg0 : PGs X [] (tHs W M h0) := pgsI pgs_nil fun v σ H Q ⟨io, hp, as, xs, rl, S, r, k⟩ => by
  cases xs with
  | nil =>
    cases r
    exact ⟨rfl, k io H σ Ext.refl rl S⟩
  | cons x t => exact k.elim
theorem tgC {e : Expr} {es : List Expr} {g : DGH} {gs : DGHs} (h1 : PG X e (tH W M g)) (h2 : PGs X es (tHs W M gs)) (hs : (assignEach (e :: es) X.env).map (·.2) = assign e X.env :: (assignEach es X.env).map (·.2) := by rfl) : PGs X (e :: es) (tHs W M (hC g gs)) :=
  pgsI (pgs_cons h1 h2 hs) fun v σ H Q ⟨io, hp, as, xs, rl, S, r, k⟩ => by
    cases xs with
    | nil => exact k.elim
    | cons x t =>
      cases r with
      | cons r1 r2 =>
        refine ⟨_, _, rfl, io, hp, as, x, rl, S, r1, ?_⟩
        have k' : Pnx W M Q io H ((g x as hp).then (gs t)) := k
        cases z : g x as hp with
        | nx s h =>
          rw [z] at k'
          exact fun io' H' σ' e' rl' S' => ⟨io', h, s, t, rl', S', r2.mono e', Pnx.later k' e'⟩
        | rt _ _ =>
          rw [z] at k'
          exact k'.elim
        | bk _ _ =>
          rw [z] at k'
          exact k'.elim
        | ct _ _ =>
          rw [z] at k'
          exact k'.elim
        | exc _ _ _ _ =>
          rw [z] at k'
          exact k'.elim
        | stuck =>
          rw [z] at k'
          exact k'.elim
theorem tgT {es : List Expr} {kk : Nat} {gs : DGHs} {n : Nat} {pos : Pos} (hK : X.K = W.K) (hc : X.calm = true) (h : PGs X es (tHs W M gs)) (hl : ∀ xs s h, gs xs s h ≠ .stuck → xs.length = n) (hn : (assignEach es X.env).length = n := by rfl) (hst : (assignEach es X.env).findIdx? (·.1) = none := by rfl) :
    PG X (.Tuple es kk pos) (tH W M (hT gs)) := pgI (pg_tup hc h hn hst) fun v σ H Q ⟨io, hp, as, x, rl, S, r, k⟩ => by
  unfold hT at k
  cases z : tupOf x with
  | none =>
    simp only [z] at k
    exact k.elim
  | some xs =>
    simp only [z] at k
    obtain ⟨p, vs, ex, h1, rtu⟩ := tupOf_in z r
    refine ⟨p, vs, ex, by rw [hK]; exact h1, ?_, io, hp, as, xs, rl, S, rtu, k⟩
    rw [← rtu.len]
    refine hl xs as hp fun z => ?_
    rw [z] at k
    exact k
theorem h0_len : ∀ xs s h, h0 xs s h ≠ .stuck → xs.length = 0 := fun xs s h k => by
  cases xs with
  | nil => rfl
  | cons _ _ => exact absurd rfl k
theorem hC_len {g : DGH} {gs : DGHs} {n : Nat} (hl : ∀ xs s h, gs xs s h ≠ .stuck → xs.length = n) (hg : ∀ x s h, (∃ s' h', g x s h = .nx s' h') ∨ g x s h = .stuck) : ∀ xs s h, hC g gs xs s h ≠ .stuck → xs.length = n + 1 := fun xs s h k => by
  cases xs with
  | nil => exact absurd rfl k
  | cons x t =>
    have k' : (g x s h).then (gs t) ≠ .stuck := k
    rcases hg x s h with ⟨s', h', z⟩ | z
    · rw [z] at k'
      rw [List.length_cons, hl t s' h' k']
    · rw [z] at k'
      exact absurd rfl k'
theorem hN_two (i : Nat) : ∀ x s h, (∃ s' h', hN i x s h = .nx s' h') ∨ hN i x s h = .stuck := fun x s h => .inl ⟨_, _, rfl⟩
theorem hF_two (j : Nat) (fo : DE) : ∀ x s h, (∃ s' h', hF j fo x s h = .nx s' h') ∨ hF j fo x s h = .stuck := fun x s h => by
  unfold hF hFK setfK
  cases fo s h with
  | ok o h2 =>
    dsimp only
    cases insAt h2 o with
    | none => exact .inr rfl
    | some q =>
      obtain ⟨n, t, fs⟩ := q
      dsimp only
      by_cases c : fs.length < 900
      · rw [if_pos c]
        exact .inl ⟨_, _, rfl⟩
      · rw [if_neg c]
        exact .inr rfl
  | exc _ _ _ => exact .inr rfl
  | stuck => exact .inr rfl
theorem h0_two : ∀ x s h, (∃ s' h', h0 x s h = .nx s' h') ∨ h0 x s h = .stuck := fun x s h => by
  cases x with
  | nil => exact .inl ⟨_, _, rfl⟩
  | cons _ _ => exact .inr rfl
theorem hC_two {g : DGH} {gs : DGHs} (hg : ∀ x s h, (∃ s' h', g x s h = .nx s' h') ∨ g x s h = .stuck) (hgs : ∀ x s h, (∃ s' h', gs x s h = .nx s' h') ∨ gs x s h = .stuck) : ∀ x s h, (∃ s' h', hC g gs x s h = .nx s' h') ∨ hC g gs x s h = .stuck := fun x s h => by
  cases x with
  | nil => exact .inr rfl
  | cons x t =>
    have e : hC g gs (x :: t) s h = (g x s h).then (gs t) := rfl
    rw [e]
    rcases hg x s h with ⟨s', h', z⟩ | z
    · rw [z]
      exact hgs t s' h'
    · rw [z]
      exact .inr rfl
theorem hT_two {gs : DGHs} (hgs : ∀ x s h, (∃ s' h', gs x s h = .nx s' h') ∨ gs x s h = .stuck) : ∀ x s h, (∃ s' h', hT gs x s h = .nx s' h') ∨ hT gs x s h = .stuck := fun x s h => by
  unfold hT
  cases tupOf x with
  | none => exact .inr rfl
  | some xs => exact hgs xs s h
theorem sAsgH {e tg : Expr} {f : DE} {g : DGH} {pos : Pos} (he : PE X e (tD W M E f)) (hg : PG X tg (tH W M g)) (h2 : ∀ x s h, (∃ s' h', g x s h = .nx s' h') ∨ g x s h = .stuck) (hs : swapsWithSole [tg] e pos.line X.env = pure false := by rfl) (hw : swappedStores [tg] e X.env = pure none := by rfl)
    (h1 : (assignEach [tg] X.env).map (·.2) = [assign tg X.env] := by rfl) : PS X (.Assign [tg] e pos) (tS W M E (dAsgH f g)) := psI (ps_asg he hg hs hw h1) fun D σ H h => by
  obtain ⟨io, hp, as, rl, S, P⟩ := h
  refine (stepS (rh := RV W) (f := f) rl S P).imp fun x H1 ⟨io2, hp2, a, e2, rl2, ra, P2⟩ => ?_
  refine ⟨io2, hp2, as, a, rl2, M.mono e2 S, ra, ?_⟩
  rcases h2 a as hp2 with ⟨s', h', z⟩ | z
  · rw [z] at P2 ⊢
    exact P2
  · rw [z] at P2
    exact P2.elim
end

def isTK (ct : CT) (n1 n2 : String) (t : Option TW) (h : Hep) : R AV := match t with
  | some t => .ok (.bl (t.sub ct (.ty n1) || t.sub ct (.ty n2))) h
  | none => .stuck
def dIsLT (ct : CT) (n1 n2 : String) (f : DE) : DE := fun s h => (f s h).bind fun a h1 => isTK ct n1 n2 (twOf ct h1 a) h1
section
variable {W : Wd} {M : Md W} {E : WX} {X : Cx}
theorem isLTD {c : CT} {e : Expr} {f : DE} {n1 n2 : String} {x1 x2 : Str} {p1 p2 p3 pt pos : Pos} {k : Nat} (hK : X.K = W.K) (hW : W.ct = c) (hm : X.mg "isinstance" = none) (he : PE X e (tD W M E f)) (hm1 : X.mg x1 = none) (hv1 : bootBuiltins x1 = some (.type n1)) (hm2 : X.mg x2 = none) (hv2 : bootBuiltins x2 = some (.type n2))
    (hn1 : n1 ∈ tyNames := by decide) (hn2 : n2 ∈ tyNames := by decide)
    (hg : Gl X "isinstance" := by rfl) (hg1 : Gl X x1 := by rfl) (hg2 : Gl X x2 := by rfl) (hx1 : x1 ≠ "__name__" := by decide) (hd1 : (x1 == ("__debug__" : Str)) = false := by decide) (hx2 : x2 ≠ "__name__" := by decide) (hd2 : (x2 == ("__debug__" : Str)) = false := by decide)
    (hs : starEach [e, .Tuple [.Name x1 p1, .Name x2 p2] k pt] X.env = (false, eval e X.env) :: starEach [.Tuple [.Name x1 p1, .Name x2 p2] k pt] X.env := by rfl)
    (hs2 : starEach [.Tuple [.Name x1 p1, .Name x2 p2] k pt] X.env = (false, eval (.Tuple [.Name x1 p1, .Name x2 p2] k pt) X.env) :: starEach [] X.env := by rfl)
    (hs3 : starEach [.Name x1 p1, .Name x2 p2] X.env = (false, eval (.Name x1 p1) X.env) :: starEach [.Name x2 p2] X.env := by rfl)
    (hs4 : starEach [.Name x2 p2] X.env = (false, eval (.Name x2 p2) X.env) :: starEach [] X.env := by rfl)
    (hpl : (backTo pos (starEach [.Tuple [.Name x1 p1, .Name x2 p2] k pt] X.env)).any (·.1) = false := by rfl) :
    PE X (.Call (.Name "isinstance" p3) [e, .Tuple [.Name x1 p1, .Name x2 p2] k pt] [] pos) (tD W M E (dIsLT c n1 n2 f)) := by
  subst hW
  have ta : PA X [e, .Tuple [.Name x1 p1, .Name x2 p2] k pt] (tCons (tD W M E f) (tCons (tTup (tCons (tC (.ty n1)) (tCons (tC (.ty n2)) tNil))) tNil)) :=
    pa_cons he (pa_cons (pe_tup (pa_cons (pe_bltn hg1 hm1 hv1 (v := .ty n1) rfl hx1 hd1) (pa_cons (pe_bltn hg2 hm2 hv2 (v := .ty n2) rfl hx2 hd2) pa_nil (by exact hs4)) (by exact hs3))) pa_nil (by exact hs2)) (by exact hs)
  refine peI (pe_callB call_isiT hg hm PyProof.Rows.Boot.«isinstance» ta (by decide) (by decide) (by exact hs) (by exact hpl)) fun σ H Q ⟨io, hp, as, rl, S, P⟩ => ?_
  refine (step (rh := RV W) (rh' := RV W) (f := f) rl S P).imp fun x H1 ⟨io2, hp2, a, e2, rl2, ra, P2⟩ => ?_
  refine ⟨(by decide : 2 ≤ sizeLine), fun p hp0 => ?_⟩
  cases z : twOf W.ct hp2 a with
  | none =>
    rw [z] at P2
    exact P2.elim
  | some t =>
    rw [z] at P2
    have e3 : Ext W io2 H1 io2 (upd H1 p (.tup [.ty n1, .ty n2])) := Ext.new0 hp0
    have rl3 : Rl W io2 hp2 (upd H1 p (.tup [.ty n1, .ty n2])) := rl2.other hp0
    obtain ⟨k1, t1⟩ := twOf_in z rl3 (ra.mono e3)
    have a1 := TW.sub_in (a := t) (b := .ty n1) W k1 hn1
    have a2 := TW.sub_in (a := t) (b := .ty n2) W k1 hn2
    refine ⟨x, p, _, t.val W, [.type n1, .type n2], t.sub W.ct (.ty n1) || t.sub W.ct (.ty n2), rfl, upd_same, .cons (.ty n1) (.cons (.ty n2) .nil), by rw [hK]; exact t1, ?_, ?_⟩
    · rw [hK]
      refine kitAny_cons a1 (fun z1 => ?_) (fun z1 => by rw [z1]; rfl)
      refine kitAny_cons a2 (fun z2 => ?_) (fun z2 => by rw [z2, Bool.or_true])
      rw [z1, z2]
      exact kitAny_nil
    · exact (Pst.later P2 e3).ok rl3 (.bl _)
end
end Dn
namespace PySem
open Sem (wp)
section
variable {prog : Program} {w : World} {A : Around} {E : Value → Shared → Prop} {s : Shared}
/-- one step of a walk through a dict's keys, as enumerate asks for it -/
theorem dn_draw_key {a d : Addr} {i n ep : Nat} {ob : Obj} {L : Array DictEntry} {x : DictEntry} {Q : Value → Shared → Prop} (ki : s.heap.IsKeyIter a d i n ep) (gd : s.heap.get? d = some ob) (dt : ob.data = .dict L ep)
    (len : L.size = n) (at_ : L[i]? = some x) (q : ∀ h', h'.IsKeyIter a d (i + 1) n ep → Heap.SameBut a s.heap h' → Q x.key { s with heap := h' }) : wpAny (model prog w) A (Builtin.SmallTypes.nextOf (.ref a)) Q E s := by
  obtain ⟨oi, gi, ci, di⟩ := id ki
  unfold Builtin.SmallTypes.nextOf
  have own : Builtin.Dict_items.ownsTuple "dict_keyiterator" = false := by decide
  obtain ⟨lt, ex⟩ := Array.getElem?_eq_some_iff.mp at_
  have on_ : (s.heap.update a (Obj.mapFields (·.setIfInBounds 1 (rawInt ((i : Int) + 1))))).IsKeyIter a d (i + 1) n ep := by
    refine ⟨_, Heap.get?_update_self _ gi (Obj.isFreed_of_fields (Obj.data_mapFields di _)), (Obj.cls_mapFields ..).trans ci, ?_⟩
    rw [Obj.data_mapFields di]; simp [rawInt]
  refine wpAny_bind (wpAny_callSpecial?_slot (name := Str.ofString "__next__") ki.typeIs F.slot_dict_keyiterator_next (wpAny_call_entry F.slot_dict_keyiterator_next ki.typeIs F.entry_dict_keyiterator_next ?_ (F.args_dict_keyiterator_next_1 _)))
  refine wpAny_bind (wpAny_pure (wpAny_bind (wpAny_bind ?_)))
  first | refine wpAny_bind (wpAny_typeNameOfWhole_keyiter ki.typeIs (wpAny_pure (wpAny_bind (wpAny_fieldsOf gi di ?_)))) | refine wpAny_bind (wpAny_typeNameOf_keyiter ki.typeIs (wpAny_pure (wpAny_bind (wpAny_fieldsOf gi di ?_))))
  simp only [own, Bool.false_eq_true, if_false]
  show wpAny _ _ (if (Value.ref d == Value.none) = true then _ else _) _ _ s
  rw [if_neg (by exact Bool.false_ne_true : ¬ (Value.ref d == Value.none) = true)]
  refine wpAny_bind (wpAny_pure (wpAny_bind (wpAny_dictEntries gd dt ?_))); rw [if_neg (by rw [len]; simp)]
  refine wpAny_bind (wpAny_pure (wpAny_bind (wpAny_dictEpoch gd dt ?_))); rw [if_neg (by simp)]; refine wpAny_pure ?_
  simp only [show ¬ ((i : Int) < 0) from Int.not_lt.mpr (Int.natCast_nonneg i), if_false, Int.toNat_natCast, Array.getElem?_eq_getElem lt]
  refine wpAny_bind ?_
  first | refine wpAny_bind (wpAny_typeNameOfWhole_keyiter ki.typeIs (wpAny_pure (wpAny_bind (wpAny_isOneOf_keyiter ki.typeIs ?_)))) | refine wpAny_bind (wpAny_typeNameOf_keyiter ki.typeIs (wpAny_pure (wpAny_bind (wpAny_isOneOf_keyiter ki.typeIs ?_))))
  show wpAny _ _ (setField (.ref a) 1 (rawInt ((i : Int) + 1)) >>= _) _ _ s
  refine wpAny_bind (wpAny_setField gi di (by simp) (wpAny_bind (wpAny_holding (wpAny_bind ?_))))
  refine wpAny_isOneOf_keyiter (s := { s with heap := s.heap.update a (Obj.mapFields (·.setIfInBounds 1 (rawInt ((i : Int) + 1)))) }) on_.typeIs ?_
  show wpAny _ _ (pure L[i].key) _ _ _
  rw [ex]
  exact wpAny_pure (wpAny_pure ⟨_, rfl, wpAny_pure (q _ on_ (Heap.SameBut.update ..))⟩)
theorem dn_draw_key_end {a d : Addr} {i n ep : Nat} {ob : Obj} {L : Array DictEntry} {Q : Value → Shared → Prop} (hh : A.handled = none) (ki : s.heap.IsKeyIter a d i n ep) (gd : s.heap.get? d = some ob) (dt : ob.data = .dict L ep)
    (len : L.size = n) (ge : n ≤ i) (q : ∀ h' e, Heap.ExtBut a s.heap h' → (∃ o, h'.get? e = some o ∧ o.cls = .type "StopIteration") → E (.ref e) { s with heap := h' }) : wpAny (model prog w) A (Builtin.SmallTypes.nextOf (.ref a)) Q E s := by
  obtain ⟨oi, gi, ci, di⟩ := id ki
  unfold Builtin.SmallTypes.nextOf
  have own : Builtin.Dict_items.ownsTuple "dict_keyiterator" = false := by decide
  have none_ : L[i]? = none := Array.getElem?_eq_none (by rw [len]; exact ge)
  refine wpAny_bind (wpAny_callSpecial?_slot (name := Str.ofString "__next__") ki.typeIs F.slot_dict_keyiterator_next (wpAny_call_entry F.slot_dict_keyiterator_next ki.typeIs F.entry_dict_keyiterator_next ?_ (F.args_dict_keyiterator_next_1 _)))
  refine wpAny_bind (wpAny_pure (wpAny_bind (wpAny_bind ?_)))
  first | refine wpAny_bind (wpAny_typeNameOfWhole_keyiter ki.typeIs (wpAny_pure (wpAny_bind (wpAny_fieldsOf gi di ?_)))) | refine wpAny_bind (wpAny_typeNameOf_keyiter ki.typeIs (wpAny_pure (wpAny_bind (wpAny_fieldsOf gi di ?_))))
  simp only [own, Bool.false_eq_true, if_false]
  show wpAny _ _ (if (Value.ref d == Value.none) = true then _ else _) _ _ s
  rw [if_neg (by exact Bool.false_ne_true : ¬ (Value.ref d == Value.none) = true)]
  refine wpAny_bind (wpAny_pure (wpAny_bind (wpAny_dictEntries gd dt ?_))); rw [if_neg (by rw [len]; simp)]
  refine wpAny_bind (wpAny_pure (wpAny_bind (wpAny_dictEpoch gd dt ?_))); rw [if_neg (by simp)]; refine wpAny_pure ?_
  simp only [show ¬ ((i : Int) < 0) from Int.not_lt.mpr (Int.natCast_nonneg i), if_false, Int.toNat_natCast, none_]
  refine wpAny_bind ?_
  first | refine wpAny_bind (wpAny_typeNameOfWhole_keyiter ki.typeIs (wpAny_pure ?_)) | refine wpAny_bind (wpAny_typeNameOf_keyiter ki.typeIs (wpAny_pure ?_))
  show wpAny _ _ (setField (.ref a) 0 .none >>= _) _ _ s
  refine wpAny_bind (wpAny_setField gi di (by simp) ?_)
  show wpAny _ _ (newExc (.type "StopIteration") [] >>= _) _ _ _
  refine wpAny_bind ?_
  simp only [newExc, newTuple]
  refine wpAny_bind (wpAny_newObj_type (wpAny_bind (m := firstArgMember _ _) (wpAny_of_eq (a := Value.none) (by first | rfl | (simp only [firstArgMember]; rfl)) (wpAny_newObj_type ?_ (by size_fits)))) (by size_fits))
  simp only [raiseNew]
  refine wpAny_bind (wpAny_handled ?_)
  first | rw [show A.in1.handled = none from hh] | rw [hh]
  exact wpAny_bind (wpAny_pure (wpAny_throw (q _ _ (((Heap.SameBut.update ..).extBut.push _).push _) ⟨_, Heap.get?_push_size _ rfl, rfl⟩)))
end
end PySem
namespace Dn
open PySem PySem.Spec PyProof.Rows L2

theorem draws_keys {prog : Program} {w : World} {A : Around} (hh : A.handled = none) (it d : Addr) (ne : d ≠ it) (L : Array DictEntry) (ep : Nat) :
    Draws prog w A it [it, d] L.size (fun i v => ∃ x, L[i]? = some x ∧ v = x.key) (fun i h => h.IsKeyIter it d i L.size ep ∧ ∃ o, h.get? d = some o ∧ o.data = .dict L ep) where
  live := fun _ _ st => by
    obtain ⟨o, ho, _⟩ := st.1
    exact ⟨o, ho⟩
  frame := fun _ _ _ st k => by
    obtain ⟨s1, o, s2, s3⟩ := st
    exact ⟨s1.at fun o e => k it (by simp) o e, o, k d (by simp) o s2, s3⟩
  item := fun i s Q E hi st q => by
    obtain ⟨s1, o, s2, s3⟩ := st
    have at_ : L[i]? = some L[i] := Array.getElem?_eq_getElem hi
    exact dn_draw_key s1 s2 s3 rfl at_ fun h' k' sb => q _ h' s.toks ⟨_, at_, rfl⟩ ⟨k', o, (sb.2 d ne).trans s2, s3⟩ sb
  done := fun s Q E st q => by
    obtain ⟨s1, o, s2, s3⟩ := st
    exact dn_draw_key_end hh s1 s2 s3 rfl (Nat.le_refl _) q
def ItK (d : Addr) (o : Obj) (kvs : List (Key × V)) : It :=
  ⟨fun i H => H d = some (.frz o (.dK kvs)) ∧ i < kvs.length, fun i H v H' => ∃ T k x, v = .ref T ∧ H T = none ∧ kvs[i]? = some (k, x) ∧ H' = upd H T (.tup [.int (i : Nat), kV k]), fun i H => H d = some (.frz o (.dK kvs)) ∧ kvs.length ≤ i⟩
theorem turn_enumK {P : Program} {w : World} {K : PySem.W.Frag} {elts : List Expr} {kk : Nat} {tpos : Pos} {kvs : List (Key × V)} {o : Obj} {L : Array DictEntry} {ep : Nat} (d e it : Addr) (hod : o.data = .dict L ep) :
    Turn P w K (.Tuple elts kk tpos) (ItK d o kvs) [e, it] e (fun i h => (∃ old, IsEnum h e it ((i : Nat) : Int) old) ∧ h.IsKeyIter it d i kvs.length ep ∧ e ≠ it ∧ d ≠ it ∧ d ≠ e) where
  mem := by simp
  obj := fun i h st b hb => by
    obtain ⟨⟨old, he⟩, ⟨oi, ho, hc, hd⟩, _⟩ := st
    rcases (by simpa using hb : b = e ∨ b = it) with rfl | rfl
    · exact ⟨_, he, fun v q => nomatch q⟩
    · exact ⟨oi, ho, fun v q => by rw [hd] at q; cases q⟩
  keep := fun i h h' st k => by
    obtain ⟨⟨old, he⟩, hi, r⟩ := st
    exact ⟨⟨old, k e (by simp) _ he⟩, hi.at fun o q => k it (by simp) o q, r⟩
  item := by
    intro X hP hw hK hc i pins s σ H E I hf st hg
    subst hP hw hK
    obtain ⟨⟨old, he⟩, hit, hne, hdi, hde⟩ := st
    obtain ⟨hd, hi⟩ := hg
    obtain ⟨hs, hgd, hx, es', ep', vs, hdt, hsz, kv, hm⟩ := I.frzK hd
    obtain ⟨rfl, rfl⟩ := dict_ep hod hdt
    obtain ⟨⟨k, v⟩, hkv⟩ : ∃ p, kvs[i]? = some p := ⟨kvs[i], List.getElem?_eq_getElem hi⟩
    obtain ⟨u, hu, ru⟩ := kv_get kv hkv
    have hlt : i < es'.size := by
      rw [hsz]
      exact hi
    obtain ⟨o2, es2, g2, _, d2, _, prs, _⟩ := id hm
    rw [hgd] at g2
    cases g2
    obtain ⟨rfl, _⟩ := dict_ep hdt d2
    have kis : keyIs k es2[i].key = true := (prs.get? (e := es2[i]) (by simp [hlt]) hu).1
    rw [← hsz] at hit
    have D : Draws X.prog X.w X.A.in1 it [it, d] es2.size (fun i v => ∃ x, es2[i]? = some x ∧ v = x.key) (fun i h => h.IsKeyIter it d i es2.size ep' ∧ ∃ o, h.get? d = some o ∧ o.data = .dict es2 ep') := draws_keys (show X.A.in1.handled = none from I.ok.hd hc) it d hdi es2 ep'
    have hel : e < s.heap.objs.size := Heap.lt_size he
    have hil : it < s.heap.objs.size := by
      obtain ⟨_, q, _⟩ := hit
      exact Heap.lt_size q
    have hef : e ∉ [it, d] := fun z => by
      rcases (by simpa using z : e = it ∨ e = d) with z | z
      · exact hne z
      · exact hde z.symm
    refine wpAny_pyNext_enum_itemC D he ⟨hit, o, hgd, hdt⟩ hlt hne hef fun y h' tk hP ho hit' hT hsz2 hk => ?_
    obtain ⟨en, e1, ey⟩ := hP
    rw [Array.getElem?_eq_getElem hlt] at e1
    cases e1
    subst ey
    refine ⟨_, rfl, wpAny_letOwnedTupleGo_enum (s := { s with heap := h', toks := tk + 1 }) ho fun h'' he' sb => ?_⟩
    have hT2 : h''.get? s.heap.objs.size = some { cls := .type "tuple", data := .seq #[.int i tk, es2[i].key] } := (sb.2 _ (Nat.ne_of_gt hel)).trans hT
    have new : ObjOk X.prog X.w (upd H s.heap.objs.size (.tup [.int (i : Nat), kV k])) h'' s.heap.objs.size (.tup [.int (i : Nat), kV k]) :=
      ⟨by show 2 ≤ sizeLine; decide, [.int i tk, es2[i].key], .cons ⟨_, rfl⟩ (.cons (relV_key kis) .nil), ⟨_, hT2, rfl, _, rfl⟩⟩
    have I1 : Inv X pins σ (upd H s.heap.objs.size (.tup [.int (i : Nat), kV k])) { s with heap := h'', toks := tk + 1 } :=
      I.turnedNew (ch := [e, it]) (fun b ob hb q => (sb.2 b (fun z => hb (by simp [z]))).trans (hk b ob (fun z => hb (by simp [z])) (fun z => hb (by simp [z])) q)) hf (Nat.le_refl _) new
    have st3 : h''.IsKeyIter it d (i + 1) kvs.length ep' := by
      rw [← hsz]
      exact hit'.1.at fun o q => (sb.2 it (Ne.symm hne)).trans q
    have st4 : IsEnum h'' e it ((i + 1 : Nat) : Int) es2[i].key := by
      rw [show ((i + 1 : Nat) : Int) = (i : Int) + 1 by omega]
      exact he'
    refine ⟨.ref s.heap.objs.size, _, I1, rfl, ⟨_, k, v, rfl, I.hok.fresh (Nat.le_refl _), hkv, rfl⟩, ⟨⟨_, st4⟩, st3, hne, hdi, hde⟩, fun b hb => ?_⟩
    · have hb' : b < s.heap.objs.size := by
        rcases (by simpa using hb : b = e ∨ b = it) with z | z
        · rw [z]; exact hel
        · rw [z]; exact hil
      rw [upd_ne (Nat.ne_of_lt hb')]
      exact (hf b hb).1
  done := by
    intro X hP hw hK hc i pins s σ H E I hf st hg
    subst hP hw hK
    obtain ⟨⟨old, he⟩, hit, hne, hdi, hde⟩ := st
    obtain ⟨hd, hi⟩ := hg
    obtain ⟨hs, hgd, hx, es', ep', vs, hdt, hsz, kv, hm⟩ := I.frzK hd
    obtain ⟨rfl, rfl⟩ := dict_ep hod hdt
    obtain ⟨f0, f1, f2, f3, f4, f5⟩ := hf it (by simp)
    rw [← hsz] at hit hi
    have D : Draws X.prog X.w X.A.in1 it [it, d] i (fun i v => ∃ x, es'[i]? = some x ∧ v = x.key) (fun j h => j = i ∧ h.IsKeyIter it d j es'.size ep' ∧ ∃ o, h.get? d = some o ∧ o.data = .dict es' ep') :=
      { live := fun _ _ st => by
          obtain ⟨_, ⟨o, ho, _⟩, _⟩ := st
          exact ⟨o, ho⟩
        frame := fun _ _ _ st k => by
          obtain ⟨s0, s1, o, s2, s3⟩ := st
          exact ⟨s0, s1.at fun o e => k it (by simp) o e, o, k d (by simp) o s2, s3⟩
        item := fun j s Q E hj st q => absurd st.1 (Nat.ne_of_lt hj)
        done := fun s Q E st q => by
          obtain ⟨_, s1, o, s2, s3⟩ := st
          exact dn_draw_key_end (show X.A.in1.handled = none from I.ok.hd hc) s1 s2 s3 rfl hi q }
    exact wpAny_pyNext_enum_endD D he ⟨rfl, hit, o, hgd, hdt⟩ fun h' eb => ⟨rfl, I.turned (t' := s.toks) (fun b o hb q => eb b o hb q) f0 f1 f3 f4 f5⟩
  self := fun A i s Q E st h => by
    obtain ⟨⟨_, he⟩, _⟩ := st
    exact wpAny_pyIter_enum he h
section
variable {W : Wd} {io : List Addr} {H : Hp} {n : Nat} {p : Addr} {od : Obj} {vs : List (Key × V)}
theorem src_enK (hi : io[n]? = some p) (hd : H p = some (.frz od (.dK vs))) : RSrc W io H (.dK n 3) (ItK p od vs) := fun io' H' hp e rl => by
  refine ⟨fun i z => ?_, fun i x z => ?_⟩
  · obtain ⟨kvs, z1, z2⟩ := dk_next z
    obtain ⟨h1, rk⟩ := frz_at hi hd e rl z1
    refine ⟨h1, ?_⟩
    rw [← rk.len]
    exact List.getElem?_eq_none_iff.mp (Option.map_eq_none_iff.mp z2.symm)
  · obtain ⟨kvs, z1, z2⟩ := dk_next z
    obtain ⟨h1, rk⟩ := frz_at hi hd e rl z1
    obtain ⟨⟨q, a⟩, e1, rfl⟩ := Option.map_eq_some_iff.mp z2.symm
    obtain ⟨v, e2, rv⟩ := rk.at_ e1
    refine ⟨⟨h1, (List.getElem?_eq_some_iff.mp e2).1⟩, fun w H2 ⟨T, k2, v2, ew, hT, e3, eH⟩ => ?_⟩
    subst eH
    subst ew
    rw [e2] at e3
    cases e3
    have ex : Ext W io' H' io' (upd H' T (.tup [.int (i : Nat), kV q])) := Ext.new0 hT
    exact ⟨ex, rl.other hT, .tup (.inl (.inl upd_same)) (.cons (.int _) (.cons (rv_key q) .nil))⟩
end
theorem begins_keys {prog0 : Program} {d : Addr} {o : Obj} {L : Array DictEntry} {ep : Nat} (hd : (d == sysModules) = false) (hx : o.ExactDict) (dt : o.data = .dict L ep) :
    Begins (.ref d) { cls := .type "dict_keyiterator", data := .fields #[.ref d, .int 0 0, .int L.size 0, .int ep 0] } (fun h => h.get? d = some o) where
  iter := fun prog w A E s Q g h => iter_keys hd g hx dt h
  keeps := fun h h' x k => k d o x
  free := rfl
section
variable {W : Wd} {M : Md W} {E : WX} {X : Cx} {e : Expr} {f : DE} {p pos tpos : Pos} {elts : List Expr} {kk : Nat}
theorem enkD (hK : X.K = W.K) (he : PE X e (tD W M E f)) (hm : X.mg "enumerate" = none) (hg : Gl X "enumerate" := by rfl) (hs : starEach [e] X.env = [(false, eval e X.env)] := by rfl) :
    PI X (.Tuple elts kk tpos) (.Call (.Name "enumerate" p) [e] [] pos) (tG W M (RSrc W) E (dDk 3 f)) := by
  refine ⟨fun pins s σ H R I h => ?_⟩
  have h0 : tCons (tD W M E f) tNil σ H (fun vs H1 => ∃ (d : Addr) (o : Obj) (kvs : List (Key × V)) (io : List Addr) (n : Nat) (hp : Hep), vs = [.ref d] ∧ H1 d = some (.frz o (.dK kvs)) ∧ io[n]? = some d ∧ Rl W io hp H1 ∧ Pst W (RSrc W) E σ R io H1 (.ok (.dK n 3) hp)) :=
    (dk_in h).imp fun x H1 ⟨d, o, kvs, io, n, hp, ex, hd, hi, rl, P⟩ => ⟨d, o, kvs, io, n, hp, by rw [ex], hd, hi, rl, P⟩
  refine Call_ (ld_blt I hg hm boot_enumerate (PyProof.Rows.callWith_type1 (thn ((pa_cons he pa_nil hs).run pos pins s σ H _ I h0) fun us s1 ⟨vs, H1, I1, r1, q1⟩ => ?_) hs rfl))
  obtain ⟨d, o, kvs, io, n, hp, rfl, hd, hi, rl, P⟩ := q1
  obtain ⟨u, rfl, ru⟩ := vals1 r1
  obtain rfl : u = Value.ref d := ru
  obtain ⟨hss, hgd, hx, es, ep, vs, hdt, hsz, kv, hm2⟩ := I1.frzK hd
  have hlt : d < s1.heap.objs.size := Heap.lt_size hgd
  have fp : ∀ b ∈ [s1.heap.objs.size + 1, s1.heap.objs.size], FpOk X pins H1 b := fun b hb => by
    have hle : s1.heap.objs.size ≤ b := by
      rcases (by simpa using hb : b = s1.heap.objs.size + 1 ∨ b = s1.heap.objs.size) with z | z
      · rw [z]; exact Nat.le_add_right _ _
      · rw [z]; exact Nat.le_refl _
    exact I1.fpOk hle (I1.hok.fresh hle)
  refine dn_enum_begins (begins_keys (prog0 := X.prog) hss hx hdt) hgd fun h' he hit hsz2 hk => wpAny_pyIter_enum he ?_
  have I2 : Inv X pins σ H1 { s1 with heap := h' } := I1.kept (t' := s1.toks) hk
  refine ⟨s1.heap.objs.size + 1, [s1.heap.objs.size + 1, s1.heap.objs.size], _, ItK d o kvs, H1, rfl, I2, turn_enumK d (s1.heap.objs.size + 1) s1.heap.objs.size hdt, ⟨⟨.none, he⟩, ⟨_, hit, rfl, by rw [hsz]; rfl⟩, Nat.succ_ne_self _, Nat.ne_of_lt hlt, Nat.ne_of_lt (Nat.lt_succ_of_lt hlt)⟩, fp, ?_⟩
  exact P.ok rl (src_enK hi hd)
end
end Dn
namespace Dn
open PySem PySem.Spec PyProof.Rows L2

def liK (o : Option (Nat × List (Key × AV))) (h : Hep) : R AV := match o with
  | some (_, kvs) => .ok (.ref h.length) (h ++ [.lst (kvs.map fun kv => .tup [ofKey kv.1, kv.2])])
  | none => .stuck
def dLi (fo : DE) : DE := fun s h => (fo s h).bind fun o h1 => liK (dicAt h1 o) h1
section
variable {W : Wd} {M : Md W} {E : WX} {X : Cx} {io : List Addr} {H H' : Hp} {hp : Hep}
theorem Ext.grow (k : ∀ b o, H b = some o → H' b = some o) (io l : List Addr) : Ext W io H (io ++ l) H' :=
  ⟨⟨l, rfl⟩, fun a xs h => by
    rcases h with (h | ⟨o, h⟩) | h
    · exact .inl (.inl (k _ _ h))
    · exact .inl (.inr ⟨o, k _ _ h⟩)
    · exact .inr h, fun a xs h => by
    rcases h with ⟨o, h⟩ | h
    · exact .inl ⟨o, k _ _ h⟩
    · exact .inr h, fun a fs h => k _ _ h, fun a o u h => k _ _ h, fun a u h => k _ _ h, fun h p hp => (h p hp).ext k⟩
theorem Rl.gain (rl : Rl W io hp H) (k : ∀ b o, H b = some o → H' b = some o) {p : Addr} {o : AO} {u : HO} (hn : H p = none) (e : H' p = some u) (r : RO W (io ++ [p]) H' o u) : Rl W (io ++ [p]) (hp ++ [o]) H' := by
  have hp' : p ∉ io := fun h => by
    obtain ⟨u, e⟩ := rl.mem h
    rw [hn] at e
    cases e
  refine ⟨by simp [rl.len], ?_, fun i a q hi h => ?_, fun p h => (rl.tb p h).ext k⟩
  · refine List.nodup_append.mpr ⟨rl.nd, by simp, fun a ha b hb => ?_⟩
    rw [List.mem_singleton] at hb
    subst hb
    exact fun z => hp' (z ▸ ha)
  · by_cases hl : i < io.length
    · rw [List.getElem?_append_left hl] at hi
      rw [List.getElem?_append_left (by rw [← rl.len]; exact hl)] at h
      obtain ⟨u, e, r'⟩ := rl.at hi h
      exact ⟨u, k _ _ e, r'.mono (Ext.grow k io [p])⟩
    · obtain ⟨l1, z1⟩ := List.getElem?_eq_some_iff.mp hi
      obtain ⟨l2, z2⟩ := List.getElem?_eq_some_iff.mp h
      rw [List.length_append, List.length_singleton] at l1
      have ei : i = io.length := by omega
      have ei2 : i = hp.length := by rw [← rl.len]; exact ei
      have e1 : a = p := by
        rw [ei, List.getElem?_append_right (Nat.le_refl _), Nat.sub_self] at hi
        exact (Option.some.inj hi).symm
      have e2 : q = o := by
        rw [ei2, List.getElem?_append_right (Nat.le_refl _), Nat.sub_self] at h
        exact (Option.some.inj h).symm
      subst e1
      subst e2
      exact ⟨u, e, r⟩
theorem items_in {io : List Addr} {H H' : Hp} (ex : Ext W io H io H') : ∀ {kvs : List (Key × AV)} {vs : List (Key × V)} {ts : List Addr}, RKs W io H kvs vs → Paired (fun (t : Addr) (q : Key × V) => H' t = some (.tup [kV q.1, q.2])) ts vs → RVs W io H' (kvs.map fun kv => .tup [ofKey kv.1, kv.2]) (ts.map V.ref)
  | _, _, _, .nil, .nil => .nil
  | _, _, _, .cons r q, .cons e t => .cons (.tup (.inl (.inl e)) (.cons (rv_key _) (.cons (r.mono ex) .nil))) (items_in ex q t)
theorem liD {e : Expr} {fo : DE} {p apos cpos pos : Pos} (hc : X.calm = true) (hm : X.mg "list" = none) (hv : bootBuiltins "list" = some (.type "list")) (he : PE X e (tD W M E fo)) (hg : Gl X "list" := by rfl) (hbase : attributeBase e "items" X.env (eval e X.env) = eval e X.env := by rfl) (hline : (apos.endLine == cpos.line) = true := by rfl)
    (hs : starEach [.Call (.Attribute e "items" apos) [] [] cpos] X.env = (false, eval (.Call (.Attribute e "items" apos) [] [] cpos) X.env) :: starEach [] X.env := by rfl) :
    PE X (.Call (.Name "list" p) [.Call (.Attribute e "items" apos) [] [] cpos] [] pos) (tD W M E (dLi fo)) := peI (LiI.pe_listItems hc he hg hm hv hbase hline hs) fun σ H Q ⟨io, hp, as, rl, S, P⟩ => by
  refine (step (rh := RV W) (rh' := RV W) (f := fo) rl S P).imp fun x H1 ⟨io2, hp2, a, e2, rl2, ra, P2⟩ => ?_
  cases z : dicAt hp2 a with
  | none =>
    rw [z] at P2
    exact P2.elim
  | some q =>
    obtain ⟨n, kvs⟩ := q
    rw [z] at P2
    obtain ⟨p, vs, rfl, ea, hi, hn, hd, rk⟩ := dicAt_in z rl2 ra
    refine ⟨p, vs, rfl, hd, fun H' L ts k hL hts hLt eL pr => ?_⟩
    have ex0 : Ext W io2 H1 io2 H' := by
      have := Ext.grow (W := W) k io2 []
      rwa [List.append_nil] at this
    have ex : Ext W io2 H1 (io2 ++ [L]) H' := Ext.grow k io2 [L]
    have ex1 : Ext W io2 H' (io2 ++ [L]) H' := Ext.grow (fun _ _ z => z) io2 [L]
    have rl3 : Rl W (io2 ++ [L]) (hp2 ++ [.lst (kvs.map fun kv => .tup [ofKey kv.1, kv.2])]) H' := rl2.gain k hL eL (.lst ((items_in ex0 rk pr).mono ex1))
    have at_ : (io2 ++ [L])[hp2.length]? = some L := by
      rw [← rl2.len]
      simp
    exact P2 _ _ _ ex rl3 (.ref at_)
end
end Dn
namespace Dn
open PySem L2
theorem set_last {h : Hep} {a b : AO} : (h ++ [a]).set h.length b = h ++ [b] := by
  rw [List.set_append_right _ _ (Nat.le_refl _), Nat.sub_self]
  rfl
theorem at_last {h : Hep} {a : AO} : (h ++ [a])[h.length]? = some a := by
  rw [List.getElem?_append_right (Nat.le_refl _), Nat.sub_self]
  rfl
theorem keyOf_of (q : Key) : keyOf (ofKey q) = some q := by
  cases q <;> rfl
theorem dput_len (kvs : List (Key × AV)) (q : Key) (v : AV) : (dput kvs q v).length ≤ kvs.length + 1 := by
  unfold dput
  split
  · simp
  · simp
theorem dcL_pure {src : Src} {g : DG} {tk tv : DE} {s0 : Sl} {h1 : Hep} {xs : List AV} {kvs : List (Key × AV)} (hl : xs.length = kvs.length) (hz : xs.length ≤ 100000) (hs : ∀ (acc : List (Key × AV)) (i : Nat), src.next i (h1 ++ [.dK acc]) = some xs[i]?)
    (step : ∀ (i : Nat) (x : AV) (q : Key) (v : AV) (acc : List (Key × AV)), xs[i]? = some x → kvs[i]? = some (q, v) → ∃ s1, g x s0 = some s1 ∧ tk s1 (h1 ++ [.dK acc]) = .ok (ofKey q) (h1 ++ [.dK acc]) ∧ tv s1 (h1 ++ [.dK acc]) = .ok v (h1 ++ [.dK acc])) :
    ∀ (k i : Nat) (acc : List (Key × AV)), k + i = xs.length → acc.length ≤ i → dDcL src g dYes tk tv h1.length s0 (k + 1) i (h1 ++ [.dK acc]) = .ok (.ref h1.length) (h1 ++ [.dK (mergeA acc (kvs.drop i))])
  | k, i, acc, e, ha => by
    have hn := hs acc i
    cases z : xs[i]? with
    | none =>
      have hi := List.getElem?_eq_none_iff.mp z
      rw [z] at hn
      rw [List.drop_eq_nil_of_le (by omega)]
      unfold dDcL
      simp only [hn]
      rfl
    | some x =>
      obtain ⟨hi, _⟩ := List.getElem?_eq_some_iff.mp z
      obtain ⟨k, rfl⟩ : ∃ m, k = m + 1 := ⟨k - 1, by omega⟩
      rw [z] at hn
      obtain ⟨⟨q, v⟩, z2⟩ : ∃ p, kvs[i]? = some p := ⟨_, List.getElem?_eq_getElem (by omega)⟩
      obtain ⟨s1, e1, e2, e3⟩ := step i x q v acc z z2
      have hzz : acc.length < SZ := by
        have : SZ = 1000000 := rfl
        omega
      have e5 : putAtD h1.length (keyOf (ofKey q)) v (h1 ++ [.dK acc]) = some (h1 ++ [.dK (dput acc q v)]) := by
        unfold putAtD
        rw [keyOf_of, at_last]
        simp only [if_pos hzz, set_last]
      have r := dcL_pure hl hz hs step k (i + 1) (dput acc q v) (by omega) (Nat.le_trans (dput_len _ _ _) (Nat.succ_le_succ ha))
      have ed : kvs.drop i = (q, v) :: kvs.drop (i + 1) := by
        obtain ⟨l2, z3⟩ := List.getElem?_eq_some_iff.mp z2
        rw [← z3]
        exact List.drop_eq_getElem_cons l2
      rw [ed]
      show dDcL src g dYes tk tv h1.length s0 (k + 1 + 1) i (h1 ++ [.dK acc]) = .ok (.ref h1.length) (h1 ++ [.dK (mergeA (dput acc q v) (kvs.drop (i + 1)))])
      rw [← r]
      have t1 : dYes s1 (h1 ++ [.dK acc]) = .ok true (h1 ++ [.dK acc]) := rfl
      unfold dDcL
      simp only [hn, e1, t1, R.noX_ok, R.bind_ok, e2, e3, e5]
      rfl
theorem dc_pure {f : DI} {src : Src} {g : DG} {tk tv : DE} {vs : List Nat} {s : Sl} {h h1 : Hep} {xs : List AV} {kvs : List (Key × AV)} (ef : f s h = .ok src h1) (hl : xs.length = kvs.length) (hz : xs.length ≤ 100000) (hlen : src.len h1 = xs.length) (hs : ∀ (acc : List (Key × AV)) (i : Nat), src.next i (h1 ++ [.dK acc]) = some xs[i]?)
    (step : ∀ (i : Nat) (x : AV) (q : Key) (v : AV) (acc : List (Key × AV)), xs[i]? = some x → kvs[i]? = some (q, v) → ∃ s1, g x (wipeS s vs) = some s1 ∧ tk s1 (h1 ++ [.dK acc]) = .ok (ofKey q) (h1 ++ [.dK acc]) ∧ tv s1 (h1 ++ [.dK acc]) = .ok v (h1 ++ [.dK acc])) :
    dDc f g dYes tk tv vs s h = .ok (.ref h1.length) (h1 ++ [.dK (mergeA [] kvs)]) := by
  have r := dcL_pure hl hz hs step xs.length 0 [] (by omega) (Nat.le_refl _)
  unfold dDc
  rw [ef]
  show dDcL src g dYes tk tv h1.length (wipeS s vs) (src.len h1 + 1) 0 (h1 ++ [.dK []]) = _
  rw [hlen]
  exact r
theorem lcL_pure {src : Src} {g : DG} {te : DE} {s0 : Sl} {h1 : Hep} {xs ys : List AV} (hl : xs.length = ys.length) (hz : xs.length ≤ 100000) (hs : ∀ (acc : List AV) (i : Nat), src.next i (h1 ++ [.lst acc]) = some xs[i]?)
    (step : ∀ (i : Nat) (x y : AV) (acc : List AV), xs[i]? = some x → ys[i]? = some y → ∃ s1, g x s0 = some s1 ∧ te s1 (h1 ++ [.lst acc]) = .ok y (h1 ++ [.lst acc])) :
    ∀ (k i : Nat) (acc : List AV), k + i = xs.length → acc.length ≤ i → dLcL src g dYes te h1.length s0 (k + 1) i (h1 ++ [.lst acc]) = .ok (.ref h1.length) (h1 ++ [.lst (acc ++ ys.drop i)])
  | k, i, acc, e, ha => by
    have hn := hs acc i
    cases z : xs[i]? with
    | none =>
      have hi := List.getElem?_eq_none_iff.mp z
      rw [z] at hn
      rw [List.drop_eq_nil_of_le (by omega), List.append_nil]
      unfold dLcL
      simp only [hn]
    | some x =>
      obtain ⟨hi, _⟩ := List.getElem?_eq_some_iff.mp z
      obtain ⟨k, rfl⟩ : ∃ m, k = m + 1 := ⟨k - 1, by omega⟩
      rw [z] at hn
      obtain ⟨y, z2⟩ : ∃ p, ys[i]? = some p := ⟨_, List.getElem?_eq_getElem (by omega)⟩
      obtain ⟨s1, e1, e2⟩ := step i x y acc z z2
      have hzz : acc.length < SZ := by
        have : SZ = 1000000 := rfl
        omega
      have e5 : addAt h1.length y (h1 ++ [.lst acc]) = some (h1 ++ [.lst (acc ++ [y])]) := by
        unfold addAt
        rw [at_last]
        simp only [if_pos hzz, set_last]
      have r := lcL_pure hl hz hs step k (i + 1) (acc ++ [y]) (by omega) (by simp; omega)
      have ed : ys.drop i = y :: ys.drop (i + 1) := by
        obtain ⟨l2, z3⟩ := List.getElem?_eq_some_iff.mp z2
        rw [← z3]
        exact List.drop_eq_getElem_cons l2
      rw [ed]
      rw [show acc ++ y :: ys.drop (i + 1) = (acc ++ [y]) ++ ys.drop (i + 1) by simp]
      rw [← r]
      have t1 : dYes s1 (h1 ++ [.lst acc]) = .ok true (h1 ++ [.lst acc]) := rfl
      conv => lhs; unfold dLcL
      simp only [hn, e1, t1, R.noX_ok, R.bind_ok, e2, e5]
theorem lc_pure {f : DI} {src : Src} {g : DG} {te : DE} {vs : List Nat} {s : Sl} {h h1 : Hep} {xs ys : List AV} (ef : f s h = .ok src h1) (hl : xs.length = ys.length) (hz : xs.length ≤ 100000) (hlen : src.len h1 = xs.length) (hs : ∀ (acc : List AV) (i : Nat), src.next i (h1 ++ [.lst acc]) = some xs[i]?)
    (step : ∀ (i : Nat) (x y : AV) (acc : List AV), xs[i]? = some x → ys[i]? = some y → ∃ s1, g x (wipeS s vs) = some s1 ∧ te s1 (h1 ++ [.lst acc]) = .ok y (h1 ++ [.lst acc])) :
    dLc f g dYes te vs s h = .ok (.ref h1.length) (h1 ++ [.lst ys]) := by
  have r := lcL_pure hl hz hs step xs.length 0 [] (by omega) (Nat.le_refl _)
  unfold dLc
  rw [ef]
  show dLcL src g dYes te h1.length (wipeS s vs) (src.len h1 + 1) 0 (h1 ++ [.lst []]) = _
  rw [hlen]
  exact r
theorem lk_pure {fd f : DE} {s : Sl} {h hx g : Hep} {n : Nat} {kvs : List (Key × AV)} {v : AV} (ed : fd s h = .ok (.ref n) hx) (en : h[n]? = some (.dK kvs)) (e : f s (h.set n (.frz (.dK kvs))) = .ok v (h.set n (.frz (.dK kvs)) ++ g)) : dLkE fd f s h = .ok v (h ++ g) := by
  obtain ⟨hn, ex⟩ := List.getElem?_eq_some_iff.mp en
  have e1 : dicAt h (.ref n) = some (n, kvs) := by
    simp only [dicAt, en]
  unfold dLkE
  rw [ed]
  simp only [e1]
  rw [e]
  show R.ok v ((h.set n (.frz (.dK kvs)) ++ g).set n (.dK kvs)) = _
  rw [List.set_append_left _ _ (by simpa using hn), List.set_set]
  rw [← ex, List.set_getElem_self hn]
/-- the dict that a run of pairs makes, where no key comes twice -/
theorem merge_nd : ∀ (more acc : List (Key × AV)), ((acc ++ more).map (·.1)).Nodup → mergeA acc more = acc ++ more
  | [], acc, _ => by simp [mergeA]
  | (q, v) :: r, acc, nd => by
    have hq : (acc.any fun kv => decide (kv.1 = q)) = false := by
      rw [List.any_eq_false]
      intro kv hk
      have : q ∉ acc.map (·.1) := fun z => by
        rw [List.map_append, List.nodup_append] at nd
        exact nd.2.2 q z q (by simp) rfl
      exact fun z => this (List.mem_map.mpr ⟨kv, hk, of_decide_eq_true z⟩)
    have ep : dput acc q v = acc ++ [(q, v)] := by
      unfold dput
      rw [if_neg (by rw [hq]; exact Bool.false_ne_true)]
    show mergeA (dput acc q v) r = _
    rw [ep, merge_nd r _ (by simpa using nd)]
    simp
end Dn
namespace Dn
open PySem PySem.Spec PyProof.Rows L2

def dIfT (c a b : DT) : DT := fun s h => (c s h).bind fun d h1 => match d with
  | true => a s h1
  | false => b s h1
@[simp] theorem xIfT {c a b : DT} {s : Sl} {h : Hep} : dIfT c a b s h = (c s h).bind fun d h1 => if d = true then a s h1 else b s h1 := by
  unfold dIfT
  congr
  funext d h1
  cases d <;> rfl
section
variable {W : Wd} {M : Md W} {E : WX} {X : Cx} {c a b : Expr} {ft fa fb : DT} {pos : Pos}
theorem ifT (hc : PT X c (tDT W M E ft)) (ha : PT X a (tDT W M E fa)) (hb : PT X b (tDT W M E fb)) : PT X (.IfExp c a b pos) (tDT W M E (dIfT ft fa fb)) := by
  refine ⟨fun pins s σ H Q I hQ => ?_⟩
  have hi : tDT W M E ft σ H (fun d H1 => if d = true then tDT W M E fa σ H1 Q else tDT W M E fb σ H1 Q) := by
    obtain ⟨io, hp, as, rl, S, P⟩ := hQ
    refine (step (rh := fun _ _ b c => b = c) (f := ft) rl S P).imp fun x H1 ⟨io2, hp2, a, e2, rl2, ra, P2⟩ => ?_
    subst ra
    cases a with
    | true => exact iteT ⟨io2, hp2, as, rl2, M.mono e2 S, P2⟩
    | false => exact iteF ⟨io2, hp2, as, rl2, M.mono e2 S, P2⟩
  refine isTrue_IfExp (thn (hc.run pins s σ H _ I hi) fun d s1 ⟨H1, I1, q1⟩ => ?_)
  cases d with
  | true => exact ha.run pins s1 σ H1 Q I1 q1
  | false => exact hb.run pins s1 σ H1 Q I1 q1
end
end Dn
namespace Dn
open PySem PySem.SeqAt
open AutoSeq1 (wpAny_loadPart')
open MeetsSeq MeetsSeq2 MeetsSeq3 SeqRoads2
section
variable {prog : Program} {w : World}
/-- lists of other lengths are not equal, whatever they hold -/
theorem list_neIn (l b : Addr) (items items2 : Array Value) (n n2 : Nat) (dd dd2 : Option Addr) (sl sl2 : Array (Option Value)) (hsz : (items.size != items2.size) = true) :
    MeetsIn prog w (Builtin.«list.__eq__» ⟨[.ref l, .ref b], []⟩)
      (fun A R s => s.heap.get? l = some { cls := .type "list", dict := dd, data := .seq items n, slots := sl } ∧ s.heap.get? b = some { cls := .type "list", dict := dd2, data := .seq items2 n2, slots := sl2 } ∧
        R (.ok (.ret (.bool false))) s) := by
  intro A R s h
  obtain ⟨hp, g, d, tk, os⟩ := s; obtain ⟨hl, hb, h⟩ := h
  have f3 := AutoSeq1.sub_list_list
  wp_walk using wpAny_loadPart' hl, wpAny_loadPart' hb
  exact h
theorem rcP_other {A : Around} {s : Shared} {l b : Addr} {items items2 : Array Value} (hl : s.heap.IsList l items) (hb : s.heap.IsList b items2) (hsz : items.size ≠ items2.size) (hu : A.units < cLine)
    (E Q : Value → Shared → Prop) (h : Q (.bool false) s) : wpAny (model prog w) A (richCompare .Eq (.ref l) (.ref b)) Q E s := by
  obtain ⟨⟨cls, dd, data, sl⟩, ho, hc, n, hd⟩ := id hl
  obtain ⟨⟨cls2, dd2, data2, sl2⟩, ho2, hc2, n2, hd2⟩ := id hb
  simp only at hc hd hc2 hd2
  subst hc hd hc2 hd2
  have ta : s.TypeIs (.ref l) "list" := ⟨_, ho, rfl⟩
  have tb : s.TypeIs (.ref b) "list" := ⟨_, ho2, rfl⟩
  exact wpAny_richCompare_same_room (op := .Eq) ta tb F.slot_list_eq (call_meetsIn F.slot_list_eq ta F.entry_list_eq (F.args_list_eq_2 _ _) (list_neIn l b items items2 n n2 dd dd2 sl sl2 (by simpa using hsz))
    ⟨ho, ho2, show Value.bool false ≠ Value.notImplemented ∧ Q (.bool false) s from ⟨(fun x => nomatch x), h⟩⟩) hu
end
end Dn
namespace Dn
open PySem PySem.Spec PyProof.Rows L2
def eitherD (r r' : D2) : D2 := fun a b h => match r a b h with
  | some q => some q
  | none => r' a b h
def lenNeA (a b : AV) (h : Hep) : Op AV := match lstAt h a, lstAt h b with
  | some (_, xs), some (_, ys) => if xs.length = ys.length then none else some (.bl false, h)
  | _, _ => none
/-- == of data, of lists of other lengths, of dicts -/
def eqUA : D2 := eitherD eqAV (eitherD lenNeA eqDA)
section
variable {W : Wd} {X : Cx}
theorem t2_or {op : CmpOp} {r r' : D2} (h1 : OpR X (compareOp op) (t2 W r)) (h2 : OpR X (compareOp op) (t2 W r')) : OpR X (compareOp op) (t2 W (eitherD r r')) := op_imp (OpR.or h1 h2) fun x y H Q ⟨io, hp, a, b, rl, ra, rb, P⟩ => by
  unfold eitherD at P
  cases z : r a b hp with
  | some q =>
    left
    refine ⟨io, hp, a, b, rl, ra, rb, ?_⟩
    rw [z] at P ⊢
    exact P
  | none =>
    right
    refine ⟨io, hp, a, b, rl, ra, rb, ?_⟩
    rw [z] at P
    exact P
theorem op_other (hu : X.A.units < cLine) : OpR X (compareOp .Eq) (fun x y H Q => ∃ a b xs ys, x = .ref a ∧ y = .ref b ∧ H a = some (.lst xs) ∧ H b = some (.lst ys) ∧ xs.length ≠ ys.length ∧ Q (.bl false) H) := by
  intro pins s σ H x y v u Q I rx ry h
  obtain ⟨a, b, xs, ys, rfl, rfl, ea, eb, ne, q⟩ := h
  obtain rfl : v = Value.ref a := rx
  obtain rfl : u = Value.ref b := ry
  obtain ⟨us, r1, p1, _⟩ := I.list (SqL.of ea)
  obtain ⟨ws, r2, p2, _⟩ := I.list (SqL.of eb)
  refine rcP_other p1.isList p2.isList ?_ hu _ _ ⟨.bl false, H, I, rfl, q⟩
  rw [List.size_toArray, List.size_toArray, ← r1.length, ← r2.length]
  exact ne
theorem oLen (hu : X.A.units < cLine) : OpR X (compareOp .Eq) (t2 W lenNeA) := op_imp (op_other hu) fun x y H Q ⟨io, hp, a, b, rl, ra, rb, P⟩ => by
  unfold lenNeA at P
  cases z1 : lstAt hp a with
  | none =>
    rw [z1] at P
    exact P.elim
  | some q1 =>
    cases z2 : lstAt hp b with
    | none =>
      rw [z1, z2] at P
      exact P.elim
    | some q2 =>
      obtain ⟨n1, xs⟩ := q1
      obtain ⟨n2, ys⟩ := q2
      rw [z1, z2] at P
      obtain ⟨p1, vs1, rfl, hi1, hu1, rv1⟩ := lstAt_in z1 rl ra
      obtain ⟨p2, vs2, rfl, hi2, hu2, rv2⟩ := lstAt_in z2 rl rb
      dsimp only at P
      by_cases c : xs.length = ys.length
      · rw [if_pos c] at P
        exact P.elim
      · rw [if_neg c] at P
        exact ⟨p1, p2, vs1, vs2, rfl, rfl, hu1, hu2, by rw [← rv1.len, ← rv2.len]; exact c, P.ok rl (.bl _)⟩
theorem oEqU (hK : X.K = W.K) (hu : X.A.units + 64 < cLine) (hd : OpR X (compareOp .Eq) (t2 W eqDA)) : OpR X (compareOp .Eq) (t2 W eqUA) := t2_or (oEq hK hu) (t2_or (oLen (by omega)) hd)
end
end Dn
namespace Dn
open PySem PySem.Spec PyProof.Rows L2
section
variable {prog : Program} {w : World} {A : Around} {E : Value → Shared → Prop} {s : Shared}
theorem draw_lst {it t : Addr} {items : Array Value} (hne : t ≠ it) : ∀ (n i : Nat) (s : Shared) (Q : List Value → Shared → Prop), s.heap.IsListIter it t i → s.heap.IsList t items → i + n ≤ items.size →
    (∀ h', h'.IsListIter it t (i + n) → Heap.SameBut it s.heap h' → Q ((items.toList.drop i).take n) { s with heap := h' }) → wpAny (model prog w) A (draw (.ref it) n) Q E s
  | 0, i, s, Q, hit, _, _, hQ => by
    show wpAny _ _ (pure []) Q E s
    exact wpAny_pure (by simpa using hQ s.heap hit (Heap.SameBut.refl ..))
  | n + 1, i, s, Q, hit, ht, hle, hQ => by
    have hlt : i < items.size := by omega
    show wpAny _ _ (pyNext (.ref it) >>= _) Q E s
    refine wpAny_bind (wpAny_pyNext_list_item hit ht (x := items[i]) (by simp [hlt]) fun h₁ hit₁ hs₁ => ?_)
    refine wpAny_bind (wpAny_holding (draw_lst hne n (i + 1) _ _ hit₁ (ht.extBut hs₁.extBut hne) (by omega) fun h₂ hit₂ hs₂ => wpAny_pure ?_))
    have hd : items.toList.drop i = items[i] :: items.toList.drop (i + 1) := by simp [List.drop_eq_getElem_cons, hlt]
    have := hQ h₂ (by rw [show i + (n + 1) = i + 1 + n by omega]; exact hit₂) (hs₁.trans hs₂)
    rw [hd, List.take_succ_cons] at this
    exact this
theorem unpack_lst {t : Addr} {items : Array Value} {Q : List Value → Shared → Prop} (hh : A.handled = none) (ht : s.heap.IsList t items)
    (hQ : ∀ h', Heap.ExtBut s.heap.objs.size s.heap h' → Q items.toList { s with heap := h' }) : wpAny (model prog w) A (unpackItems (.ref t) items.size none) Q E s := by
  have hlt : t ≠ s.heap.objs.size := by obtain ⟨o, ho, _⟩ := ht; exact Nat.ne_of_lt (Heap.lt_size ho)
  unfold unpackItems
  refine wpAny_bind ?_
  · unfold notIterableAtAll
    refine wpAny_bind (wpAny_specialOf ht.typeIs slot_list_iter.lookup ?_)
    refine wpAny_pure ?_
    simp only [Bool.false_eq_true, if_false]
    refine wpAny_bind (wpAny_holding (wpAny_pyIter_list ht ?_))
    refine wpAny_bind (wpAny_holding (draw_lst hlt items.size 0 _ _ ⟨_, Heap.get?_push_size _ rfl, rfl, rfl⟩ (ht.push _) (by omega) fun h₁ hit₁ hs₁ => ?_))
    have hall : List.take items.size (List.drop 0 items.toList) = items.toList := by
      rw [List.drop_zero]; exact List.take_of_length_le (by simp)
    rw [hall]
    rw [if_neg (by simp)]
    have ht₁ : h₁.IsList t items := (ht.push _).extBut hs₁.extBut hlt
    refine wpAny_bind (wpAny_holding (wpAny_pyNext_list_end hh hit₁ ht₁ (by simp) fun h₂ he₂ => ?_))
    simp only [Option.isSome_none, Bool.false_eq_true, if_false]
    refine wpAny_pure (hQ h₂ fun b o hb e => he₂ b o hb (hs₁.extBut b o hb (Heap.get?_push_of_some _ e)))
theorem assign_lst {env : Env} {elts : List Expr} {x1} {pos : Pos} {t : Addr} {items : Array Value} {Q : Unit → Shared → Prop} (hh : A.handled = none) (ht : s.heap.IsList t items)
    (hn : (assignEach elts env).length = items.size) (hstar : (assignEach elts env).findIdx? (·.1) = none)
    (h : ∀ h', Heap.ExtBut s.heap.objs.size s.heap h' → wpAny (model prog w) A (assignInOrder ((assignEach elts env).map (·.2)) items.toList) Q E { s with heap := h' }) :
    wpAny (model prog w) A (assign (.Tuple elts x1 pos) env (.ref t)) Q E s := by
  rw [assign_Tuple]
  refine wpAny_bind (wpAny_standAt ?_)
  unfold unpack
  rw [hn, hstar]
  exact wpAny_bind (wpAny_holding (unpack_lst hh ht h))
end
def gLst (K : PySem.W.Frag) (n : Nat) (t : L2.TGs) : L2.TG := fun v σ H Q => ∃ a xs, v = .ref a ∧ SqL K H a xs ∧ xs.length = n ∧ t xs σ H Q
section
variable {X : Cx} {pos : Pos}
theorem pg_lst {es : List Expr} {k : Nat} {t : L2.TGs} {n : Nat} (hc : X.calm = true) (h : PGs X es t)
    (hn : (assignEach es X.env).length = n := by rfl) (hst : (assignEach es X.env).findIdx? (·.1) = none := by rfl) : PG X (.Tuple es k pos) (gLst X.K n t) := by
  refine ⟨fun pins s σ H v u Q I r hw => ?_⟩
  obtain ⟨a, xs, e1, hq, hl, hw⟩ := hw
  subst e1
  cases r
  obtain ⟨its, rv, ht, hz⟩ := I.list hq
  refine assign_lst (I.ok.hd hc) ht.isList (by simp [hn, ← hl, rv.length]) hst fun h' hx => ?_
  have I1 : Inv X pins σ H { s with heap := h' } := I.kept (t' := s.toks) fun b o e => hx b o (Nat.ne_of_lt (Heap.lt_size e)) e
  exact h.run pins _ σ H xs _ Q I1 (by simpa using rv) hw
end
def hL (gs : DGHs) : DGH := fun v s h => match lstAt h v with
  | some (_, xs) => gs xs s h
  | none => .stuck
section
variable {W : Wd} {M : Md W} {E : WX} {X : Cx}
theorem tgL {es : List Expr} {kk : Nat} {gs : DGHs} {n : Nat} {pos : Pos} (hK : X.K = W.K) (hc : X.calm = true) (h : PGs X es (tHs W M gs)) (hl : ∀ xs s h, gs xs s h ≠ .stuck → xs.length = n) (hn : (assignEach es X.env).length = n := by rfl) (hst : (assignEach es X.env).findIdx? (·.1) = none := by rfl) :
    PG X (.Tuple es kk pos) (tH W M (hL gs)) := pgI (pg_lst hc h hn hst) fun v σ H Q ⟨io, hp, as, x, rl, S, r, k⟩ => by
  unfold hL at k
  cases z : lstAt hp x with
  | none =>
    simp only [z] at k
    exact k.elim
  | some q =>
    obtain ⟨m, xs⟩ := q
    simp only [z] at k
    obtain ⟨p, vs, ex, hi, hu, rv⟩ := lstAt_in z rl r
    refine ⟨p, vs, ex, SqL.of hu, ?_, io, hp, as, xs, rl, S, rv, k⟩
    rw [← rv.len]
    refine hl xs as hp fun z => ?_
    rw [z] at k
    exact k
theorem hL_two {gs : DGHs} (hgs : ∀ x s h, (∃ s' h', gs x s h = .nx s' h') ∨ gs x s h = .stuck) : ∀ x s h, (∃ s' h', hL gs x s h = .nx s' h') ∨ hL gs x s h = .stuck := fun x s h => by
  unfold hL
  cases lstAt h x with
  | none => exact .inr rfl
  | some q => exact hgs q.2 s h
end
def dLoopH (src : Src) (g : DGH) (body : DS) : Nat → Nat → Sl → Hep → SR
  | 0, _, _, _ => .stuck
  | k + 1, i, s, h => match src.next i h with
    | none => .stuck
    | some none => .nx s h
    | some (some x) => match g x s h with
      | .nx s1 h1 => (body s1 h1).loop fun s2 h2 => dLoopH src g body k (i + 1) s2 h2
      | _ => .stuck
def dForH (f : DI) (g : DGH) (body : DS) : DS := fun s h => (f s h).st s fun src h1 => dLoopH src g body (src.len h1 + 1) 0 s h1
section
variable {W : Wd} {M : Md W} {E : WX} {X : Cx} {tg iter : Expr} {body : List Stmt} {f : DI} {g : DGH} {fb : DS} {pos : Pos}
theorem sForH (hp : PassesOwn (model X.prog X.w) X.A X.env X.xe) (hc : X.calm = true) (hi : PI X tg iter (tG W M (RSrc W) E f)) (hg : PG X tg (tH W M g)) (hb : PSs X body (tS W M E fb))
    (hs : ∀ x, foldedSetIterable iter X.env x = pure x := by intro _; rfl) : PS X (.For tg iter body [] pos) (tS W M E (dForH f g fb)) :=
  psI (ps_for hp hc hi hg hb hs) fun D σ H ⟨io, hp, as, rl, S, P⟩ => by
    refine (stepS (rh := RSrc W) (f := f) rl S P).imp fun J H1 ⟨io1, hp1, src, e1, rl1, rs, P1⟩ => ?_
    refine ⟨fun i m σ2 H2 => ∃ io2 hp2 as2, Ext W io1 H1 io2 H2 ∧ Rl W io2 hp2 H2 ∧ M.rel io2 H2 as2 σ2 ∧ Pss W M E D io2 H2 (dLoopH src g fb m i as2 hp2), ⟨_, io1, hp1, as, Ext.refl, rl1, M.mono e1 S, P1⟩, ?_⟩
    rintro i m σ2 H2 ⟨io2, hp2, as2, e2, rl2, S2, P2⟩
    obtain ⟨hstop, hgo⟩ := rs io2 H2 hp2 e2 rl2
    cases m with
    | zero => exact P2.elim
    | succ m =>
      unfold dLoopH at P2
      cases z : src.next i hp2 with
      | none =>
        rw [z] at P2
        exact P2.elim
      | some o =>
        cases o with
        | none =>
          rw [z] at P2
          exact .inl ⟨hstop i z, P2 io2 H2 σ2 Ext.refl rl2 S2⟩
        | some x =>
          rw [z] at P2
          obtain ⟨go, hy⟩ := hgo i x z
          refine .inr ⟨go, fun σ3 H3 => ∃ io3 hp3 as3, Ext W io1 H1 io3 H3 ∧ Rl W io3 hp3 H3 ∧ M.rel io3 H3 as3 σ3 ∧ Pss W M E D io3 H3 (dLoopH src g fb m (i + 1) as3 hp3), fun σ' H' q => ⟨m, Nat.lt_succ_self m, q⟩, fun v H3 hyl => ?_⟩
          obtain ⟨e3, rl3, r3⟩ := hy v H3 hyl
          refine ⟨io2, hp2, as2, x, rl3, M.mono e3 S2, r3, ?_⟩
          have P3 := Pss.later P2 e3
          cases z2 : g x as2 hp2 with
          | nx s1 h1 =>
            simp only [z2] at P3
            intro io4 H4 σ' e4 rl4 S'
            refine ⟨io4, h1, s1, rl4, S', ?_⟩
            have P4 := Pss.later P3 e4
            cases z3 : fb s1 h1 with
            | nx s h =>
              rw [z3] at P4
              exact fun io' H' σ2 e r S2 => ⟨io', h, s, ((e2.trans e3).trans e4).trans e, r, S2, Pss.later P4 e⟩
            | ct s h =>
              rw [z3] at P4
              exact fun io' H' σ2 e r S2 => ⟨io', h, s, ((e2.trans e3).trans e4).trans e, r, S2, Pss.later P4 e⟩
            | bk s h =>
              rw [z3] at P4
              exact P4
            | rt v h =>
              rw [z3] at P4
              exact P4
            | exc t fs s h =>
              rw [z3] at P4
              exact P4
            | stuck =>
              rw [z3] at P4
              exact P4
          | _ =>
            simp only [z2] at P3
            exact P3.elim
end
end Dn
namespace Dn
open PySem PySem.Spec PyProof.Rows L2
def forgK (r : R AV) : R AV := match r with
  | .ok (.bl b) _ => .ok (.bl b) []
  | _ => .stuck
def dForget (F : DF) : DF := fun as h => match h, as with
  | [], [] => forgK (F [] [])
  | _, _ => .stuck
section
variable {P : Program} {w : World} {mg : Str → Option Value} {base : Heap} {W : Wd} {k n : Nat} {x : Str} {ps : List Str} {F : DF} {bs : Bs}
theorem forget_in {vs : List V} {H : Hp} {Q : VK} {E : XK} (h : spD W n (dForget F) vs H Q E) : spD W n F vs H Q E := by
  obtain ⟨io, hp, as, hl, rl, r, p⟩ := h
  refine ⟨io, hp, as, hl, rl, r, ?_⟩
  cases hp with
  | cons o t => exact p.elim
  | nil =>
    cases as with
    | cons o t => exact p.elim
    | nil =>
      have io0 : io = [] := List.length_eq_zero_iff.mp rl.len
      subst io0
      have p' : Pfn W E Q [] H (forgK (F [] [])) := p
      cases z : F [] [] with
      | stuck =>
        rw [z] at p'
        exact p'.elim
      | exc t fs h1 =>
        rw [z] at p'
        exact p'.elim
      | ok v h1 =>
        rw [z] at p'
        cases v with
        | bl b =>
          intro io' H' y e rl' ra
          obtain rfl := ra.bl_inv
          exact p' [] H' (.bl b) ⟨⟨[], rfl⟩, e.tup, e.rol, e.xd, e.frz, e.cod, e.tab⟩ ⟨rfl, List.nodup_nil, fun i a o hi _ => by simp at hi, rl'.tb⟩ (.bl b)
        | _ => exact p'.elim
theorem has_forget (H : Has P w mg base W k x ps n F bs) : Has P w mg base W k x ps n (dForget F) bs := by
  obtain ⟨a, fd, h1, h2, h3, h4⟩ := H
  exact ⟨a, fd, h1, h2, h3.imp fun vs H Q E => forget_in, h4⟩
end
/-- a run from the empty heap that ends with True -/
def trueB (r : R AV) : Bool := match r with
  | .ok (.bl true) _ => true
  | _ => false
theorem forg_true {F : DF} (h : trueB (F [] []) = true) : dForget F [] [] = .ok (.bl true) [] := by
  show forgK (F [] []) = _
  cases z : F [] [] with
  | ok v h1 =>
    rw [z] at h
    cases v with
    | bl b =>
      cases b with
      | true => rfl
      | false => cases h
    | _ => cases h
  | _ =>
    rw [z] at h
    cases h
end Dn
namespace Dn
open PySem PySem.Spec PyProof.Rows L2
def valB (r : Option PySem.W.CFound) (a : Addr) : Bool := match r with
  | some (.val (.ref g)) => decide (g = a)
  | _ => false
theorem valB_ok {r : Option PySem.W.CFound} {a : Addr} (h : valB r a = true) : r = some (.val (.ref a)) := by
  unfold valB at h
  split at h
  · rw [of_decide_eq_true h]
  · cases h
def clsatB (C m : Str) (p : Pth) (K : PySem.W.Frag) : Bool := PySem.W.readsIn K (He.ga K C) (.type "type") && (He.eqO (PySem.W.specialIn K (.ref (He.ga K C)) "__getattribute__") (some (some (.builtin "type.__getattribute__"))) && (valB (PySem.W.findCls K (.ref (He.ga K C)) (.type "type") m) (p K) && PySem.W.keepIn K (.ref (p K))))
theorem clsatB_ok {K : PySem.W.Frag} {C m : Str} {p : Pth} (h : clsatB C m p K = true) : ClsAt K (He.ga K C) m (p K) := by
  obtain ⟨h1, h⟩ := He.ba h
  obtain ⟨h2, h⟩ := He.ba h
  obtain ⟨h3, h4⟩ := He.ba h
  exact ⟨h1, He.eqO_ok h2, valB_ok h3, h4⟩
def HasA (P : Program) (w : World) (mg : Str → Option Value) (base : Heap) (W : Wd) (k t : Nat) (x : Str) (ps : List Str) (n : Nat) (F : DF) (bs : Bs) : Prop :=
  ∃ (a : Addr) (fd : FuncData), ClsAt W.K (W.cl t) x a ∧ FnOk P w W.K mg base (L2.CX P w) k a fd ps (spD W n F) ∧ ∀ b ∈ bs, BnD W fd ps b.1 b.2.1 b.2.2.1 b.2.2.2
section
variable {P : Program} {w : World} {mg : Str → Option Value} {base : Heap} {W : Wd} {k n t : Nat} {f : Addr} {fd : FuncData} {ps : List Str} {F : DF} {x : Str} {bs : Bs}
theorem FnB.clsat (B : FnB P w mg base W k f fd ps n F bs) (h : ClsAt W.K (W.cl t) x f) : HasA P w mg base W k t x ps n F bs := ⟨f, fd, h, B.2.1, B.2.2⟩
end
section
variable {W : Wd} {M : Md W} {E : WX} {X : Cx} {k j n m q t : Nat} {ps ks : List Str} {F : DF} {x c : Str} {p pos apos kpos : Pos} {e : Expr} {es : List Expr} {kws : List Keyword} {fa fk : DA} {ix : List Nat} {dfl : List AV} {bs : Bs}
theorem clsD {pl : Sem Bool} (H : HasA X.prog X.w X.mg X.base W j t x ps n F bs) (i : Nat) (hi : bs[i]? = some (m, ks, ix, dfl)) (hq : ks.length = q) (hr : Room k X.A) (hj : j ≤ k) (hK : X.K = W.K) (tk : Takes X E)
    (ho : PE X (.Name c p) (tD W M E (dC (.cls t)))) (ha : PA X (e :: es) (tDA W M E fa)) (hkw : PK X kws (tDA W M E fk)) (hall : (backToKw pos (keywordEach kws X.env)).all (·.1.isSome) = true := by rfl) (hks : (backToKw pos (keywordEach kws X.env)).filterMap (·.1) = ks := by rfl)
    (he : starEach (e :: es) X.env = (false, eval e X.env) :: starEach es X.env := by rfl)
    (hpl : ((backTo pos (starEach (e :: es) X.env)).any (·.1) || (backToKw pos (keywordEach kws X.env)).any (·.1.isNone)) = false := by rfl)
    (ht : eval (.Call (.Attribute (.Name c p) x apos) (e :: es) kws pos) X.env = (do
      let ov ← eval (.Name c p) X.env
      standAt apos.atName
      let (f, first) ← holding [ov] (getMethod ov x pl)
      callWith pos f first (backTo pos (starEach (e :: es) X.env)) (backToKw pos (keywordEach kws X.env))) := by rfl) :
    PE X (.Call (.Attribute (.Name c p) x apos) (e :: es) kws pos) (tD W M E (dCallC F m q n ix dfl fa fk)) := by
  subst hq
  obtain ⟨a, fd, hc, hF, hb⟩ := H
  obtain ⟨g, gV, kb, hg2⟩ := hb _ (List.mem_of_getElem? hi)
  dsimp only at kb
  rw [← hK] at kb hc hF
  refine ⟨fun pins s σ H Q I h => ?_⟩
  have h1 : tD W M E (dC (.cls t)) σ H fun v H1 => v = .ref (W.cl t) ∧ tD W M E (dCallC F m ks.length n ix dfl fa fk) σ H1 Q := by
    obtain ⟨io, hp, as, rl, S, P⟩ := h
    refine ⟨io, hp, as, rl, S, fun io' H' v e' rl' rv => ?_⟩
    have ev : v = .ref (W.cl t) := by
      cases rv
      rfl
    exact ⟨ev, io', hp, as, rl', M.mono e' S, Pst.later P e'⟩
  refine PySem.W.methodCall_KW (pl := pl) (thn (ho.run pins s σ H _ I h1) fun u s1 ⟨v, H1, I1, rx, ev, q1⟩ => ?_) ht
  subst ev
  obtain rfl : u = Value.ref (W.cl t) := rx
  refine PySem.W.method_cls I1.kIn hc.ga (PySem.W.cls_value I1.kIn hc.rd hc.at_ rfl ?_)
  have I2 : Inv X pins σ H1 { s1 with toks := s1.toks + 1 } := I1.tok _
  refine PySem.W.callWith_KW (first := []) (h₀ := X.base) I.ok.mod.kin hc.kp hall (thn (ha.run pos pins _ σ H1 _ I2 (args_in q1)) fun us s2 ⟨vs2, H2, I3, r, q2⟩ => ?_) hpl he
  refine thn (hkw.run pos pins s2 σ H2 _ I3 q2) fun ws s3 ⟨zs, H3, I4, rz, l1, l2, q3⟩ => ⟨I4.kIn, ?_⟩
  rw [hks]
  exact run_gen hF (hr.mono hj) kb tk I4 r rz l1 l2 (q3 gV hg2)
end
end Dn
namespace Dn
open PySem PySem.Spec PyProof.Rows L2
def obsLG (as : List Addr) (fa : List He.Fa) (fn : List DefF) (xt : List (PySem.W.Frag → Bool)) (g : Addr → Option Obj) : AlF := obsF fa fn xt (He.frG g as)
def hookL (as : List Addr) (fa : List He.Fa) (fn : List DefF) (xt : List (PySem.W.Frag → Bool)) : PySem.W.Hook where
  α := AlF
  obs := fun s => obsLG as fa fn xt s.heap.get?
  val := fun _ => valF fn
  says := fun _ h => ∃ K : PySem.W.Frag, K.In h ∧ SaysF fa fn xt K
  of := fun _ _ e => ⟨_, He.frG_in, e⟩
  keeps := fun _ _ _ ⟨K, hK, c⟩ k => ⟨K, PySem.W.Frag.In.keeps hK k, c⟩
theorem obsLG_eq {as : List Addr} {fa : List He.Fa} {fn : List DefF} {xt : List (PySem.W.Frag → Bool)} {g : Addr → Option Obj} {s : Shared} (h : ∀ a, g a = s.heap.get? a) : obsLG as fa fn xt g = (hookL as fa fn xt).obs s := by
  have e : g = s.heap.get? := funext h
  rw [e] <;> rfl
end Dn
namespace Dn
open PySem PySem.Spec PyProof.Rows L2
def isLD : PyData → Bool
  | .list _ => true
  | _ => false
def cmpD (f : PyData → PyData → Bool) (a b : AV) (h : Hep) : Option Bool := match toD DD h a, toD DD h b with
  | some d, some e => if PySem.W.alike d e = true ∧ isLD d = true ∧ d.depth ≤ 50 then some (f d e) else none
  | _, _ => none
def ltDA : D2 := fun a b h => (cmpD (fun d e => PySem.W.dataLt d e) a b h).map fun c => (.bl c, h)
def leDA : D2 := fun a b h => (cmpD (fun d e => !PySem.W.dataLt e d) a b h).map fun c => (.bl c, h)
section
variable {W : Wd} {X : Cx}
theorem cmpD_in {f : PyData → PyData → Bool} {io : List Addr} {H : Hp} {hp : Hep} {a b : AV} {x y : V} {c : Bool} (e : cmpD f a b hp = some c) (R : Rl W io hp H) (ra : RV W io H a x) (rb : RV W io H b y) :
    ∃ d g, Dp W.K H x d ∧ Dp W.K H y g ∧ PySem.W.alike d g = true ∧ d ≠ .none ∧ d.depth ≤ 50 ∧ c = f d g := by
  unfold cmpD at e
  cases z1 : toD DD hp a with
  | none =>
    rw [z1] at e
    cases e
  | some d =>
    cases z2 : toD DD hp b with
    | none =>
      rw [z1, z2] at e
      cases e
    | some g =>
      rw [z1, z2] at e
      have e' : (if PySem.W.alike d g = true ∧ isLD d = true ∧ d.depth ≤ 50 then some (f d g) else none) = some c := e
      by_cases h : PySem.W.alike d g = true ∧ isLD d = true ∧ d.depth ≤ 50
      · rw [if_pos h] at e'
        cases e'
        exact ⟨d, g, toD_in R DD a x d z1 ra, toD_in R DD b y g z2 rb, h.1, (fun q => by rw [q] at h; exact absurd h.2.1 (by decide)), h.2.2, rfl⟩
      · rw [if_neg h] at e'
        cases e'
theorem op_ltD (hu : X.A.units + 64 < cLine) : OpR X (compareOp .Lt) (fun x y H Q => ∃ d e, Dp X.K H x d ∧ Dp X.K H y e ∧ PySem.W.alike d e = true ∧ d ≠ .none ∧ d.depth ≤ 50 ∧ Q (.bl (PySem.W.dataLt d e)) H) := by
  intro pins s σ H x y v u Q I rx ry h
  obtain ⟨d, e, hd, he, al, hn, hdp, q⟩ := h
  obtain ⟨as, r1⟩ := Dp.reads I d x v hd rx
  obtain ⟨bs, r2⟩ := Dp.reads I e y u he ry
  exact PySem.W.rcLt_alike d e _ _ _ _ as bs r1 r2 al hn (by omega) _ _ _ _ ⟨.bl _, H, I, rfl, q⟩
theorem op_leD (hu : X.A.units + 64 < cLine) : OpR X (compareOp .LtE) (fun x y H Q => ∃ d e, Dp X.K H x d ∧ Dp X.K H y e ∧ PySem.W.alike d e = true ∧ d ≠ .none ∧ d.depth ≤ 50 ∧ Q (.bl (!PySem.W.dataLt e d)) H) := by
  intro pins s σ H x y v u Q I rx ry h
  obtain ⟨d, e, hd, he, al, hn, hdp, q⟩ := h
  obtain ⟨as, r1⟩ := Dp.reads I d x v hd rx
  obtain ⟨bs, r2⟩ := Dp.reads I e y u he ry
  exact PySem.W.rcLe_alike d e _ _ _ _ as bs r1 r2 al hn (by omega) _ _ _ _ ⟨.bl _, H, I, rfl, q⟩
theorem oLtD (hK : X.K = W.K) (hu : X.A.units + 64 < cLine) : OpR X (compareOp .Lt) (t2 W ltDA) := op_imp (op_ltD hu) fun x y H Q ⟨io, hp, a, b, rl, ra, rb, P⟩ => by
  rw [hK]
  unfold ltDA at P
  cases z : cmpD (fun d e => PySem.W.dataLt d e) a b hp with
  | none =>
    rw [z] at P
    exact P.elim
  | some c =>
    rw [z] at P
    obtain ⟨d, f, h1, h2, h3, h4, h5, rfl⟩ := cmpD_in z rl ra rb
    exact ⟨d, f, h1, h2, h3, h4, h5, Pop.ok P rl (.bl _)⟩
theorem oLeD (hK : X.K = W.K) (hu : X.A.units + 64 < cLine) : OpR X (compareOp .LtE) (t2 W leDA) := op_imp (op_leD hu) fun x y H Q ⟨io, hp, a, b, rl, ra, rb, P⟩ => by
  rw [hK]
  unfold leDA at P
  cases z : cmpD (fun d e => !PySem.W.dataLt e d) a b hp with
  | none =>
    rw [z] at P
    exact P.elim
  | some c =>
    rw [z] at P
    obtain ⟨d, f, h1, h2, h3, h4, h5, rfl⟩ := cmpD_in z rl ra rb
    exact ⟨d, f, h1, h2, h3, h4, h5, Pop.ok P rl (.bl _)⟩
end
end Dn
namespace Dn
open PySem PySem.Spec PyProof.Rows L2
section
variable {prog : Program} {w : World} {A : Around} {E : Value → Shared → Prop} {s : Shared} {K : PySem.W.Frag} {x y C C2 : Addr} {ox oy : Obj} {od od2 : Option Obj}
theorem rich_under {op : CmpOp} {Q : Value → Shared → Prop} (hu : A.units < cLine) (X : K.In s.heap) (I : PySem.W.InstAt s.heap x ox C od) (J : PySem.W.InstAt s.heap y oy C2 od2) (hne : C ≠ C2) (hs : PySem.W.subIn K (.ref C2) (.ref C) = some true)
    (two : wpAny (model prog w) A (tryCompare (.ref y) (cmpInfo op).2.2 (.ref x)) (fun r s' => ∃ v, r = some v ∧ Q v s') E s) : wpAny (model prog w) A (richCompare op (.ref x) (.ref y)) Q E s := by
  unfold richCompare
  simp only [oneThing_ref]
  refine wpAny_holding (wpAny_bind (wpAny_cRoomFor hu ?_))
  refine wpAny_bind (I.type.here (wpAny_bind (J.type.here ?_)))
  split
  · refine wpAny_bind ((PySem.W.looks_subIn X hs).here ?_)
    simp only [if_true]
    refine wpAny_bind (wpAny_mono two (fun r s' z => ?_) fun _ _ e => e)
    obtain ⟨v, rfl, hq⟩ := z
    exact wpAny_bind (wpAny_rule (wpAny_pure hq))
  · rename_i q
    exfalso
    refine q ?_
    simp [hne]
end
section
variable {W : Wd} {M : Md W} {E : WX} {X : Cx} {k j n q t : Nat} {ps : List Str} {F : DF} {ct : CT}
def subOK (ct : CT) (q t : Nat) (F : DF) : DX := fun a b h => if isT h q a = true ∧ isT h t b = true ∧ ct.sub t q = true ∧ ct.sub q t = false then F [b, a] h else .stuck
theorem rich_sub {op : CmpOp} {m : Str} (hop : ∀ a b, compareOp op a b = richCompare op a b) (hm : (cmpInfo op).2.2 = m) (H : HasO X.prog X.w X.mg X.base W j t m ps 2 F) (hr : Room k X.A) (hj : j ≤ k) (hK : X.K = W.K) (hW : W.ct = ct) (tk : Takes X E) : OpX X W E (compareOp op) (subOK ct q t F) := by
  subst hW
  subst hm
  obtain ⟨a0, fd, hm', hfi, hF, hbn⟩ := H
  rw [← hK] at hm' hF
  intro pins s2 σ H2 io2 hp2 a1 a2 xv yv v u Q I2 rx ry rl2 ra1' ra2 P2
  by_cases hc : isT hp2 q a1 = true ∧ isT hp2 t a2 = true ∧ W.ct.sub t q = true ∧ W.ct.sub q t = false
  · unfold subOK at P2
    rw [if_pos hc] at P2
    obtain ⟨q1, dx, vs, rfl, ea, hk⟩ := isT_in hc.1 rl2 ra1'
    obtain rfl : v = Value.ref q1 := rx
    obtain ⟨od, J⟩ := inst_of I2 ea
    obtain ⟨q2, dx2, vs2, rfl, ea2, hk2⟩ := isT_in hc.2.1 rl2 ra2
    obtain rfl : u = Value.ref q2 := ry
    obtain ⟨od2, J2⟩ := inst_of I2 ea2
    have two : wpAny (model X.prog X.w) X.A (tryCompare (.ref q2) (cmpInfo op).2.2 (.ref q1)) (fun r s' => ∃ v, r = some v ∧ EP X pins σ Q v s') X.xe s2 :=
      try_own I2.kIn J2 hm'.at_ hm'.fn (wpAny_mono (run_sp hF (hr.mono hj) I2.env0 hbn hK tk I2 (vs := [.ref q2, .ref q1]) (.cons rfl (.cons rfl .nil)) rl2 (.cons ra2 (.cons ra1' .nil)) rfl rfl P2) (fun w s2 hq => by
        obtain ⟨y, H3, I3, r3, q3⟩ := hq
        exact relV_ni r3 ⟨y, H3, I3, r3, q3⟩) fun _ _ z => z)
    have s1 := W.css t q hk2 hk
    have s2' := W.css q t hk hk2
    rw [hc.2.2.1] at s1
    rw [hc.2.2.2] at s2'
    rw [hop]
    refine rich_under (by have := hr.un; omega) I2.kIn J J2 (fun z => ?_) (by rw [hK]; exact s1) two
    rw [z] at s2'
    rw [z, s2'] at s1
    cases s1
  · unfold subOK at P2
    rw [if_neg hc] at P2
    exact P2.elim
def isBlAV : D2 := fun a b h => match a, b with
  | .bl x, .bl y => some (.bl (x == y), h)
  | _, _ => none
theorem op_isBl : OpR X (compareOp .Is) (fun x y H Q => ∃ m n, x = .bl m ∧ y = .bl n ∧ Q (.bl (m == n)) H) := by
  intro pins s σ H x y v u Q I rx ry h
  obtain ⟨m, n, rfl, rfl, q⟩ := h
  cases (show v = Value.bool m from rx)
  cases (show u = Value.bool n from ry)
  by_cases e : m = n
  · subst e
    exact wpAny_is_self rfl ⟨.bl true, H, I, rfl, by simpa using q⟩
  · refine wpAny_is_other rfl (fun z => e (Value.bool.inj z)) ⟨.bl false, H, I, rfl, ?_⟩
    have : (m == n) = false := by simpa using e
    rw [this] at q
    exact q
theorem oIsBl : OpR X (compareOp .Is) (t2 W isBlAV) := op_imp op_isBl fun x y H Q ⟨io, hp, a, b, rl, ra, rb, P⟩ => by
  cases a with
  | bl m =>
    cases b with
    | bl n =>
      cases ra
      cases rb
      exact ⟨m, n, rfl, rfl, Pop.ok P rl (.bl _)⟩
    | _ => exact P.elim
  | _ => exact P.elim
end
theorem cx_new {P : Program} {w : World} : CXNew (L2.CX P w) := fun outer s H h2 p rest E e s' kp hp hn h => by
  obtain ⟨a, B, H', cls, d, h1, h2', h3, u, h5, h6, h7, h8⟩ := h
  have ne : ∀ b o, s.heap.get? b = some o → b ≠ p := fun b o q z => by
    exact absurd (Nat.lt_of_lt_of_le (Heap.lt_size q) hp) (by rw [z]; exact Nat.lt_irrefl _)
  have ne2 : ∀ b o, H b = some o → b ≠ p := fun b o q z => by
    rw [z, hn] at q
    cases q
  refine ⟨a, B, H', cls, d, h1, h2', h3, ⟨fun b o q n hb => u.keep b o (kp b o q) (by rw [upd_ne (ne b o q)]; exact n) hb, fun b o q hb => u.slot b o (kp b o q) hb, fun b o q n => u.free b o (kp b o q) (by rw [upd_ne (ne b o q)]; exact n),
    fun b o q hb => u.there b o (kp b o q) hb, fun b xs q => u.tups b xs (by rw [upd_ne (ne2 b _ q)]; exact q), fun b o xs q => u.frzs b o xs (by rw [upd_ne (ne2 b _ q)]; exact q), fun b ps q => u.tbls b ps (by rw [upd_ne (ne2 b _ q)]; exact q)⟩, h5, h6, h7, h8⟩
theorem bindV8 {fd : FuncData} {pa pv : Str} (h0 : ∀ u, bindArgs fd ⟨[u], []⟩ = (newTuple [] >>= fun t => pure [(pa, u), (pv, t)])) (h1 : ∀ u a, bindArgs fd ⟨[u, a], []⟩ = (newTuple [a] >>= fun t => pure [(pa, u), (pv, t)])) (h2 : ∀ u a b, bindArgs fd ⟨[u, a, b], []⟩ = (newTuple [a, b] >>= fun t => pure [(pa, u), (pv, t)])) (h3 : ∀ u a b c, bindArgs fd ⟨[u, a, b, c], []⟩ = (newTuple [a, b, c] >>= fun t => pure [(pa, u), (pv, t)])) (h4 : ∀ u a b c d, bindArgs fd ⟨[u, a, b, c, d], []⟩ = (newTuple [a, b, c, d] >>= fun t => pure [(pa, u), (pv, t)])) (h5 : ∀ u a b c d e, bindArgs fd ⟨[u, a, b, c, d, e], []⟩ = (newTuple [a, b, c, d, e] >>= fun t => pure [(pa, u), (pv, t)])) (h6 : ∀ u a b c d e f, bindArgs fd ⟨[u, a, b, c, d, e, f], []⟩ = (newTuple [a, b, c, d, e, f] >>= fun t => pure [(pa, u), (pv, t)])) (h7 : ∀ u a b c d e f g, bindArgs fd ⟨[u, a, b, c, d, e, f, g], []⟩ = (newTuple [a, b, c, d, e, f, g] >>= fun t => pure [(pa, u), (pv, t)])) (h8 : ∀ u a b c d e f g h, bindArgs fd ⟨[u, a, b, c, d, e, f, g, h], []⟩ = (newTuple [a, b, c, d, e, f, g, h] >>= fun t => pure [(pa, u), (pv, t)])) :
    ∀ (u : Value) (rest : List Value), rest.length ≤ 8 → bindArgs fd ⟨u :: rest, []⟩ = (newTuple rest >>= fun t => pure [(pa, u), (pv, t)])
  | u, [], _ => h0 u
  | u, [a], _ => h1 u a
  | u, [a, b], _ => h2 u a b
  | u, [a, b, c], _ => h3 u a b c
  | u, [a, b, c, d], _ => h4 u a b c d
  | u, [a, b, c, d, e], _ => h5 u a b c d e
  | u, [a, b, c, d, e, f], _ => h6 u a b c d e f
  | u, [a, b, c, d, e, f, g], _ => h7 u a b c d e f g
  | u, [a, b, c, d, e, f, g, h], _ => h8 u a b c d e f g h
  | _, _ :: _ :: _ :: _ :: _ :: _ :: _ :: _ :: _ :: r, h => absurd h (by simp only [List.length_cons]; omega)
def spV (W : Wd) (m : Nat) (f : DF) : Sp := fun vs H Q E => ∃ io hp a as, as.length ≤ m ∧ Rl W io hp H ∧ RVs W io H (a :: as) vs ∧ Pfn W E Q io H (f [a, .tup as] hp)
section
variable {P : Program} {w : World} {mg : Str → Option Value} {base : Heap} {W : Wd} {x qual : Str} {params : Arguments} {body : List Stmt} {scope : Scope} {f : Addr} {fd : FuncData}
/-- a def with one parameter and a star parameter -/
def FnV (P : Program) (w : World) (mg : Str → Option Value) (base : Heap) (W : Wd) (k : Nat) (f : Addr) (F : DF) : Prop := FnR P w W.K mg base (L2.CX P w) k f (spV W 8 F)
theorem fnV {N : List Str} {k : Nat} {pa pv : Str} {b : DS} (F : FunD W.K x qual params body scope [] [] f fd) (S : FnScope N [pa, pv] scope)
    (hbi : ∀ (kV doc pm : Value) (an : Option Addr) (cdv ct : Value) (u : Value) (rest : List Value), rest.length ≤ 8 → bindArgs (PySem.W.fnOf x qual params body scope .none kV doc pm an cdv ct) ⟨u :: rest, []⟩ = (newTuple rest >>= fun t => pure [(pa, u), (pv, t)]))
    (hb : ∀ (cdv : Value) (A : Around) (outer : List Env) (s : Shared) (H : Hp) (E : XK), Room k (A.deeper (envOfC qual scope s.heap.objs.size f cdv)) → Takes (cxD W P w mg base N qual scope f cdv A outer s H E) (wxE E) →
      PSs (cxD W P w mg base N qual scope f cdv A outer s H E) body (tS W (std W) (wxE E) b)) : FnV P w mg base W (k + 1) f (dFun N.length b) := by
  obtain ⟨oc, od, dV, kV, doc, pm, an, cdv, ct, osl, rfl, lk, hcd, hD, hK⟩ := F.ex
  rcases hD with ⟨_, rfl⟩ | ⟨e, _⟩
  · refine FnR.imp (fn_ofV (sp := spD W 2 (dFun N.length b)) lk hcd S (by decide) (fun u rest h => hbi kV doc pm an cdv ct u rest h) cx_new fun A outer s H vs Q E hr h => ⟨_, hb cdv A outer s H E hr (takes_of rfl rfl rfl rfl), ?_⟩) fun vs H Q E h => ?_
    · obtain ⟨io, hp, as, hl, rl, r, P⟩ := h
      refine ⟨io, hp, dStart N.length as, rl, start_rel r rfl, ?_⟩
      unfold dFun at P
      cases e : b (dStart N.length as) hp with
      | nx s h =>
        rw [e] at P
        exact fun io' H' σ' e' rl' _ => P io' H' .non e' rl' .non
      | rt s h =>
        rw [e] at P
        exact P
      | bk s h =>
        rw [e] at P
        exact P.elim
      | ct s h =>
        rw [e] at P
        exact P.elim
      | exc t fs s h =>
        rw [e] at P
        exact fun io' H' σ' cls d e' rl' _ rx => P io' H' cls d e' rl' rx
      | stuck =>
        rw [e] at P
        exact P
    · obtain ⟨io, hp, a, as, hl, rl, r, P⟩ := h
      cases r with
      | cons r1 r2 =>
        rename_i v rest
        refine ⟨v, rest, rfl, by rw [← r2.len]; exact hl, fun p hp' => ?_⟩
        have eA : Ext W io H io (upd H p (.tup rest)) := Ext.new0 hp'
        have e1 : upd H p (.tup rest) p = some (.tup rest) := upd_same
        exact ⟨io, hp, [a, .tup as], rfl, rl.other hp', .cons (r1.mono eA) (.cons (.tup (SqT.of e1) (r2.mono eA)) .nil), P.later eA⟩
  · exact absurd rfl e
end
section
variable {W : Wd} {M : Md W} {E : WX} {X : Cx} {k j n m t : Nat} {ks : List Str} {F : DF} {x : Str} {p pos : Pos} {e : Expr} {es : List Expr} {fa : DA} {f : Addr}
def dMakeV (t : Nat) (F : DF) (m : Nat) (fa : DA) : DE := fun s h => (fa s h).bind fun a h1 =>
  if a.length = m ∧ m ≤ 8 then (F [.ref h1.length, .tup a] (h1 ++ [.ins t []])).bind fun v h2 => match v with
    | .non => .ok (.ref h1.length) h2
    | _ => .stuck
  else .stuck
def HasV (P : Program) (w : World) (mg : Str → Option Value) (base : Heap) (W : Wd) (k : Nat) (t : Nat) (x : Str) (F : DF) : Prop :=
  ∃ (a : Addr), Mk W.K (W.cl t) a ∧ mg x = some (.ref (W.cl t)) ∧ W.ct.kit t = true ∧ FnV P w mg base W k a F
theorem mkargsV_in {C : Addr} (hk : W.ct.kit t = true) (hC : W.cl t = C) {σ : L2.St} {H : Hp} {Q : VK} (h : tD W M E (dMakeV t F m fa) σ H Q) :
    tDA W M E fa σ H fun vs H1 => ∀ x dx, H1 x = none → H1 dx = none → dx ≠ x → spV W 8 F (.ref x :: vs) (upd (upd H1 dx (.own x)) x (.ins C dx [])) (fun v H3 => v = .non ∧ Q (.ref x) H3) (WE E σ) := by
  subst hC
  obtain ⟨io, hp, as, rl, S, P⟩ := h
  refine (step (rh := RVs W) (f := fa) rl S P).imp fun vs H4 ⟨io5, hp5, a, e5, rl5, ra, P5⟩ => ?_
  by_cases hc : a.length = m ∧ m ≤ 8
  · rw [if_pos hc] at P5
    intro x dx hx hdx hne
    have rlA : Rl W io5 hp5 (upd H4 dx (.own x)) := rl5.other hdx
    have eA : Ext W io5 H4 io5 (upd H4 dx (.own x)) := Ext.new0 hdx
    have hx' : upd H4 dx (.own x) x = none := by
      rw [upd_ne (Ne.symm hne)]
      exact hx
    have eB : Ext W io5 (upd H4 dx (.own x)) (io5 ++ [x]) (upd (upd H4 dx (.own x)) x (.ins (W.cl t) dx [])) := Ext.new io5 _ hx' [x]
    have rlB : Rl W (io5 ++ [x]) (hp5 ++ [.ins t []]) (upd (upd H4 dx (.own x)) x (.ins (W.cl t) dx [])) := rlA.new hx' (.ins hk .nil)
    have eC := eA.trans eB
    refine ⟨io5 ++ [x], hp5 ++ [.ins t []], .ref hp5.length, a, by omega, rlB, .cons (.ref ?_) (ra.mono eC), ?_⟩
    · rw [← rl5.len]
      simp
    · have P6 := Pst.later P5 eC
      cases z : F [.ref hp5.length, .tup a] (hp5 ++ [.ins t []]) with
      | ok v h3 =>
        rw [z] at P6
        cases v with
        | non =>
          intro io' H' y e' rl' ry
          refine ⟨ry.non_inv, P6 io' H' (.ref x) e' rl' (.ref (e'.at ?_))⟩
          rw [← rl5.len]
          simp
        | _ => exact P6.elim
      | exc t' fs h3 =>
        rw [z] at P6
        exact P6
      | stuck =>
        rw [z] at P6
        exact P6
  · rw [if_neg hc] at P5
    exact P5.elim
theorem run_mkV {C : Addr} {pins : List (Addr × Obj)} {σ : L2.St} {H : Hp} {s : Shared} {Q : VK} {us : List Value} {vs : List V} (N : Mk X.K C f) (hK : X.K = W.K) (hF : FnV X.prog X.w X.mg X.base W j f F) (hr : Room (j + 1) X.A) (tk : Takes X E)
    (I : Inv X pins σ H s) (r : Vals vs us)
    (h : ∀ x dx, H x = none → H dx = none → dx ≠ x → spV W 8 F (.ref x :: vs) (upd (upd H dx (.own x)) x (.ins C dx [])) (fun v H2 => v = .non ∧ Q (.ref x) H2) (WE E σ)) :
    wpAny (model X.prog X.w) X.A (call (.ref C) us []) (EP X pins σ Q) X.xe s := by
  unfold FnV at hF
  rw [← hK] at hF
  have hq := h (s.heap.objs.size + 1) s.heap.objs.size (I.hok.fresh (Nat.le_succ _)) (I.hok.fresh (Nat.le_refl _)) (Nat.ne_of_lt (Nat.lt_succ_self _))
  have I2 := Inv.made (C := C) I
  have r1 : Vals (V.ref (s.heap.objs.size + 1) :: vs) (Value.ref (s.heap.objs.size + 1) :: us) := .cons rfl r
  refine wpAny_call (make_map (f := f) I.kIn N.makes N.init (beq_iff_eq.mp N.fn) (codeAny_mono (hF _ X.stack _ _ (Value.ref (s.heap.objs.size + 1) :: us) _ _ (WE E σ) (hr.make C us [])
    (I2.env0.make C us []) r1 hq) fun r s' hq' => ?_))
  cases r with
  | error e => exact passAt tk σ pins _ _ e s' I2 hq'
  | ok fl =>
    cases fl with
    | ret u =>
      obtain ⟨v, H', I3, rv, ev, q3⟩ := I2.after hq'
      subst ev
      exact ⟨rv, ⟨V.ref (s.heap.objs.size + 1), H', I3, rfl, q3⟩⟩
    | next => exact False.elim hq'
    | brk => exact False.elim hq'
    | cont => exact False.elim hq'
theorem makeV (H : HasV X.prog X.w X.mg X.base W j t x F) (hr : Room k X.A) (hj : j + 1 ≤ k) (hK : X.K = W.K) (tk : Takes X E)
    (ha : PA X (e :: es) (tDA W M E fa)) (hg : Gl X x := by rfl) (hall : (backToKw pos (keywordEach [] X.env)).all (·.1.isSome) = true := by rfl) (hks : (backToKw pos (keywordEach [] X.env)).filterMap (·.1) = [] := by rfl)
    (hdb : (x == ("__debug__" : Str)) = false := by decide) (he : starEach (e :: es) X.env = (false, eval e X.env) :: starEach es X.env := by rfl)
    (hpl : ((backTo pos (starEach (e :: es) X.env)).any (·.1) || (backToKw pos (keywordEach [] X.env)).any (·.1.isNone)) = false := by rfl) :
    PE X (.Call (.Name x p) (e :: es) [] pos) (tD W M E (dMakeV t F m fa)) := by
  obtain ⟨a, h1, h2, h3, h4⟩ := H
  rw [← hK] at h1
  refine ⟨fun pins s σ H Q I h => ?_⟩
  refine wpAny_Call_Name_kw (ld_glob I hg h2 ?_ hdb)
  refine PySem.W.callWith_KW (h₀ := X.base) I.ok.mod.kin h1.kp hall (thn (ha.run pos pins s σ H _ I (mkargsV_in h3 rfl h)) fun us s1 ⟨vs, H1, I1, r, q⟩ => ?_) hpl he
  refine thn (pk_nil.run pos pins s1 σ H1 (fun zs H2 => zs = [] ∧ H2 = H1) I1 ⟨rfl, rfl⟩) fun ws s2 ⟨zs, H2, I2, rz, l1, l2⟩ => ⟨I2.kIn, ?_⟩
  subst l1 l2
  cases rz
  rw [hks]
  exact run_mkV h1 hK h4 (hr.mono hj) tk I2 r q
end
end Dn
namespace Dn
open PySem PySem.Spec PyProof.Rows L2
section
variable {W : Wd} {M : Md W} {E : WX} {X : Cx} {o e f : Expr} {fo fk fx : DE} {pos apos cpos : Pos}
theorem sd_in {σ : L2.St} {H : Hp} {Q : VK} (h : tD W M E (dSetd fo fk fx) σ H Q) : tDSetd (tD W M E fo) (tD W M E fk) (tD W M E fx) σ H Q := by
  obtain ⟨io, hp, as, rl, S, P⟩ := h
  refine (step (rh := RV W) (f := fo) rl S P).imp fun x H1 ⟨io2, hp2, a, e2, rl2, ra, P2⟩ => ?_
  cases z : dicAt hp2 a with
  | none =>
    simp only [z] at P2
    exact P2.elim
  | some q =>
    obtain ⟨n, kvs⟩ := q
    simp only [z] at P2
    obtain ⟨p, vs, rfl, rfl, hi, hk, hd, rk⟩ := dicAt_in z rl2 ra
    refine ⟨p, rfl, .inl ⟨vs, .inl hd⟩, (step (rh := RV W) (f := fk) rl2 (M.mono e2 S) P2).imp fun y H3 ⟨io3, hp3, b, e3, rl3, rb, P3⟩ => ?_⟩
    refine (step (rh := RV W) (f := fx) rl3 (M.mono e3 (M.mono e2 S)) P3).imp fun w H4 ⟨io4, hp4, c, e4, rl4, rc, P4⟩ => ?_
    cases z4 : dicAt hp4 (.ref n) with
    | none =>
      rw [z4] at P4
      exact P4.elim
    | some q4 =>
      obtain ⟨n4, kvs4⟩ := q4
      rw [z4] at P4
      cases kb : keyOf b with
      | none =>
        rw [kb] at P4
        exact P4.elim
      | some k =>
        rw [kb] at P4
        obtain ⟨p4, vs4, ep, en, hi4, hk4, hd4, rk4⟩ := dicAt_in z4 rl4 (.ref (e4.at (e3.at hi)))
        cases ep
        cases en
        have rg := rk4.get k
        have rb' := rb.mono e4
        have P5 : Pst W (RV W) E σ Q io4 H4 (if kvs4.length < SZ then (match dget kvs4 k with
          | some v => .ok v hp4
          | none => .ok c (hp4.set n (.dK (dput kvs4 k c)))) else .stuck) := P4
        by_cases hz : kvs4.length < SZ
        · rw [if_pos hz] at P5
          refine ⟨vs4, k, hd4, keyOf_in kb rb, by rw [← rk4.len]; exact Nat.lt_of_lt_of_le hz (by decide), fun v hv => ?_, fun hv => ?_⟩
          · rw [hv] at rg
            cases d1 : dget kvs4 k with
            | none =>
              rw [d1] at rg
              exact rg.elim
            | some v' =>
              rw [d1] at rg P5
              exact P5.ok rl4 rg
          · rw [hv] at rg
            cases d1 : dget kvs4 k with
            | some v' =>
              rw [d1] at rg
              exact rg.elim
            | none =>
              rw [d1] at P5
              have es : Ext W io4 H4 io4 (upd H4 p (.dK (putK vs4 k w))) := Ext.set _ hd4 trivial
              exact P5 io4 _ w es (rl4.set hi4 hd4 trivial (.dK ((rk4.put k rc).mono es))) (RV.mono es rc)
        · rw [if_neg hz] at P5
          exact P5.elim
theorem setdD (ho : PE X o (tD W M E fo)) (he : PE X e (tD W M E fk)) (hf : PE X f (tD W M E fx)) (m : M2 X o "setdefault" apos e f cpos := by exact ⟨rfl, rfl, rfl, rfl⟩) : PE X (.Call (.Attribute o "setdefault" apos) [e, f] [] cpos) (tD W M E (dSetd fo fk fx)) := peI (pe_dsetd ho he hf m) fun _ _ _ h => sd_in h
end
section
variable {W : Wd} {M : Md W} {E : WX} {X : Cx} {k j n m t : Nat} {F : DF} {x : Str} {p pos p2 : Pos} {e e2 : Expr} {es : List Expr} {fa : DA} {f : Addr}
def dMakeS (t : Nat) (F : DF) (fa : DA) : DE := fun s h => (fa s h).bind fun a h1 =>
  if a.length ≤ 8 then (F [.ref h1.length, .tup a] (h1 ++ [.ins t []])).bind fun v h2 => match v with
    | .non => .ok (.ref h1.length) h2
    | _ => .stuck
  else .stuck
theorem mkargsS_in {C : Addr} (hk : W.ct.kit t = true) (hC : W.cl t = C) {σ : L2.St} {H : Hp} {Q : VK} (h : tD W M E (dMakeS t F fa) σ H Q) :
    tDA W M E fa σ H fun vs H1 => ∀ x dx, H1 x = none → H1 dx = none → dx ≠ x → spV W 8 F (.ref x :: vs) (upd (upd H1 dx (.own x)) x (.ins C dx [])) (fun v H3 => v = .non ∧ Q (.ref x) H3) (WE E σ) := by
  subst hC
  obtain ⟨io, hp, as, rl, S, P⟩ := h
  refine (step (rh := RVs W) (f := fa) rl S P).imp fun vs H4 ⟨io5, hp5, a, e5, rl5, ra, P5⟩ => ?_
  by_cases hc : a.length ≤ 8
  · rw [if_pos hc] at P5
    intro x dx hx hdx hne
    have rlA : Rl W io5 hp5 (upd H4 dx (.own x)) := rl5.other hdx
    have eA : Ext W io5 H4 io5 (upd H4 dx (.own x)) := Ext.new0 hdx
    have hx' : upd H4 dx (.own x) x = none := by
      rw [upd_ne (Ne.symm hne)]
      exact hx
    have eB : Ext W io5 (upd H4 dx (.own x)) (io5 ++ [x]) (upd (upd H4 dx (.own x)) x (.ins (W.cl t) dx [])) := Ext.new io5 _ hx' [x]
    have rlB : Rl W (io5 ++ [x]) (hp5 ++ [.ins t []]) (upd (upd H4 dx (.own x)) x (.ins (W.cl t) dx [])) := rlA.new hx' (.ins hk .nil)
    have eC := eA.trans eB
    refine ⟨io5 ++ [x], hp5 ++ [.ins t []], .ref hp5.length, a, hc, rlB, .cons (.ref ?_) (ra.mono eC), ?_⟩
    · rw [← rl5.len]
      simp
    · have P6 := Pst.later P5 eC
      cases z : F [.ref hp5.length, .tup a] (hp5 ++ [.ins t []]) with
      | ok v h3 =>
        rw [z] at P6
        cases v with
        | non =>
          intro io' H' y e' rl' ry
          refine ⟨ry.non_inv, P6 io' H' (.ref x) e' rl' (.ref (e'.at ?_))⟩
          rw [← rl5.len]
          simp
        | _ => exact P6.elim
      | exc t' fs h3 =>
        rw [z] at P6
        exact P6
      | stuck =>
        rw [z] at P6
        exact P6
  · rw [if_neg hc] at P5
    exact P5.elim
theorem makeS2 (H : HasV X.prog X.w X.mg X.base W j t x F) (hr : Room k X.A) (hj : j + 1 ≤ k) (hK : X.K = W.K) (tk : Takes X E)
    (ha : PA X (e :: es) (tDA W M E fa)) (hg : Gl X x := by rfl) (hdb : (x == ("__debug__" : Str)) = false := by decide) (he : starEach (e :: es) X.env = (false, eval e X.env) :: starEach es X.env := by rfl)
    (hst : (backTo pos (starEach es X.env)).any (·.1) = true := by rfl) : PE X (.Call (.Name x p) (e :: es) [] pos) (tD W M E (dMakeS t F fa)) := by
  obtain ⟨a, h1, h2, h3, h4⟩ := H
  rw [← hK] at h1
  refine ⟨fun pins s σ H Q I h => ?_⟩
  refine wpAny_Call_Name_kw (ld_glob I hg h2 ?_ hdb)
  exact PySem.W.callWith_S2 (h₀ := X.base) I.ok.mod.kin h1.kp (thn (ha.run pos pins s σ H _ I (mkargsS_in h3 rfl h)) fun us s1 ⟨vs, H1, I1, r, q⟩ => ⟨I1.kIn, run_mkV h1 hK h4 (hr.mono hj) tk I1 r q⟩) he hst
theorem makeV0 (H : HasV X.prog X.w X.mg X.base W j t x F) (hr : Room k X.A) (hj : j + 1 ≤ k) (hK : X.K = W.K) (tk : Takes X E)
    (hg : Gl X x := by rfl) (hall : (backToKw pos (keywordEach [] X.env)).all (·.1.isSome) = true := by rfl) (hks : (backToKw pos (keywordEach [] X.env)).filterMap (·.1) = [] := by rfl)
    (hdb : (x == ("__debug__" : Str)) = false := by decide) (hpl : ((backTo pos (starEach [] X.env)).any (·.1) || (backToKw pos (keywordEach [] X.env)).any (·.1.isNone)) = false := by rfl) :
    PE X (.Call (.Name x p) [] [] pos) (tD W M E (dMakeV t F 0 dNil)) := by
  obtain ⟨a, h1, h2, h3, h4⟩ := H
  rw [← hK] at h1
  refine ⟨fun pins s σ H Q I h => ?_⟩
  refine wpAny_Call_Name_kw (ld_glob I hg h2 ?_ hdb)
  refine PySem.W.callWith_KW0 (h₀ := X.base) I.ok.mod.kin h1.kp hall ?_ hpl
  have q := nil_in (mkargsV_in h3 rfl h)
  refine thn (pk_nil.run pos pins s σ H (fun zs H2 => zs = [] ∧ H2 = H) I ⟨rfl, rfl⟩) fun ws s2 ⟨zs, H2, I2, rz, l1, l2⟩ => ⟨I2.kIn, ?_⟩
  subst l1 l2
  cases rz
  rw [hks]
  exact run_mkV (us := []) (vs := []) h1 hK h4 (hr.mono hj) tk I2 .nil q
end
section
variable {W : Wd} {X : Cx}
def notBlAV : D2 := fun a b h => match a, b with
  | .bl x, .bl y => some (.bl (!(x == y)), h)
  | _, _ => none
theorem op_isNotBl : OpR X (compareOp .IsNot) (fun x y H Q => ∃ m n, x = .bl m ∧ y = .bl n ∧ Q (.bl (!(m == n))) H) := by
  intro pins s σ H x y v u Q I rx ry h
  obtain ⟨m, n, rfl, rfl, q⟩ := h
  cases (show v = Value.bool m from rx)
  cases (show u = Value.bool n from ry)
  by_cases e : m = n
  · subst e
    exact wpAny_isNot_self rfl ⟨.bl false, H, I, rfl, by simpa using q⟩
  · refine wpAny_isNot_other rfl (fun z => e (Value.bool.inj z)) ⟨.bl true, H, I, rfl, ?_⟩
    have : (m == n) = false := by simpa using e
    rw [this] at q
    exact q
theorem oIsNotBl : OpR X (compareOp .IsNot) (t2 W notBlAV) := op_imp op_isNotBl fun x y H Q ⟨io, hp, a, b, rl, ra, rb, P⟩ => by
  cases a with
  | bl m =>
    cases b with
    | bl n =>
      cases ra
      cases rb
      exact ⟨m, n, rfl, rfl, Pop.ok P rl (.bl _)⟩
    | _ => exact P.elim
  | _ => exact P.elim
end
end Dn
namespace Dn
open PySem PySem.Spec PyProof.Rows L2
def orLK (g : DE) (s : Sl) (a : AV) (h : Hep) : R AV := match lstAt h a with
  | some (_, xs) => if xs.length < SZ then (match xs with
    | [] => g s h
    | _ :: _ => .ok a h) else .stuck
  | none => .stuck
def dOrL (f g : DE) : DE := fun s h => (f s h).bind (orLK g s)
section
variable {W : Wd} {M : Md W} {E : WX} {X : Cx} {a b : Expr} {es : List Expr} {f g : DE} {pos : Pos}
theorem orL_in {K : PySem.W.Frag} {σ : L2.St} {H : Hp} {Q : VK} (h : tD W M E (dOrL f g) σ H Q) : tOrT K (tD W M E f) (tD W M E g) σ H Q := by
  obtain ⟨io, hp, as, rl, S, P⟩ := h
  refine (step (rh := RV W) (f := f) rl S P).imp fun x H1 ⟨io2, hp2, a, e2, rl2, ra, P2⟩ => ?_
  unfold orLK at P2
  cases z : lstAt hp2 a with
  | none =>
    rw [z] at P2
    exact P2.elim
  | some q =>
    obtain ⟨n, xs⟩ := q
    rw [z] at P2
    obtain ⟨p, vs, rfl, hi, hu, rv⟩ := lstAt_in z rl2 ra
    dsimp only at P2
    split at P2 <;> rename_i hz
    · cases xs with
      | nil =>
        cases rv
        exact ⟨false, .inl ⟨[], .inl (.inl hu), rfl⟩, iteF ⟨io2, hp2, as, rl2, M.mono e2 S, P2⟩⟩
      | cons y ys =>
        cases rv with
        | cons r1 r2 => exact ⟨true, .inl ⟨_, .inl (.inl hu), rfl⟩, iteT (P2.ok rl2 ra)⟩
    · exact P2.elim
theorem orLD (hK : X.K = W.K) (ha : PE X a (tD W M E f)) (hb : PE X (.BoolOp .Or (b :: es) pos) (tD W M E g)) : PE X (.BoolOp .Or (a :: b :: es) pos) (tD W M E (dOrL f g)) := peI (pe_orT ha hb) fun _ _ _ h => orL_in h
end
end Dn
namespace Dn
open PySem PySem.Spec PyProof.Rows L2
section
variable {W : Wd} {M : Md W} {E : WX} {X : Cx} {k j n m t : Nat} {F : DF} {x : Str} {p pos p2 p3 : Pos} {e e2 : Expr} {es : List Expr} {fa : DA} {f : Addr} {fe : DE}
open PySem.Calls in
theorem evalArgs_two {M : Model} {A : Around} {E : Value → Shared → Prop} {s : Shared} {f : Value} {b1 b2 : Bool} {x1 x2 : Sem Value} {rest : List (Bool × Sem Value)} {Q : Args → Shared → Prop}
    (h : wpAny M A (spliced ((b1, x1) :: (b2, x2) :: rest)) (fun vs s' => Q ⟨vs, []⟩ s') E s) : wpAny M A (evalArgs f true ((b1, x1) :: (b2, x2) :: rest) []) Q E s := by
  unfold evalArgs
  cases b1
  · show wpAny M A (spliced ((false, x1) :: (b2, x2) :: rest) >>= _) Q E s
    refine wpAny_bind (wpAny_mono h (fun vs s' h' => ?_) fun _ _ x => x)
    refine wpAny_holding ?_
    exact wpAny_bind (wpAny_pure (wpAny_bind (wpAny_pure (wpAny_pure h'))))
  · show wpAny M A (spliced ((true, x1) :: (b2, x2) :: rest) >>= _) Q E s
    refine wpAny_bind (wpAny_mono h (fun vs s' h' => ?_) fun _ _ x => x)
    refine wpAny_holding ?_
    exact wpAny_bind (wpAny_pure (wpAny_bind (wpAny_pure (wpAny_pure h'))))
theorem makeS3 (H : HasV X.prog X.w X.mg X.base W j t x F) (hr : Room k X.A) (hj : j + 1 ≤ k) (hK : X.K = W.K) (tk : Takes X E)
    (ha : PA X es (tDA W M E fa)) (hb : ∃ b1 x1 b2 x2 rest, backTo pos (starEach es X.env) = (b1, x1) :: (b2, x2) :: rest := by exact ⟨_, _, _, _, _, rfl⟩) (hg : Gl X x := by rfl) (hdb : (x == ("__debug__" : Str)) = false := by decide)
    (hst : (backTo pos (starEach es X.env)).any (·.1) = true := by rfl) : PE X (.Call (.Name x p) es [] pos) (tD W M E (dMakeS t F fa)) := by
  obtain ⟨a, h1, h2, h3, h4⟩ := H
  rw [← hK] at h1
  obtain ⟨b1, x1, b2, x2, rest, eb⟩ := hb
  refine ⟨fun pins s σ H Q I h => ?_⟩
  refine wpAny_Call_Name_kw (ld_glob I hg h2 ?_ hdb)
  have z := thn (ha.run pos pins s σ H _ I (mkargsS_in h3 rfl h)) fun us s1 ⟨vs, H1, I1, r, q⟩ => (⟨I1.kIn, run_mkV h1 hK h4 (hr.mono hj) tk I1 r q⟩ : X.K.In s1.heap ∧ _)
  show wpAny _ _ (callWith pos _ _ (backTo pos (starEach es X.env)) []) _ _ _
  rw [eb] at z hst ⊢
  exact PySem.W.ks_call hst (PySem.W.keeps_K h1.kp) (evalArgs_two z)
theorem makeS1 (H : HasV X.prog X.w X.mg X.base W j t x F) (hr : Room k X.A) (hj : j + 1 ≤ k) (hK : X.K = W.K) (tk : Takes X E)
    (he : PE X e (tD W M E fe)) (hg : Gl X x := by rfl) (hdb : (x == ("__debug__" : Str)) = false := by decide)
    (hst : starEach [.Starred e p2] X.env = [(true, eval e X.env)] := by rfl) : PE X (.Call (.Name x p) [.Starred e p2] [] pos) (tD W M E (dMakeS t F (dStar fe dNil))) := by
  obtain ⟨a, h1, h2, h3, h4⟩ := H
  rw [← hK] at h1
  refine ⟨fun pins s σ H Q I h => ?_⟩
  refine wpAny_Call_Name_kw (ld_glob I hg h2 ?_ hdb)
  have h' := mkargsS_in h3 rfl h
  obtain ⟨io, hp, as, rl, S, P⟩ := h'
  refine PySem.W.callWith_S (h₀ := X.base) I.ok.mod.kin h1.kp (thn (he.run pins s σ H _ I (step (rh := RV W) (f := fe) rl S P)) fun v s1 ⟨y, H1, I1, ry, io2, hp2, a2, e2, rl2, ra, P2⟩ => ?_) hst
  cases z : seqOf hp2 a2 with
  | none =>
    rw [z] at P2
    exact P2.elim
  | some xs =>
    rw [z] at P2
    obtain ⟨q, vs, rfl, hq, rvs⟩ := seqOf_in z rl2 ra
    cases (show v = Value.ref q from ry)
    rw [← hK] at hq
    refine star_at I1 hq fun us h5 r' I2 => ⟨I2.kIn, ?_⟩
    have P3 : Pst W (RVs W) E σ _ io2 H1 (.ok (xs ++ []) hp2) := P2
    rw [List.append_nil] at P3
    exact run_mkV h1 hK h4 (hr.mono hj) tk I2 r' (P3.ok rl2 rvs)
end
end Dn
namespace Dn
open PySem PySem.Spec PyProof.Rows L2

/-- slots go on where a lock is taken off -/
def Md0 {W : Wd} (M : Md W) : Prop := ∀ {io : List Addr} {H H' : Hp} {as : Sl} {σ : L2.St}, Ext0 W H H' → M.rel io H as σ → M.rel io H' as σ
theorem std0 (W : Wd) : Md0 (std W) := fun e h => ⟨h.1, fun i v a => by
  obtain ⟨x, b, r⟩ := h.2 i v a
  exact ⟨x, b, r.mono0 e⟩⟩
def lockSt (n : Nat) (kvs : List (Key × AV)) (r : SR) : SR := match r with
  | .nx s h => .nx s (h.set n (.dK kvs))
  | .rt v h => .rt v (h.set n (.dK kvs))
  | .bk s h => .bk s (h.set n (.dK kvs))
  | .ct s h => .ct s (h.set n (.dK kvs))
  | _ => .stuck
def dLkS (fd : DE) (f : DS) : DS := fun s h => match fd s h with
  | .ok a _ => (match dicAt h a with
    | some (n, kvs) => lockSt n kvs (f s (h.set n (.frz (.dK kvs))))
    | none => .stuck)
  | _ => .stuck
section
variable {W : Wd} {M : Md W} {E : WX} {X : Cx} {st : Stmt} {fd : DE} {f : DS}
theorem lkS (m0 : Md0 M) (hs : PS X st (tS W M E f)) : PS X st (tS W M E (dLkS fd f)) := psI (ps_lock hs) fun D σ H ⟨io, hp, as, rl, S, P⟩ => by
  unfold dLkS at P
  cases z : fd as hp with
  | stuck =>
    rw [z] at P
    exact P.elim
  | exc t fs h =>
    rw [z] at P
    exact P.elim
  | ok a hx =>
    rw [z] at P
    cases z2 : dicAt hp a with
    | none =>
      simp only [z2] at P
      exact P.elim
    | some q =>
      obtain ⟨n, kvs⟩ := q
      simp only [z2] at P
      have hn := dicAt_h z2
      obtain ⟨p, hi⟩ : ∃ p, io[n]? = some p := by
        obtain ⟨l, _⟩ := List.getElem?_eq_some_iff.mp hn
        exact ⟨_, List.getElem?_eq_getElem (by rw [rl.len]; exact l)⟩
      obtain ⟨vs, hd, rk⟩ := rl.dK hi hn
      refine ⟨p, .dK vs, hd, trivial, fun od => ?_⟩
      have es : Ext W io H io (upd H p (.frz od (.dK vs))) := Ext.set _ hd trivial
      refine ⟨io, hp.set n (.frz (.dK kvs)), as, rl.set hi hd trivial (.frz (.dK (rk.mono es))), M.mono es S, ?_⟩
      cases z3 : f as (hp.set n (.frz (.dK kvs))) with
      | stuck =>
        rw [z3] at P
        exact P.elim
      | exc t fs s h =>
        rw [z3] at P
        exact P.elim
      | nx s hp2 =>
        rw [z3] at P
        intro io' H' σ' e' rl' rs
        have hp' := e'.frz p od _ upd_same
        exact ⟨hp', P io' _ σ' (unlockE hd e') (unlockR rl' (e'.at hi) hp' ((rk.mono es).mono e')) (m0 (unlock0 hp') rs)⟩
      | bk s hp2 =>
        rw [z3] at P
        intro io' H' σ' e' rl' rs
        have hp' := e'.frz p od _ upd_same
        exact ⟨hp', P io' _ σ' (unlockE hd e') (unlockR rl' (e'.at hi) hp' ((rk.mono es).mono e')) (m0 (unlock0 hp') rs)⟩
      | ct s hp2 =>
        rw [z3] at P
        intro io' H' σ' e' rl' rs
        have hp' := e'.frz p od _ upd_same
        exact ⟨hp', P io' _ σ' (unlockE hd e') (unlockR rl' (e'.at hi) hp' ((rk.mono es).mono e')) (m0 (unlock0 hp') rs)⟩
      | rt v hp2 =>
        rw [z3] at P
        intro io' H' x e' rl' rx
        have hp' := e'.frz p od _ upd_same
        exact ⟨hp', P io' _ x (unlockE hd e') (unlockR rl' (e'.at hi) hp' ((rk.mono es).mono e')) (rx.mono0 (unlock0 hp'))⟩
end
/-- a dict is walked by a statement -/
theorem lkS_of {fd : DE} {f : DS} {s s2 : Sl} {h hx g : Hep} {n : Nat} {kvs : List (Key × AV)} (ed : fd s h = .ok (.ref n) hx) (en : h[n]? = some (.dK kvs)) (e : f s (h.set n (.frz (.dK kvs))) = .nx s2 g) : dLkS fd f s h = .nx s2 (g.set n (.dK kvs)) := by
  have d : dicAt h (.ref n) = some (n, kvs) := by simp only [dicAt, en]
  unfold dLkS
  rw [ed]
  simp only [d, e]
  rfl
end Dn
namespace Dn
open PySem PySem.Spec PyProof.Rows L2

def minI (ns : List Int) : Option Int := ns.find? fun m => ns.all fun y => decide (m ≤ y)
def maxI (ns : List Int) : Option Int := ns.find? fun m => ns.all fun y => decide (y ≤ m)
def minLL : DL := fun as h => match as with
  | [a] => match lstAt h a with
    | some (_, xs) => match intsOf xs with
      | some ns => (minI ns).map fun m => (.int m, h)
      | none => none
    | none => none
  | _ => none
def maxLL : DL := fun as h => match as with
  | [a] => match lstAt h a with
    | some (_, xs) => match intsOf xs with
      | some ns => (maxI ns).map fun m => (.int m, h)
      | none => none
    | none => none
  | _ => none
theorem minI_mem {ns : List Int} {m : Int} (e : minI ns = some m) : m ∈ ns ∧ ∀ y ∈ ns, m ≤ y := by
  have a := List.find?_some e
  rw [List.all_eq_true] at a
  exact ⟨List.mem_of_find?_eq_some e, fun y hy => of_decide_eq_true (a y hy)⟩
theorem maxI_mem {ns : List Int} {m : Int} (e : maxI ns = some m) : m ∈ ns ∧ ∀ y ∈ ns, y ≤ m := by
  have a := List.find?_some e
  rw [List.all_eq_true] at a
  exact ⟨List.mem_of_find?_eq_some e, fun y hy => of_decide_eq_true (a y hy)⟩
theorem minI_of {ns : List Int} {m : Int} (h1 : m ∈ ns) (h2 : ∀ y ∈ ns, m ≤ y) : minI ns = some m := by
  cases z : minI ns with
  | none =>
    have := List.find?_eq_none.mp z m h1
    exact absurd (List.all_eq_true.mpr fun y hy => decide_eq_true (h2 y hy)) this
  | some q =>
    obtain ⟨a, b⟩ := minI_mem z
    have := h2 q a
    have := b m h1
    rw [show q = m by omega]
theorem maxI_of {ns : List Int} {m : Int} (h1 : m ∈ ns) (h2 : ∀ y ∈ ns, y ≤ m) : maxI ns = some m := by
  cases z : maxI ns with
  | none =>
    have := List.find?_eq_none.mp z m h1
    exact absurd (List.all_eq_true.mpr fun y hy => decide_eq_true (h2 y hy)) this
  | some q =>
    obtain ⟨a, b⟩ := maxI_mem z
    have := h2 q a
    have := b m h1
    rw [show q = m by omega]
section
variable {W : Wd} {X : Cx}
theorem cMinL (hK : X.K = W.K) (hc : X.calm = true) : CallR X (.builtin "min") (tl W minLL) := call_imp (cr_min hc) fun xs H Q ⟨io, hp, as, rl, ra, P⟩ => by
  rw [hK]
  match as, ra, P with
  | [], .nil, P => exact P.elim
  | _ :: _ :: _, _, P => exact P.elim
  | [a], ra, P =>
    obtain ⟨x, rfl, r1⟩ := one_inv ra
    have P1 : Pop W (RV W) Q io H (match lstAt hp a with
      | some (_, xs) => match intsOf xs with
        | some ns => (minI ns).map fun m => (AV.int m, hp)
        | none => none
      | none => none) := P
    cases z2 : lstAt hp a with
    | none =>
      rw [z2] at P1
      exact P1.elim
    | some q =>
      obtain ⟨n, ys⟩ := q
      rw [z2] at P1
      obtain ⟨p, vs, rfl, hi, hu, rv⟩ := lstAt_in z2 rl r1
      cases z3 : intsOf ys with
      | none =>
        simp only [z3] at P1
        exact P1.elim
      | some ns =>
        simp only [z3] at P1
        have ev := intsOf_in z3 rv
        subst ev
        cases z4 : minI ns with
        | none =>
          simp only [z4] at P1
          exact P1.elim
        | some m =>
          simp only [z4] at P1
          obtain ⟨m1, m2⟩ := minI_mem z4
          refine ⟨p, ns, rfl, SqL.of hu, List.length_pos_iff.mpr (fun e => by rw [e] at m1; cases m1), fun q h1 h2 => ?_⟩
          have a := h2 m m1
          have b := m2 q h1
          have e : q = m := by omega
          subst e
          exact Pop.ok P1 rl (.int _)
theorem cMaxL (hK : X.K = W.K) (hc : X.calm = true) : CallR X (.builtin "max") (tl W maxLL) := call_imp (cr_max hc) fun xs H Q ⟨io, hp, as, rl, ra, P⟩ => by
  rw [hK]
  match as, ra, P with
  | [], .nil, P => exact P.elim
  | _ :: _ :: _, _, P => exact P.elim
  | [a], ra, P =>
    obtain ⟨x, rfl, r1⟩ := one_inv ra
    have P1 : Pop W (RV W) Q io H (match lstAt hp a with
      | some (_, xs) => match intsOf xs with
        | some ns => (maxI ns).map fun m => (AV.int m, hp)
        | none => none
      | none => none) := P
    cases z2 : lstAt hp a with
    | none =>
      rw [z2] at P1
      exact P1.elim
    | some q =>
      obtain ⟨n, ys⟩ := q
      rw [z2] at P1
      obtain ⟨p, vs, rfl, hi, hu, rv⟩ := lstAt_in z2 rl r1
      cases z3 : intsOf ys with
      | none =>
        simp only [z3] at P1
        exact P1.elim
      | some ns =>
        simp only [z3] at P1
        have ev := intsOf_in z3 rv
        subst ev
        cases z4 : maxI ns with
        | none =>
          simp only [z4] at P1
          exact P1.elim
        | some m =>
          simp only [z4] at P1
          obtain ⟨m1, m2⟩ := maxI_mem z4
          refine ⟨p, ns, rfl, SqL.of hu, List.length_pos_iff.mpr (fun e => by rw [e] at m1; cases m1), fun q h1 h2 => ?_⟩
          have a := h2 m m1
          have b := m2 q h1
          have e : q = m := by omega
          subst e
          exact Pop.ok P1 rl (.int _)
end

theorem dcL_if {src : Src} {g : DG} {tt : DT} {tk tv : DE} {s0 : Sl} {h1 : Hep} {xs : List AV} {kvs : List (Key × AV)} {p : Nat → Bool} (hl : xs.length = kvs.length) (hz : xs.length ≤ 100000) (hs : ∀ (acc : List (Key × AV)) (i : Nat), src.next i (h1 ++ [.dK acc]) = some xs[i]?)
    (step : ∀ (i : Nat) (x : AV) (q : Key) (v : AV) (acc : List (Key × AV)), xs[i]? = some x → kvs[i]? = some (q, v) → ∃ s1, g x s0 = some s1 ∧ tt s1 (h1 ++ [.dK acc]) = .ok (p i) (h1 ++ [.dK acc]) ∧ (p i = true → tk s1 (h1 ++ [.dK acc]) = .ok (ofKey q) (h1 ++ [.dK acc]) ∧ tv s1 (h1 ++ [.dK acc]) = .ok v (h1 ++ [.dK acc]))) :
    ∀ (k i : Nat) (acc : List (Key × AV)), k + i = xs.length → acc.length ≤ i → dDcL src g tt tk tv h1.length s0 (k + 1) i (h1 ++ [.dK acc]) = .ok (.ref h1.length) (h1 ++ [.dK (mergeA acc (((kvs.zipIdx.drop i).filter fun z => p z.2).map (·.1)))])
  | k, i, acc, e, ha => by
    have hn := hs acc i
    cases z : xs[i]? with
    | none =>
      have hi := List.getElem?_eq_none_iff.mp z
      rw [z] at hn
      rw [List.drop_eq_nil_of_le (by simp; omega)]
      unfold dDcL
      simp only [hn]
      rfl
    | some x =>
      obtain ⟨hi, _⟩ := List.getElem?_eq_some_iff.mp z
      obtain ⟨k, rfl⟩ : ∃ m, k = m + 1 := ⟨k - 1, by omega⟩
      rw [z] at hn
      obtain ⟨⟨q, v⟩, z2⟩ : ∃ w, kvs[i]? = some w := ⟨_, List.getElem?_eq_getElem (by omega)⟩
      obtain ⟨s1, e1, t1, t2⟩ := step i x q v acc z z2
      have hzz : acc.length < SZ := by
        have : SZ = 1000000 := rfl
        omega
      have ed : kvs.zipIdx.drop i = ((q, v), i) :: kvs.zipIdx.drop (i + 1) := by
        obtain ⟨l2, z3⟩ := List.getElem?_eq_some_iff.mp z2
        have l3 : i < kvs.zipIdx.length := by simpa using l2
        rw [List.drop_eq_getElem_cons l3, List.getElem_zipIdx, z3]
        simp
      rw [ed, List.filter_cons]
      unfold dDcL
      cases c : p i with
      | false =>
        rw [c] at t1
        have r := dcL_if hl hz hs step k (i + 1) acc (by omega) (by omega)
        simp only [hn, e1, t1, R.noX_ok, R.bind_ok, c]
        exact r
      | true =>
        rw [c] at t1
        obtain ⟨e2, e3⟩ := t2 c
        have kk : keyOf (ofKey q) = some q := keyOf_of q
        have e5 : putAtD h1.length (keyOf (ofKey q)) v (h1 ++ [.dK acc]) = some (h1 ++ [.dK (dput acc q v)]) := by
          unfold putAtD
          rw [at_last, kk]
          simp only [if_pos hzz, set_last]
        have al : (dput acc q v).length ≤ i + 1 := by
          have := dput_len acc q v
          omega
        have r := dcL_if hl hz hs step k (i + 1) (dput acc q v) (by omega) al
        simp only [hn, e1, t1, R.noX_ok, R.bind_ok, e2, e3, e5, c]
        exact r
theorem dc_if {f : DI} {src : Src} {g : DG} {tt : DT} {tk tv : DE} {vs : List Nat} {s : Sl} {h h1 : Hep} {xs : List AV} {kvs : List (Key × AV)} {p : Nat → Bool} (ef : f s h = .ok src h1) (hl : xs.length = kvs.length) (hz : xs.length ≤ 100000) (hlen : src.len h1 = xs.length) (hs : ∀ (acc : List (Key × AV)) (i : Nat), src.next i (h1 ++ [.dK acc]) = some xs[i]?)
    (step : ∀ (i : Nat) (x : AV) (q : Key) (v : AV) (acc : List (Key × AV)), xs[i]? = some x → kvs[i]? = some (q, v) → ∃ s1, g x (wipeS s vs) = some s1 ∧ tt s1 (h1 ++ [.dK acc]) = .ok (p i) (h1 ++ [.dK acc]) ∧ (p i = true → tk s1 (h1 ++ [.dK acc]) = .ok (ofKey q) (h1 ++ [.dK acc]) ∧ tv s1 (h1 ++ [.dK acc]) = .ok v (h1 ++ [.dK acc]))) :
    dDc f g tt tk tv vs s h = .ok (.ref h1.length) (h1 ++ [.dK (mergeA [] ((kvs.zipIdx.filter fun z => p z.2).map (·.1)))]) := by
  have r := dcL_if hl hz hs step xs.length 0 [] (by omega) (Nat.le_refl _)
  unfold dDc
  rw [ef]
  show dDcL src g tt tk tv h1.length (wipeS s vs) (src.len h1 + 1) 0 (h1 ++ [.dK []]) = _
  rw [hlen]
  exact r
end Dn
namespace Dn
open PySem PySem.Spec PyProof.Rows L2

section
variable {M : Model} {A : Around} {E : Value → Shared → Prop} {s : Shared} {K : PySem.W.Frag} {x C L f : Addr} {h₀ : Heap} {m : Str → Option Value} {ox : Obj} {od : Option Obj} {Q : Value → Shared → Prop}
theorem pos_K (F : PyProof.Rows.Fr h₀ L s.heap m) (X₀ : K.In h₀) (I : PySem.W.InstAt s.heap x ox C od) (hs : PySem.W.findIn K (.ref C) "__pos__" = some (some (.ref f))) (hf : PySem.W.isFn K (.ref f) = true)
    (h : wpAny M A (call (.ref f) [.ref x]) Q E s) : wpAny M A (unaryOp .UAdd (.ref x)) Q E s := by
  unfold unaryOp
  refine wpAny_holding ?_
  exact wpAny_bind (PySem.W.special_fn (X₀.keeps F.keep) I hs (beq_iff_eq.mp hf) (wpAny_mono h (fun v s' z => wpAny_pure z) fun _ _ z => z))
theorem neg_K (F : PyProof.Rows.Fr h₀ L s.heap m) (X₀ : K.In h₀) (I : PySem.W.InstAt s.heap x ox C od) (hs : PySem.W.findIn K (.ref C) "__neg__" = some (some (.ref f))) (hf : PySem.W.isFn K (.ref f) = true)
    (h : wpAny M A (call (.ref f) [.ref x]) Q E s) : wpAny M A (unaryOp .USub (.ref x)) Q E s := by
  unfold unaryOp
  refine wpAny_holding ?_
  exact wpAny_bind (PySem.W.special_fn (X₀.keeps F.keep) I hs (beq_iff_eq.mp hf) (wpAny_mono h (fun v s' z => wpAny_pure z) fun _ _ z => z))
end
def dUnO (t : Nat) (F : DF) (fo : DE) : DE := fun s h => (fo s h).bind fun o h1 => if isT h1 t o = true then F [o] h1 else .stuck
section
variable {W : Wd} {M : Md W} {E : WX} {X : Cx} {k j t : Nat} {ps : List Str} {F : DF} {pos : Pos} {o : Expr} {fo : DE}
theorem posD (H : HasO X.prog X.w X.mg X.base W j t "__pos__" ps 1 F) (hr : Room k X.A) (hj : j ≤ k) (hK : X.K = W.K) (tk : Takes X E) (ho : PE X o (tD W M E fo)) : PE X (.UnaryOp .UAdd o pos) (tD W M E (dUnO t F fo)) := by
  obtain ⟨a0, fd, hm', hfi, hF, hb⟩ := H
  rw [← hK] at hm' hF
  refine ⟨fun pins s σ H Q I h => ?_⟩
  obtain ⟨io, hp, as, rl, S, P⟩ := h
  refine UnaryOp_ (thn (ho.run pins s σ H _ I (step (rh := RV W) (f := fo) rl S P)) fun u s1 ⟨xv, H1, I1, rx, io1, hp1, a1, e1, rl1, ra1, P1⟩ => ?_)
  by_cases ht : isT hp1 t a1 = true
  · rw [if_pos ht] at P1
    obtain ⟨q, dx, vs, rfl, ea, hk⟩ := isT_in ht rl1 ra1
    obtain rfl : u = Value.ref q := rx
    obtain ⟨od, J⟩ := inst_of I1 ea
    obtain ⟨mm, fr⟩ := I1.fr
    refine pos_K fr I1.ok.mod.kin J hm'.at_ hm'.fn ?_
    exact run_sp hF (hr.mono hj) I1.env0 hb hK tk I1 (vs := [.ref q]) (.cons rfl .nil) rl1 (.cons ra1 .nil) rfl rfl P1
  · rw [if_neg ht] at P1
    exact P1.elim
theorem negOD (H : HasO X.prog X.w X.mg X.base W j t "__neg__" ps 1 F) (hr : Room k X.A) (hj : j ≤ k) (hK : X.K = W.K) (tk : Takes X E) (ho : PE X o (tD W M E fo)) : PE X (.UnaryOp .USub o pos) (tD W M E (dUnO t F fo)) := by
  obtain ⟨a0, fd, hm', hfi, hF, hb⟩ := H
  rw [← hK] at hm' hF
  refine ⟨fun pins s σ H Q I h => ?_⟩
  obtain ⟨io, hp, as, rl, S, P⟩ := h
  refine UnaryOp_ (thn (ho.run pins s σ H _ I (step (rh := RV W) (f := fo) rl S P)) fun u s1 ⟨xv, H1, I1, rx, io1, hp1, a1, e1, rl1, ra1, P1⟩ => ?_)
  by_cases ht : isT hp1 t a1 = true
  · rw [if_pos ht] at P1
    obtain ⟨q, dx, vs, rfl, ea, hk⟩ := isT_in ht rl1 ra1
    obtain rfl : u = Value.ref q := rx
    obtain ⟨od, J⟩ := inst_of I1 ea
    obtain ⟨mm, fr⟩ := I1.fr
    refine neg_K fr I1.ok.mod.kin J hm'.at_ hm'.fn ?_
    exact run_sp hF (hr.mono hj) I1.env0 hb hK tk I1 (vs := [.ref q]) (.cons rfl .nil) rl1 (.cons ra1 .nil) rfl rfl P1
  · rw [if_neg ht] at P1
    exact P1.elim
end
end Dn
namespace Dn
open PySem PySem.Spec PyProof.Rows L2

def dPrs (D : Nat) (s : Sl) : List (DE × DE) → List (Key × AV) → Hep → R AV
  | [], acc, h => match h[D]? with
    | some (.dK kvs) => if kvs.length = 0 ∧ acc.length ≤ 15 then .ok (.ref D) (h.set D (.dK (mergeA [] acc))) else .stuck
    | _ => .stuck
  | (fk, fv) :: r, acc, h => (fk s h).bind fun y h2 => (fv s h2).bind fun z h3 => match keyOf y with
    | some q => dPrs D s r (acc ++ [(q, z)]) h3
    | none => .stuck
def dDisp (l : List (DE × DE)) : DE := fun s h => dPrs h.length s l [] (h ++ [.dK []])
section
variable {W : Wd} {M : Md W} {E : WX} {X : Cx} {pos : Pos}
theorem prs_in {l : List (DE × DE)} {D : Nat} {p : Addr} {as : Sl} {σ : L2.St} {Q : VK} : ∀ {acc : List (Key × AV)} {vacc : List (Key × V)} {io : List Addr} {H : Hp} {hp : Hep} {R : List (V × V) → Hp → Prop}, Rl W io hp H → M.rel io H as σ → io[D]? = some p → RKs W io H acc vacc → Pst W (RV W) E σ Q io H (dPrs D as l acc hp) →
    (∀ ps H3, (H3 p = some (.dK []) ∧ ∃ kvs : List (Key × V), vacc.map (fun kv => (kV kv.1, kv.2)) ++ ps = kvs.map (fun kv => (kV kv.1, kv.2)) ∧ kvs.length ≤ 15 ∧ Q (.ref p) (upd H3 p (.dK (mergeK [] kvs)))) → R ps H3) →
    tPairs (l.map fun q => (tD W M E q.1, tD W M E q.2)) σ H R := by
  induction l with
  | nil =>
    intro acc vacc io H hp R rl S at_ rk P hR
    refine hR [] H ?_
    unfold dPrs at P
    cases z : hp[D]? with
    | none =>
      simp only [z] at P
      exact P.elim
    | some o =>
      cases o with
      | dK kvs =>
        simp only [z] at P
        by_cases c : kvs.length = 0 ∧ acc.length ≤ 15
        · rw [if_pos c] at P
          obtain ⟨avs, ea, rk2⟩ := rl.dK at_ z
          have l0 : kvs = [] := List.length_eq_zero_iff.mp c.1
          subst l0
          cases rk2
          refine ⟨ea, vacc, by simp, by rw [← rk.len]; exact c.2, ?_⟩
          have es : Ext W io H io (upd H p (.dK (mergeK [] vacc))) := Ext.set _ ea trivial
          exact P _ _ _ es (rl.set at_ ea trivial (.dK ((RKs.merge rk .nil).mono es))) (.ref at_)
        · rw [if_neg c] at P
          exact P.elim
      | _ =>
        simp only [z] at P
        exact P.elim
  | cons q r ih =>
    intro acc vacc io H hp R rl S at_ rk P hR
    obtain ⟨fk, fv⟩ := q
    show tD W M E fk σ H fun x H1 => tD W M E fv σ H1 fun y H2 => tPairs (r.map fun q => (tD W M E q.1, tD W M E q.2)) σ H2 fun ps H3 => R ((x, y) :: ps) H3
    refine (step (rh := RV W) (f := fk) rl S P).imp fun x H1 ⟨io1, hp1, a, e1, rl1, ra, P1⟩ => ?_
    refine (step (rh := RV W) (f := fv) rl1 (M.mono e1 S) P1).imp fun y H2 ⟨io2, hp2, c, e2, rl2, rc, P2⟩ => ?_
    cases ka : keyOf a with
    | none =>
      simp only [ka] at P2
      exact P2.elim
    | some k =>
      simp only [ka] at P2
      have hk := keyOf_in ka ra
      have rk2 : RKs W io2 H2 (acc ++ [(k, c)]) (vacc ++ [(k, y)]) := ((rk.mono e1).mono e2).app (.cons rc .nil)
      refine ih rl2 (M.mono e2 (M.mono e1 S)) (e2.at (e1.at at_)) rk2 P2 fun ps H3 ⟨g1, kvs, g2, g3, g4⟩ => hR _ _ ⟨g1, kvs, ?_, g3, g4⟩
      rw [← g2, List.map_append, List.append_assoc, hk]
      rfl
theorem disp_in {l : List (DE × DE)} {σ : L2.St} {H : Hp} {Q : VK} (h : tD W M E (dDisp l) σ H Q) : tDisp (l.map fun q => (tD W M E q.1, tD W M E q.2)) σ H Q := by
  obtain ⟨io, hp, as, rl, S, P⟩ := h
  intro p hn
  have eD := Ext.new (W := W) io (.dK []) hn [p]
  have rlD : Rl W (io ++ [p]) (hp ++ [.dK []]) (upd H p (.dK [])) := rl.new hn (.dK .nil)
  exact prs_in rlD (M.mono eD S) (rl.atLen p) .nil (Pst.later P eD) fun ps H3 ⟨g1, kvs, g2, g3, g4⟩ => ⟨g1, kvs, by simpa using g2, g3, g4⟩
theorem PDs.pps {ks : List (Option Expr)} {vs : List Expr} {l : List (DE × DE)} (h : PDs W M E X ks vs l) : PPs X pos ks vs (l.map fun q => (tD W M E q.1, tD W M E q.2)) := by
  induction h with
  | nil => exact pps_nil
  | cons a b _ ih => exact pps_cons a b ih
theorem dispD {ks : List (Option Expr)} {vs : List Expr} {l : List (DE × DE)} (h : PDs W M E X ks vs l) (hall : ks.all (·.isSome) = true := by rfl) (hl : ks.length = vs.length := by rfl) (h0 : ks ≠ [] := by simp) (h15 : ks.length ≤ 15 := by decide) : PE X (.Dict ks vs pos) (tD W M E (dDisp l)) :=
  peI (pe_disp h.pps hall hl h0 h15) fun _ _ _ q => disp_in q
end
end Dn
namespace Dn
open PySem
theorem lcL_opt {src : Src} {g : DG} {tt : DT} {te : DE} {s0 : Sl} {h1 : Hep} {xs : List AV} {zs : List (Option AV)} (hl : xs.length = zs.length) (hz : xs.length ≤ 100000) (hs : ∀ (acc : List AV) (i : Nat), src.next i (h1 ++ [.lst acc]) = some xs[i]?)
    (step : ∀ (i : Nat) (x : AV) (z : Option AV) (acc : List AV), xs[i]? = some x → zs[i]? = some z → ∃ s1, g x s0 = some s1 ∧ tt s1 (h1 ++ [.lst acc]) = .ok z.isSome (h1 ++ [.lst acc]) ∧ ∀ y, z = some y → te s1 (h1 ++ [.lst acc]) = .ok y (h1 ++ [.lst acc])) :
    ∀ (k i : Nat) (acc : List AV), k + i = xs.length → acc.length ≤ i → dLcL src g tt te h1.length s0 (k + 1) i (h1 ++ [.lst acc]) = .ok (.ref h1.length) (h1 ++ [.lst (acc ++ (zs.drop i).filterMap id)])
  | k, i, acc, e, ha => by
    have hn := hs acc i
    cases z : xs[i]? with
    | none =>
      have hi := List.getElem?_eq_none_iff.mp z
      rw [z] at hn
      rw [List.drop_eq_nil_of_le (by omega), List.filterMap_nil, List.append_nil]
      unfold dLcL
      simp only [hn]
    | some x =>
      obtain ⟨hi, _⟩ := List.getElem?_eq_some_iff.mp z
      obtain ⟨k, rfl⟩ : ∃ m, k = m + 1 := ⟨k - 1, by omega⟩
      rw [z] at hn
      obtain ⟨y, z2⟩ : ∃ p, zs[i]? = some p := ⟨_, List.getElem?_eq_getElem (by omega)⟩
      obtain ⟨s1, e1, t1, e2⟩ := step i x y acc z z2
      have ed : zs.drop i = y :: zs.drop (i + 1) := by
        obtain ⟨l2, z3⟩ := List.getElem?_eq_some_iff.mp z2
        rw [← z3]
        exact List.drop_eq_getElem_cons l2
      rw [ed]
      cases y with
      | none =>
        have r := lcL_opt hl hz hs step k (i + 1) acc (by omega) (by omega)
        rw [List.filterMap_cons_none rfl, ← r]
        conv => lhs; unfold dLcL
        simp only [hn, e1, t1, R.noX_ok, R.bind_ok, Option.isSome_none]
      | some y =>
        have hzz : acc.length < SZ := by
          have : SZ = 1000000 := rfl
          omega
        have e5 : addAt h1.length y (h1 ++ [.lst acc]) = some (h1 ++ [.lst (acc ++ [y])]) := by
          unfold addAt
          rw [at_last]
          simp only [if_pos hzz, set_last]
        have r := lcL_opt hl hz hs step k (i + 1) (acc ++ [y]) (by omega) (by simp; omega)
        rw [show (some y :: zs.drop (i + 1)).filterMap id = y :: (zs.drop (i + 1)).filterMap id from rfl, show acc ++ y :: (zs.drop (i + 1)).filterMap id = (acc ++ [y]) ++ (zs.drop (i + 1)).filterMap id by simp, ← r]
        conv => lhs; unfold dLcL
        simp only [hn, e1, t1, R.noX_ok, R.bind_ok, Option.isSome_some, e2 y rfl, e5]
/-- a source that gives these values, whatever is made behind -/
structure Sq (f : DI) (s : Sl) (h h1 : Hep) (xs : List AV) : Prop where
  ex : ∃ src, f s h = .ok src h1 ∧ src.len h1 = xs.length ∧ ∀ (o : AO) (i : Nat), src.next i (h1 ++ [o]) = some xs[i]?
theorem app_at0 {h : Hep} {i : Nat} {o a : AO} (e : h[i]? = some o) : (h ++ [a])[i]? = some o := by
  rw [List.getElem?_append_left (List.getElem?_eq_some_iff.mp e).1]
  exact e
theorem Sq.at {f : DE} {s : Sl} {h h1 : Hep} {n : Nat} {xs : List AV} (ef : f s h = .ok (.ref n) h1) (e : h1[n]? = some (.lst xs)) : Sq (dSrc f) s h h1 xs :=
  ⟨.at n, src_ref ef e, len_at e, fun o i => next_at (app_at0 e)⟩
theorem Sq.fix {f : DI} {s : Sl} {h h1 : Hep} {xs : List AV} (ef : f s h = .ok (.fix xs) h1) : Sq f s h h1 xs :=
  ⟨.fix xs, ef, rfl, fun o i => rfl⟩
theorem Fr.into {A B : List Nat} {h h1 h2 : Hep} (f : Fr A h h1) (g : Fr B h1 h2) (k : ∀ i ∈ B, i ∈ A ∨ h.length ≤ i) : Fr A h h2 :=
  ⟨Nat.le_trans f.1 g.1, fun i hi he => (g.2 i (Nat.lt_of_lt_of_le hi f.1) fun z => (k i z).elim he (fun q => absurd hi (Nat.not_lt.mpr q))).trans (f.2 i hi he)⟩
theorem lc_filt {α : Type} {f : DI} {g : DG} {tt : DT} {te : DE} {vs : List Nat} {s : Sl} {h h1 : Hep} {l : List α} (fx fy : α → AV) (p : α → Bool) (S : Sq f s h h1 (l.map fx)) (hz : l.length ≤ 100000)
    (step : ∀ (x : α) (acc : List AV), x ∈ l → ∃ s1, g (fx x) (wipeS s vs) = some s1 ∧ tt s1 (h1 ++ [.lst acc]) = .ok (p x) (h1 ++ [.lst acc]) ∧ (p x = true → te s1 (h1 ++ [.lst acc]) = .ok (fy x) (h1 ++ [.lst acc]))) :
    dLc f g tt te vs s h = .ok (.ref h1.length) (h1 ++ [.lst ((l.filter p).map fy)]) := by
  obtain ⟨src, ef, hlen, hs⟩ := S.ex
  have r := lcL_opt (g := g) (tt := tt) (te := te) (s0 := wipeS s vs) (h1 := h1) (xs := l.map fx) (zs := l.map fun x => if p x = true then some (fy x) else none) (by simp) (by simpa using hz) (fun acc i => hs (.lst acc) i)
    (fun i x z acc hx hz => by
      rw [List.getElem?_map] at hx hz
      cases q : l[i]? with
      | none =>
        rw [q] at hx
        cases hx
      | some w =>
        rw [q] at hx hz
        cases hx
        cases hz
        obtain ⟨s1, a, b, c⟩ := step w acc (List.mem_of_getElem? q)
        refine ⟨s1, a, ?_, fun y hy => ?_⟩
        · rw [b]
          by_cases d : p w = true
          · simp [d]
          · simp [d]
        · by_cases d : p w = true
          · have hy2 : some (fy w) = some y := by simpa [d] using hy
            cases hy2
            exact c d
          · have hy2 : (none : Option AV) = some y := by simpa [d] using hy
            cases hy2) (l.map fx).length 0 [] (by omega) (Nat.le_refl _)
  unfold dLc
  rw [ef]
  show dLcL src g tt te h1.length (wipeS s vs) (src.len h1 + 1) 0 (h1 ++ [.lst []]) = _
  rw [hlen, r]
  congr 3
  rw [List.drop_zero, List.nil_append, List.filterMap_map]
  have : ∀ l : List α, List.filterMap (id ∘ fun x => if p x = true then some (fy x) else none) l = (l.filter p).map fy := fun l => by
    induction l with
    | nil => rfl
    | cons a l ih =>
      by_cases d : p a = true
      · rw [List.filterMap_cons_some (b := fy a) (by simp [d]), ih, List.filter_cons_of_pos d]
        rfl
      · rw [List.filterMap_cons_none (by simp [d]), ih, List.filter_cons_of_neg d]
  rw [this]
theorem lc_map {α : Type} {f : DI} {g : DG} {te : DE} {vs : List Nat} {s : Sl} {h h1 : Hep} {l : List α} (fx fy : α → AV) (S : Sq f s h h1 (l.map fx)) (hz : l.length ≤ 100000)
    (step : ∀ (x : α) (acc : List AV), x ∈ l → ∃ s1, g (fx x) (wipeS s vs) = some s1 ∧ te s1 (h1 ++ [.lst acc]) = .ok (fy x) (h1 ++ [.lst acc])) :
    dLc f g dYes te vs s h = .ok (.ref h1.length) (h1 ++ [.lst (l.map fy)]) := by
  have r := lc_filt (tt := dYes) (te := te) fx fy (fun _ => true) S hz fun x acc hx => by
    obtain ⟨s1, a, b⟩ := step x acc hx
    exact ⟨s1, a, rfl, fun _ => b⟩
  rw [r, List.filter_eq_self.mpr (fun _ _ => rfl)]
end Dn
namespace Dn
open PySem PySem.Spec PyProof.Rows L2

def okK' (r : R AV) (K : AV → Hep → SR) : SR := match r with
  | .ok a h => K a h
  | _ => .stuck
def puK (s : Sl) (o : Option Hep) : SR := match o with
  | some h => .nx s h
  | none => .stuck
def hI (fo fi : DE) : DGH := fun v s h => okK' (fo s h) fun o h1 => okK' (fi s h1) fun i h2 => puK s (putAV o i v h2)
theorem okK_two {r : R AV} {K : AV → Hep → SR} (h : ∀ a h, (∃ s' h', K a h = .nx s' h') ∨ K a h = .stuck) : (∃ s' h', okK' r K = .nx s' h') ∨ okK' r K = .stuck := by
  cases r with
  | ok a h' => exact h a h'
  | exc _ _ _ => exact .inr rfl
  | stuck => exact .inr rfl
theorem hI_two (fo fi : DE) : ∀ x s h, (∃ s' h', hI fo fi x s h = .nx s' h') ∨ hI fo fi x s h = .stuck := fun x s h =>
  okK_two fun o h1 => okK_two fun i h2 => by
    cases putAV o i x h2 with
    | none => exact .inr rfl
    | some h => exact .inl ⟨_, _, rfl⟩
section
variable {W : Wd} {M : Md W} {E : WX} {X : Cx} {k : Nat}
theorem stepN {f : DE} {io : List Addr} {H : Hp} {hp : Hep} {as : Sl} {σ : L2.St} {Q : L2.St → Hp → Prop} {K : AV → Hep → SR} (rl : Rl W io hp H) (S : M.rel io H as σ) (P : Pnx W M Q io H (okK' (f as hp) K)) :
    tD W M E0x f σ H fun x H1 => ∃ io1 hp1 a, Ext W io H io1 H1 ∧ Rl W io1 hp1 H1 ∧ RV W io1 H1 a x ∧ Pnx W M Q io1 H1 (K a hp1) := by
  refine ⟨io, hp, as, rl, S, ?_⟩
  cases z : f as hp with
  | stuck =>
    rw [z] at P
    exact P.elim
  | exc t fs h =>
    rw [z] at P
    exact P.elim
  | ok a hp2 =>
    rw [z] at P
    intro io2 H2 xv e2 rl2 ra
    exact ⟨io2, hp2, a, e2, rl2, ra, Pnx.later P e2⟩
theorem tgI {o i : Expr} {fo fi : DE} {pos : Pos} (hr : Room k X.A) (ho : PE X o (tD W M E0x fo)) (hi : PE X i (tD W M E0x fi))
    (ha : ∀ v, assign (.Subscript o i pos) X.env v = (do
      let ov ← holding [v] (eval o X.env)
      let iv ← holding [v, ov] (eval i X.env)
      standAt pos
      holding [v, ov, iv] (setItem ov iv v)
      release [v, ov, iv] []) := by intro _; rfl) : PG X (.Subscript o i pos) (tH W M (hI fo fi)) := by
  refine ⟨fun pins s σ H v u Q I r ⟨io, hp, as, y, rl, S, ry, P⟩ => ?_⟩
  rw [ha]
  refine wpAny_bind (wpAny_holding (thn (ho.run pins s σ H _ I (stepN rl S P)) fun ov s1 ⟨xo, H1, I1, ro, io1, hp1, a1, e1, rl1, r1, P1⟩ => ?_))
  refine wpAny_bind (wpAny_holding (thn (hi.run pins s1 σ H1 _ I1 (stepN rl1 (M.mono e1 S) P1)) fun iv s2 ⟨xi, H2, I2, ri, io2, hp2, a2, e2, rl2, r2, P2⟩ => ?_))
  have S2 := M.mono (e1.trans e2) S
  have q1 := r1.mono e2
  have qy := ry.mono (e1.trans e2)
  have wrap : ∀ {H3 : Hp} {h3 : Hep}, putAV a1 a2 y hp2 = some h3 → Ext W io2 H2 io2 H3 → Rl W io2 h3 H3 → wpAny (model X.prog X.w) X.A (setItem ov iv u) (fun _ s' => ∃ H', Inv X pins σ H' s' ∧ H' = H3) X.xe s2 →
      wpAny (model X.prog X.w) X.A (do standAt pos; holding [u, ov, iv] (setItem ov iv u); release [u, ov, iv] []) (fun _ s' => ∃ σ' H', Inv X pins σ' H' s' ∧ Q σ' H') X.xe s2 := fun {H3 h3} z e rl3 w => by
    refine wpAny_bind (wpAny_standAt (wpAny_bind (wpAny_holding (thn w fun _ s3 ⟨H4, I3, e4⟩ => ?_))))
    subst e4
    rw [z] at P2
    exact wpAny_release ⟨σ, _, I3, P2 _ _ _ e rl3 (M.mono e S2)⟩
  cases q1 with
  | @ref n p hi' =>
    cases z : hp2[n]? with
    | none =>
      simp only [putAV, z] at P2
      exact P2.elim
    | some ob =>
      cases ob with
      | lst xs =>
        obtain ⟨vs, ev, rvs⟩ := rl2.lst hi' z
        cases r2 with
        | int j0 =>
          cases z2 : ixN xs.length j0 with
          | none =>
            simp only [putAV, z, z2] at P2
            exact P2.elim
          | some j =>
            have z3 : putAV (.ref n) (.int j0) y hp2 = some (hp2.set n (.lst (xs.set j y))) := by simp only [putAV, z, z2, Option.map_some]
            have eS : Ext W io2 H2 io2 (upd H2 p (.lst (vs.set j v))) := Ext.set _ ev trivial
            exact wrap z3 eS (rl2.set hi' ev trivial (.lst ((rvs.set j qy).mono eS))) (set_list pins s2 σ H2 _ _ _ _ _ _ (fun H' => H' = upd H2 p (.lst (vs.set j v))) I2 ro ri r ⟨p, vs, j0, j, rfl, rfl, ev, by rw [← rvs.len]; exact z2, rfl⟩)
        | _ =>
          simp only [putAV, z] at P2
          exact P2.elim
      | dK kvs =>
        obtain ⟨vs, ev, rvs⟩ := rl2.dK hi' z
        cases z2 : keyOf a2 with
        | none =>
          simp only [putAV, z, z2] at P2
          exact P2.elim
        | some q =>
          by_cases hz : kvs.length < SZ
          · have z3 : putAV (.ref n) a2 y hp2 = some (hp2.set n (.dK (dput kvs q y))) := by simp only [putAV, z, z2, if_pos hz]
            have eS : Ext W io2 H2 io2 (upd H2 p (.dK (putK vs q v))) := Ext.set _ ev trivial
            have ek := keyOf_in z2 r2
            subst ek
            exact wrap z3 eS (rl2.set hi' ev trivial (.dK ((RKs.put q qy rvs).mono eS))) (set_dict (ru1 hr) pins s2 σ H2 _ _ _ _ _ _ (fun H' => H' = upd H2 p (.dK (putK vs q v))) I2 ro ri r ⟨p, _, rfl, DPut.k ev (by rw [← rvs.len]; exact szT hz), rfl⟩)
          · simp only [putAV, z, z2, if_neg hz] at P2
            exact P2.elim
      | _ =>
        simp only [putAV, z] at P2
        exact P2.elim
  | _ =>
    simp only [putAV] at P2
    exact P2.elim
end
@[simp] theorem okK_ok {a : AV} {h : Hep} {K : AV → Hep → SR} : okK' (.ok a h) K = K a h := rfl
@[simp] theorem puK_some {s : Sl} {h : Hep} : puK s (some h) = .nx s h := rfl
@[simp] theorem xhI {fo fi : DE} {v : AV} {s : Sl} {h : Hep} : hI fo fi v s h = okK' (fo s h) fun o h1 => okK' (fi s h1) fun i h2 => puK s (putAV o i v h2) := rfl
end Dn
namespace Dn
open PySem PySem.Spec PyProof.Rows L2
def rRemD (K : PySem.W.Frag) : V → List V → Hp → VK → Prop := fun x xs H Q => ∃ (a : Addr) (y : V) (vs : List V) (d : PyData) (ds : List PyData) (j : Nat), x = V.ref a ∧ xs = [y] ∧ H a = some (.lst vs) ∧ DpAll K H vs ds ∧ Dp K H y d ∧
  SeqAt.shaped (.list ds) = true ∧ SeqAt.shaped d = true ∧ ds.findIdx? (fun z => PyData.eqv z d) = some j ∧ Q .non (upd H a (.lst (vs.eraseIdx j)))
section
variable {W : Wd} {X : Cx}
theorem mt_removeD (hu : X.A.units + 65 < cLine) : MtR X "list.remove" (rRemD X.K) := by
  intro pins s σ H x xs v us Q I rx rxs h
  obtain ⟨a, y, vs, d, ds, j, rfl, rfl, hH, ha, hy, sl, sd, hj, q⟩ := h
  cases rx
  cases rxs with
  | cons ry rt =>
    rename_i uy ut
    cases rt
    obtain ⟨bs, r1⟩ := Dp.reads I d y uy hy ry
    have hxs : PyData.canLayAll0 ds = true := SeqAt.canLay_of_shaped sl
    have hroom : X.A.units + 1 + min (PyData.depthAll ds) d.depth < cLine := room_in_shaped sd hu
    obtain ⟨z, its, n, r, hl, e⟩ := I.lstM hH
    obtain ⟨as, h4⟩ := Dp.readsAll I ds _ its ha r
    have hn : its.length = ds.length := SeqAt.ReadsAll.length ds its as h4
    have hmap : its.map (SeqAt.readOf s.heap) = ds := SeqAt.readsAll_map ds its as hxs h4
    obtain ⟨hjd, hj2, hj3⟩ := List.findIdx?_eq_some_iff_getElem.mp hj
    have hjl : j < its.length := by omega
    have hjs : j < its.toArray.size := by simpa using hjl
    have at_ : ∀ (m : Nat) (hm : m < its.toArray.size) (hm2 : m < ds.length), SeqAt.readOf s.heap its.toArray[m] = ds[m] := by
      intro m hm hm2
      have hml : m < its.length := by simpa using hm
      have e0 : (its.map (SeqAt.readOf s.heap))[m]? = ds[m]? := by rw [hmap]
      rw [List.getElem?_map, List.getElem?_eq_getElem hml, List.getElem?_eq_getElem hm2] at e0
      have e1 : SeqAt.readOf s.heap its[m] = ds[m] := Option.some.inj e0
      simpa using e1
    refine call_meets PySem.F.slot_list_remove ⟨_, e, rfl⟩ PySem.F.entry_list_remove (PySem.F.args_list_remove_2 _ _)
      (SeqAt.list_removeAt a its.toArray n none #[] uy (fun u => PyData.eqv (SeqAt.readOf s.heap u) d) j hjs ?_ ?_ (by rw [List.size_toArray]; omega)) ⟨e, SeqAt.items_eqAt (vs := its.toArray) (show ReadsAll s.heap its.toArray.toList ds as from h4) r1 hxs (SeqAt.canLay_of_shaped sd) hroom, ?_⟩
    · show PyData.eqv (SeqAt.readOf s.heap its.toArray[j]) d = true
      rw [at_ j hjs hjd]
      exact hj2
    · intro m hm hmj
      show PyData.eqv (SeqAt.readOf s.heap its.toArray[m]) d = false
      rw [at_ m hm (by omega)]
      simpa using hj3 m hmj
    · have rr := r.eraseIdx j
      refine ⟨.non, _, I.lset (its' := its.eraseIdx j) (t' := s.toks) hH e ?_ rr ?_, rfl, q⟩
      · show its.toArray.eraseIdxIfInBounds j = (its.eraseIdx j).toArray
        rw [List.eraseIdxIfInBounds_toArray]
      · have := len_erase vs j
        omega
def mRemove : DMt := fun a as h => match lstAt h a, as with
  | some (n, xs), [y] => (match toD DD h y, xs.mapM (toD DD h) with
    | some d, some ds => if SeqAt.shaped (.list ds) = true ∧ SeqAt.shaped d = true then (ds.findIdx? fun z => PyData.eqv z d).map fun j => (.non, h.set n (.lst (xs.eraseIdx j))) else none
    | _, _ => none)
  | _, _ => none
theorem meRemove (hK : X.K = W.K) (hu : X.A.units + 65 < cLine) : MtR X "list.remove" (tm W mRemove) := mt_imp (mt_removeD hu) fun x xs H Q ⟨io, hp, a, as, rl, ra, ras, P⟩ => by
  unfold mRemove at P
  cases z : lstAt hp a with
  | none =>
    rw [z] at P
    exact P.elim
  | some q =>
    obtain ⟨n, ys⟩ := q
    rw [z] at P
    obtain ⟨p, vs, rfl, hi, hu, rv⟩ := lstAt_in z rl ra
    match as, ras, P with
    | [], .nil, P => exact P.elim
    | _ :: _ :: _, _, P => exact P.elim
    | [c], ras, P =>
      obtain ⟨y, rfl, rb⟩ := one_inv ras
      dsimp only at P
      cases z1 : toD DD hp c with
      | none =>
        rw [z1] at P
        exact P.elim
      | some d =>
        cases z2 : ys.mapM (toD DD hp) with
        | none =>
          rw [z1, z2] at P
          exact P.elim
        | some ds =>
          rw [z1, z2] at P
          dsimp only at P
          by_cases h : SeqAt.shaped (.list ds) = true ∧ SeqAt.shaped d = true
          · rw [if_pos h] at P
            cases z3 : ds.findIdx? (fun z => PyData.eqv z d) with
            | none =>
              rw [z3] at P
              exact P.elim
            | some j =>
              rw [z3] at P
              rw [hK]
              exact ⟨p, y, vs, d, ds, j, rfl, rfl, hu, toD_list DD (toD_in rl DD) ys vs ds z2 rv, toD_in rl DD c y d z1 rb, h.1, h.2, z3, set_lst P rl hi hu (rv.erase j) .non⟩
          · rw [if_neg h] at P
            exact P.elim
end
theorem mapM_dr {h : Hep} {n : Nat} : ∀ {xs : List AV} {ds : List PyData}, DrA h xs ds → PyData.depthAll ds < n → xs.mapM (toD n h) = some ds
  | [], _, .nil, _ => rfl
  | _ :: _, _, .cons r1 r2, dl => by
    rw [depthAll_cons] at dl
    rw [List.mapM_cons, toD_dr r1 n (by omega), mapM_dr r2 (by omega)]
    rfl
/-- the first equal one goes -/
theorem remove_dr {h : Hep} {n j : Nat} {xs : List AV} {y : AV} {ds : List PyData} {d : PyData} (e : h[n]? = some (.lst xs)) (rx : DrA h xs ds) (ry : Dr h y d) (o1 : DOk (.list ds)) (o2 : DOk d) (hj : ds.findIdx? (fun z => PyData.eqv z d) = some j) : mRemove (.ref n) [y] h = some (.non, h.set n (.lst (xs.eraseIdx j))) := by
  have ok : ∀ {d : PyData}, DOk d → SeqAt.shaped d = true := fun {d} o => by
    unfold SeqAt.shaped
    rw [o.1, decide_eq_true (by have := o.2; omega)]
    rfl
  have z1 := toD_dr ry DD (by have := o2.2; have z : DD = 50 := rfl; omega)
  have z2 : xs.mapM (toD DD h) = some ds := by
    refine mapM_dr rx ?_
    have := o1.2
    rw [depth_list] at this
    have z : DD = 50 := rfl
    omega
  have z : lstAt h (.ref n) = some (n, xs) := by simp only [lstAt, e]
  unfold mRemove
  rw [z]
  dsimp only
  rw [z1, z2]
  dsimp only
  rw [if_pos ⟨ok o1, ok o2⟩, hj]
  rfl
end Dn
namespace Dn
open PySem PySem.Spec PyProof.Rows L2
def augOwn (t : Nat) (F : DF) : DX := fun a b h => if isT h t a = true then (F [a, b] h).noX else .stuck
def tIpX (W : Wd) (r : DX) : TIp := fun x y H Q => ∃ io hp a b, Rl W io hp H ∧ RV W io H a x ∧ RV W io H b y ∧ ∀ σ, Pst W (RV W) (fun _ _ _ _ => False) σ Q io H (r a b hp)
section
variable {X : Cx} {W : Wd} {M : Md W} {E : WX} {j k t : Nat} {x : Str} {ps : List Str} {F : DF}
theorem ipOwn {op : Operator} (H : HasO X.prog X.w X.mg X.base W j t (PySem.dunderI op.info.2) ps 2 F) (hr : Room k X.A) (hj : j ≤ k) (hK : X.K = W.K) (tk : Takes X (fun _ _ _ _ => False)) : PIp X op (tIpX W (augOwn t F)) := by
  obtain ⟨a0, fd, hm', hfi, hF, hb⟩ := H
  rw [← hK] at hm' hF
  intro pins s σ H2 xv yv v u Q I rx ry ⟨io, hp, a, b, rl, ra, rb, P⟩
  have P := P σ
  unfold augOwn at P
  by_cases hc : isT hp t a = true
  · rw [if_pos hc] at P
    obtain ⟨q, dx, vs, rfl, ea, hk⟩ := isT_in hc rl ra
    obtain rfl : v = Value.ref q := rx
    obtain ⟨od, J⟩ := inst_of I ea
    obtain ⟨mm, fr⟩ := I.fr
    have sf := (clsB_in hk).2.1
    rw [← hK] at sf
    have P2 : Pst W (RV W) (fun _ _ _ _ => False) σ Q io H2 (F [a, b] hp) := by
      cases z : F [a, b] hp with
      | ok v h => rw [z] at P; exact P
      | exc t fs h => rw [z] at P; exact P.elim
      | stuck => rw [z] at P; exact P.elim
    refine PySem.W.ksp_inplace fr I.ok.mod.kin J sf hm'.at_ hm'.fn ?_
    exact wpAny_mono (run_sp hF (hr.mono hj) I.env0 hb hK tk I (vs := [.ref q, yv]) (.cons rfl (.cons ry .nil)) rl (.cons ra (.cons rb .nil)) rfl rfl P2) (fun w s2 hq => by
      obtain ⟨y, H3, I3, r3, q3⟩ := hq
      exact relV_ni r3 ⟨y, H3, I3, r3, q3⟩) fun _ _ z => z
  · rw [if_neg hc] at P
    exact P.elim
theorem augOwn_noX : (fun a b h => (augOwn t F a b h).noX) = augOwn t F := by
  funext a b h
  unfold augOwn
  split
  · cases F [a, b] h <;> rfl
  · rfl
/-- x op= e -/
def dAugO (r : DX) (i : Nat) (fv : DE) : DS := fun s h => match s[i]? with
  | some (some a) => if a.nx = true then (fv s h).st s fun b h1 => (r a b h1).noX.st s fun z h2 => .nx (s.set i (some z)) h2 else .stuck
  | _ => .stuck
theorem sAugO {r : DX} {op : Operator} {i : Nat} {pos' pos : Pos} {value : Expr} {fv : DE} {x : Str} (hop : PIp X op (tIpX W (fun a b h => (r a b h).noX))) (hN : X.N.Nodup) (hi : X.N[i]? = some x) (hx : Loc X.env.scope x) (hv : PE X value (tD W M E fv)) (hm : M.ok i)
    (hf : X.fn x = true ∨ X.env.scope.names.lookup x = some .local := by first | exact .inl rfl | exact .inr rfl | assumption) : PS X (.AugAssign (.Name x pos') op value pos) (tS W M E (dAugO r i fv)) := psI (ps_aug hN hi hx hv hop hf) fun D σ H h => by
  obtain ⟨io, hp, as, rl, S, P⟩ := h
  unfold dAugO at P
  cases z : as[i]? with
  | none =>
    rw [z] at P
    exact P.elim
  | some o =>
    cases o with
    | none =>
      rw [z] at P
      exact P.elim
    | some a =>
      rw [z] at P
      dsimp only at P
      by_cases hn : a.nx = true
      · rw [if_pos hn] at P
        obtain ⟨v, e1, rv⟩ := M.var S z fun t fs q => by
          subst q
          cases hn
        refine ⟨v, e1, ?_⟩
        refine (stepS (rh := RV W) (f := fv) rl S P).imp fun yv H3 ⟨io3, hp3, b, e3, rl3, rb, P3⟩ => ?_
        refine ⟨io3, hp3, a, b, rl3, rv.mono e3, rb, fun σ' => ?_⟩
        cases z3 : r a b hp3 with
        | ok zz hp4 =>
          rw [z3] at P3
          show Pst W (RV W) _ σ' _ io3 H3 ((r a b hp3).noX)
          rw [z3]
          exact fun io4 H4 wv e4 rl4 rw4 => P3 io4 H4 _ e4 rl4 (M.set (M.mono (e3.trans e4) S) rw4 hm)
        | exc t fs h4 =>
          rw [z3] at P3
          exact P3.elim
        | stuck =>
          rw [z3] at P3
          exact P3.elim
      · rw [if_neg hn] at P
        exact P.elim
theorem sAugOwn {op : Operator} {i : Nat} {pos' pos : Pos} {value : Expr} {fv : DE} {y : Str} (H : HasO X.prog X.w X.mg X.base W j t (PySem.dunderI op.info.2) ps 2 F) (hr : Room k X.A) (hj : j ≤ k) (hK : X.K = W.K) (hN : X.N.Nodup) (hi : X.N[i]? = some y) (hx : Loc X.env.scope y) (hv : PE X value (tD W M E fv)) (hm : M.ok i)
    (hf : X.fn y = true ∨ X.env.scope.names.lookup y = some .local := by first | exact .inl rfl | exact .inr rfl | assumption) : PS X (.AugAssign (.Name y pos') op value pos) (tS W M E (dAugO (augOwn t F) i fv)) :=
  sAugO (by rw [augOwn_noX]; exact ipOwn H hr hj hK tkE0) hN hi hx hv hm hf
end
@[simp] theorem xAugO {r : DX} {i : Nat} {g : DE} {s : Sl} {h : Hep} : dAugO r i g s h = (match s[i]? with
  | some (some a) => if a.nx = true then (g s h).st s fun b h1 => (r a b h1).noX.st s fun z h2 => .nx (s.set i (some z)) h2 else .stuck
  | _ => .stuck) := rfl
@[simp] theorem xAugOwn {t : Nat} {F : DF} {a b : AV} {h : Hep} : augOwn t F a b h = if isT h t a = true then (F [a, b] h).noX else .stuck := rfl
end Dn
namespace Dn
open PySem PySem.Spec PyProof.Rows L2
/-- repr(a), a a datum -/
def reprL : DL := fun as h => match as with
  | [a] => match toD DD h a with
    | some d => if d.showable = true ∧ d.hasDict = false ∧ d.shown.length ≤ SZ ∧ d.depth ≤ 60 then some (.str d.shown, h) else none
    | none => none
  | _ => none
section
variable {W : Wd} {M : Md W} {E : WX} {X : Cx}
theorem call_repr_dat (hg : X.A.guards = some []) (hu : X.A.units + 65 < cLine) : CallR X (.builtin "repr") (fun xs H Q => ∃ v d, xs = [v] ∧ Dp X.K H v d ∧ d.showable = true ∧ d.hasDict = false ∧ d.shown.length ≤ sizeLine ∧ d.depth ≤ 60 ∧ Q (.str d.shown) H) := by
  intro pins s σ H xs us Q I r h
  obtain ⟨v, d, rfl, hd, h1, h2, h3, h4, q⟩ := h
  obtain ⟨u, rfl, ru⟩ := vals1 r
  obtain ⟨as, rd⟩ := Dp.reads I d v u hd ru
  have big : ∀ {b : Addr}, u = .ref b → wpAny (model X.prog X.w) X.A (call (.builtin "repr") [.ref b]) (EP X pins σ Q) X.xe s := fun {b} e => by
    subst e
    refine PySem.repr_of_reads' rd h1 (fun z => ?_) hg (by omega) (fun _ _ z => z) (fun h' t tk k => ⟨.str d.shown, H, I.kept k, ⟨t, rfl⟩, q⟩) h3
    rw [h2] at z
    cases z
  cases rd with
  | none =>
    simp only [PyData.shown] at q
    exact PySem.P.repr_of_none ⟨.str _, H, I.tok _, ⟨_, rfl⟩, q⟩
  | bool b =>
    simp only [PyData.shown] at q
    exact PySem.P.repr_of_bool ⟨.str _, H, I.tok _, ⟨_, rfl⟩, q⟩
  | int i t =>
    simp only [PyData.shown] at q
    refine PySem.P.repr_of_int ?_ ⟨.str _, H, I.tok _, ⟨_, rfl⟩, q⟩
    simpa [PyData.showable] using h1
  | str x t =>
    simp only [PyData.shown] at q h3
    exact PySem.P.repr_of_str ⟨.str _, H, I.tok _, ⟨_, rfl⟩, q⟩ h3
  | list _ _ _ _ => exact big rfl
  | tuple _ _ _ _ => exact big rfl
  | dict _ _ _ _ _ => exact big rfl
theorem cRepr (hK : X.K = W.K) (hg : X.A.guards = some []) (hu : X.A.units + 65 < cLine) : CallR X (.builtin "repr") (tl W reprL) := call_imp (call_repr_dat hg hu) fun xs H Q ⟨io, hp, as, rl, ra, P⟩ => by
  match as, ra, P with
  | [a], ra, P =>
    obtain ⟨x, rfl, r⟩ := one_inv ra
    have P' : Pop W (RV W) Q io H (match toD DD hp a with
      | some d => if d.showable = true ∧ d.hasDict = false ∧ d.shown.length ≤ SZ ∧ d.depth ≤ 60 then some (AV.str d.shown, hp) else none
      | none => none) := P
    cases e : toD DD hp a with
    | none =>
      rw [e] at P'
      exact P'.elim
    | some d =>
      rw [e] at P'
      by_cases c : d.showable = true ∧ d.hasDict = false ∧ d.shown.length ≤ SZ ∧ d.depth ≤ 60
      · have P2 : Pop W (RV W) Q io H (if d.showable = true ∧ d.hasDict = false ∧ d.shown.length ≤ SZ ∧ d.depth ≤ 60 then some (AV.str d.shown, hp) else none) := P'
        rw [if_pos c] at P2
        exact ⟨x, d, rfl, by rw [hK]; exact toD_in rl _ _ _ _ e r, c.1, c.2.1, szL c.2.2.1, c.2.2.2, P2.ok rl (.str _)⟩
      · have P2 : Pop W (RV W) Q io H (if d.showable = true ∧ d.hasDict = false ∧ d.shown.length ≤ SZ ∧ d.depth ≤ 60 then some (AV.str d.shown, hp) else none) := P'
        rw [if_neg c] at P2
        exact P2.elim
  | [], ra, P => exact P.elim
  | _ :: _ :: _, ra, P => exact P.elim
end
end Dn
namespace Dn
open PySem PySem.Spec PyProof.Rows L2
section
variable {P : Program} {w : World} {mg : Str → Option Value} {base : Heap} {W : Wd} {x qual : Str} {params : Arguments} {body : List Stmt} {scope : Scope} {dvs : List V} {kws : List (Str × V)} {f : Addr} {fd : FuncData}
theorem fnDG {N ps : List Str} {k n : Nat} {b : DS} (F : FunD W.K x qual params body scope dvs kws f fd) (S : FnScope N ps scope) (hn : ps.length = n)
    (hb : ∀ (cdv : Value) (A : Around) (outer : List Env) (s : Shared) (H : Hp) (E : XK), (A.deeper (envOfC qual scope s.heap.objs.size f cdv)).guards = some [] → Room k (A.deeper (envOfC qual scope s.heap.objs.size f cdv)) →
      Takes (cxD W P w mg base N qual scope f cdv A outer s H E) (wxE E) → PSs (cxD W P w mg base N qual scope f cdv A outer s H E) body (tS W (std W) (wxE E) b)) : FnG P w W.K mg base (L2.CX P w) (k + 1) f fd ps (spD W n (dFun N.length b)) := by
  have lenS : ∀ vs H Q E, spD W n (dFun N.length b) vs H Q E → vs.length = ps.length := fun vs H Q E ⟨io, hp, as, hl, _, r, _⟩ => by
    rw [← r.len, hl, hn]
  obtain ⟨oc, od, dV, kV, doc, pm, an, cdv, ct, osl, rfl, lk, hcd, _, _⟩ := F.ex
  refine ⟨lenS, fun A outer s H args us vs Q E hg hr e0 hbd r hsp => LamX.run_ofS lk hcd S hr e0 hbd r (lenS _ _ _ _ hsp) fun hr' => ⟨_, hb cdv A outer s H E hg hr' (takes_of rfl rfl rfl rfl), ?_⟩⟩
  obtain ⟨io, hp, as, hl, rl, ra, P⟩ := hsp
  refine ⟨io, hp, dStart N.length as, rl, start_rel ra rfl, ?_⟩
  unfold dFun at P
  cases e : b (dStart N.length as) hp with
  | nx s h =>
    rw [e] at P
    exact fun io' H' σ' e' rl' _ => P io' H' .non e' rl' .non
  | rt s h =>
    rw [e] at P
    exact P
  | bk s h =>
    rw [e] at P
    exact P.elim
  | ct s h =>
    rw [e] at P
    exact P.elim
  | exc t fs s h =>
    rw [e] at P
    exact fun io' H' σ' cls d e' rl' _ rx => P io' H' cls d e' rl' rx
  | stuck =>
    rw [e] at P
    exact P
end
section
variable {W : Wd} {M : Md W} {E : WX} {X : Cx} {k j n m q : Nat} {f : Addr} {fd : FuncData} {ps ks : List Str} {F : DF} {x : Str} {p pos : Pos} {e : Expr} {es : List Expr} {kws : List Keyword} {fa fk : DA} {ix : List Nat} {dfl : List AV} {bs : Bs}
theorem run_genG {pins : List (Addr × Obj)} {σ : L2.St} {H : Hp} {s : Shared} {Q : VK} {us ws : List Value} {vs zs : List V} {sp : Sp} {g : List Value → List Value → List Value} {gV : List V → List V → List V}
    (hF : FnG X.prog X.w X.K X.mg X.base (L2.CX X.prog X.w) j f fd ps sp) (hgd : X.A.guards = some []) (hr : Room j X.A) (hb : KBn X.K fd ps n ks g gV) (tk : Takes X E)
    (I : Inv X pins σ H s) (r : Vals vs us) (rz : Vals zs ws) (l1 : vs.length = n) (l2 : zs.length = ks.length) (h : sp (gV vs zs) H Q (WE E σ)) : wpAny (model X.prog X.w) X.A (call (.ref f) us (ks.zip ws)) (EP X pins σ Q) X.xe s := by
  have r2 := hb.rel r rz
  refine wpAny_call (codeAny_mono (hF.2 X.A X.stack s H ⟨us, ks.zip ws⟩ (g us ws) (gV vs zs) Q (WE E σ) hgd hr I.env0 (hb.to s us ws I.kIn (r.length.symm.trans l1) (rz.length.symm.trans l2)) r2 h) fun r s' hq => ?_)
  cases r with
  | error e => exact passAt tk σ pins H s e s' I hq
  | ok fl =>
    cases fl with
    | ret u => exact I.after hq
    | next => exact False.elim hq
    | brk => exact False.elim hq
    | cont => exact False.elim hq
theorem callHG (H : HasG X.prog X.w X.mg X.base W j x ps n F bs) (hgd : X.A.guards = some []) (i : Nat) (hi : bs[i]? = some (m, ks, ix, dfl)) (hq : ks.length = q) (hr : Room k X.A) (hj : j ≤ k) (hK : X.K = W.K) (tk : Takes X E)
    (ha : PA X (e :: es) (tDA W M E fa)) (hkw : PK X kws (tDA W M E fk)) (hg : Gl X x := by rfl) (hall : (backToKw pos (keywordEach kws X.env)).all (·.1.isSome) = true := by rfl) (hks : (backToKw pos (keywordEach kws X.env)).filterMap (·.1) = ks := by rfl)
    (hdb : (x == ("__debug__" : Str)) = false := by decide) (he : starEach (e :: es) X.env = (false, eval e X.env) :: starEach es X.env := by rfl)
    (hpl : ((backTo pos (starEach (e :: es) X.env)).any (·.1) || (backToKw pos (keywordEach kws X.env)).any (·.1.isNone)) = false := by rfl) :
    PE X (.Call (.Name x p) (e :: es) kws pos) (tD W M E (dCallC F m q n ix dfl fa fk)) := by
  subst hq
  obtain ⟨a, fd, h1, hkp, h3, h4⟩ := H
  obtain ⟨g, gV, kb, hg2⟩ := h4 _ (List.mem_of_getElem? hi)
  rw [← hK] at hkp h3 kb
  refine ⟨fun pins s σ H Q I h => ?_⟩
  refine wpAny_Call_Name_kw (ld_glob I hg h1 ?_ hdb)
  refine PySem.W.callWith_KW (h₀ := X.base) I.ok.mod.kin hkp hall (thn (ha.run pos pins s σ H _ I (args_in h)) fun us s1 ⟨vs, H1, I1, r, q⟩ => ?_) hpl he
  refine thn (hkw.run pos pins s1 σ H1 _ I1 q) fun ws s2 ⟨zs, H2, I2, rz, l1, l2, q2⟩ => ⟨I2.kIn, ?_⟩
  rw [hks]
  exact run_genG h3 hgd (hr.mono hj) kb tk I2 r rz l1 l2 (q2 gV hg2)
end
theorem law_spG {W : Wd} {P : Program} {w : World} {mg : Str → Option Value} {base : Heap} {CX : CXT} {k : Nat} {f : Addr} {fd : FuncData} {ps : List Str} {F : DF} (hT : W.T = []) (hF : FnG P w W.K mg base CX k f fd ps (spD W 1 F))
    (law : ∀ ns : List Int, ns.length ≤ 63 → ∃ h, F [.rol (ns.map .int)] [] = .ok (.bl true) h) : FnG P w W.K mg base CX k f fd ps (spL W.K) := hF.imp fun vs H Q E ⟨a, ns, e, hl, hO, hS, hQ⟩ => by
  subst e
  obtain ⟨h, e⟩ := law ns hl
  refine ⟨[], [], [.rol (ns.map .int)], rfl, ⟨rfl, List.nodup_nil, fun i a o hi => by simp at hi, fun p hp => by rw [hT] at hp; cases hp⟩, .cons (.rol ?_ (RVs.ints ns)) .nil, ?_⟩
  · rcases hS with (z | ⟨o, z⟩) | z
    · rcases hO a with q | ⟨o, xs, q⟩
      · rw [q] at z
        cases z
      · rw [q] at z
        cases z
    · exact .inl ⟨o, z⟩
    · exact .inr (.inr z)
  · rw [e]
    intro io' H' x _ _ r
    have e2 : x = .bl true := by
      cases r
      rfl
    subst e2
    exact hQ H'
/-- what is tracked at the beginning: the script, and the tables ts -/
def startH (ts : List Addr) (a : Addr) (ol : Option Obj) (xs : List V) : Hp := fun b =>
  if b ∈ ts then some (.tbl #[]) else if b = a then ol.map fun o => .frz o (.lst xs) else none
theorem law_run {P : Program} {w : World} {K : PySem.W.Frag} {mg mb : Str → Option Value} {CX : CXT} {fa a : Addr} {cs : List (Addr × Addr)} {s₁ : Shared} {vs : List Value} {ns : List Int}
    (KX : K.In s₁.heap) (hns : s₁.heap.Ns mainGlobals mg) (hb : s₁.heap.Ns builtinsNs mb) (hbb : ∀ x : Str, x ≠ "__name__" → mb x = bootBuiltins x) (hlim : s₁.heap.NoLimit) (hg : s₁.gens = #[])
    (hT : ∀ p ∈ cs, s₁.heap.get? p.2 = some { cls := .none, data := .fields #[] }) (nT : ∀ p ∈ cs, K.lookup p.2 = none) (C : ∀ p ∈ cs, PySem.W.CodeHd s₁.heap p.1 p.2)
    (hbm : ∃ (bm : Addr) (ob : Obj), mg "__builtins__" = some (.ref bm) ∧ bm ≠ builtinsNs ∧ s₁.heap.get? bm = some ob ∧ ob.cls = .type "module" ∧ ob.dict = some builtinsNs ∧ ob.data = .plain)
    (ha : s₁.heap.get? a = some { cls := .type "list", data := .seq vs.toArray }) (hi : IntsAre vs ns) (hl : ns.length ≤ sizeLine)
    (run : ∀ (base : Heap) (H : Hp), K.In base → base.Ns mainGlobals mg → (∀ p ∈ cs, LamX.TabB base mg p.1 p.2) → (∀ p ∈ cs, H p.2 = some (.tbl #[])) → (∀ b, H b = none ∨ (b ∈ cs.map (·.2) ∧ H b = some (.tbl #[])) ∨ ∃ o xs, H b = some (.frz o (.lst xs))) → SqL K H a (ns.map V.int) → Env0 P w K mg base callerA [] s₁ H →
      codeAny (model P w) callerA (.call (.ref fa) ⟨[.ref a], []⟩) (CR CX [] P w H s₁ (fun v _ => v = .bl true) fun _ _ _ => False) s₁)
    (hCX : ∀ H e s', CX [] H s₁ (fun _ _ _ => False) e s' → False) :
    codeAny (model P w) callerA (.call (.ref fa) ⟨[.ref a], []⟩) (fun r s' => r = .ok (.ret (.bool true)) ∧ OldK s₁.heap s'.heap ∧ s'.os = s₁.os ∧ AllBare s'.gens) s₁ := by
  have rv := vals_ints hi
  have tabs : ∀ b ∈ cs.map (·.2), s₁.heap.get? b = some { cls := .none, data := .fields #[] } := fun b m => by
    obtain ⟨p, hp, rfl⟩ := List.mem_map.mp m
    exact hT p hp
  have aT : a ∉ cs.map (·.2) := fun m => by
    have z := ha.symm.trans (tabs a m)
    have z2 : Data.seq vs.toArray _ = Data.fields #[] := congrArg Obj.data (Option.some.inj z)
    cases z2
  -- the script's own entry
  obtain ⟨ol, hol, hok0⟩ : ∃ ol : Option Obj, (ol = none → ∃ o, K.lookup a = some o) ∧ (∀ o, ol = some o → o = { cls := .type "list", data := .seq vs.toArray } ∧ K.lookup a = none) := by
    cases e : K.lookup a with
    | none => exact ⟨some { cls := .type "list", data := .seq vs.toArray }, (fun z => by cases z), fun o z => ⟨(Option.some.inj z).symm, rfl⟩⟩
    | some o => exact ⟨none, (fun _ => ⟨o, rfl⟩), fun o z => by cases z⟩
  have at_t : ∀ b ∈ cs.map (·.2), startH (cs.map (·.2)) a ol (ns.map V.int) b = some (.tbl #[]) := fun b m => if_pos m
  have at_n : ∀ b, b ∉ cs.map (·.2) → b ≠ a → startH (cs.map (·.2)) a ol (ns.map V.int) b = none := fun b m n => (if_neg m).trans (if_neg n)
  have at_a : startH (cs.map (·.2)) a ol (ns.map V.int) a = ol.map fun o => .frz o (.lst (ns.map V.int)) := (if_neg aT).trans (if_pos rfl)
  generalize hH : startH (cs.map (·.2)) a ol (ns.map V.int) = H at at_t at_n at_a
  have cases_ : ∀ b u, H b = some u → (b ∈ cs.map (·.2) ∧ u = .tbl #[]) ∨ (b = a ∧ ∃ o, ol = some o ∧ u = .frz o (.lst (ns.map V.int))) := fun b u e => by
    by_cases m : b ∈ cs.map (·.2)
    · exact .inl ⟨m, (Option.some.inj ((at_t b m).symm.trans e)).symm⟩
    · by_cases n : b = a
      · subst n
        rw [at_a] at e
        obtain ⟨o, eo, eu⟩ := Option.map_eq_some_iff.mp e
        exact .inr ⟨rfl, o, eo, eu.symm⟩
      · rw [at_n b m n] at e
        cases e
  have hOk : HOk P w H s₁.heap := fun b u e => by
    rcases cases_ b u e with ⟨m, rfl⟩ | ⟨rfl, o, eo, rfl⟩
    · exact tabs b m
    · obtain ⟨rfl, _⟩ := hok0 o eo
      exact ⟨ha, by rw [List.length_map]; exact hl, vs, _, rv, ha⟩
  have base_of : ∀ {b : Addr} {o : Obj}, s₁.heap.get? b = some o → H b = none → (hidT s₁.heap H).get? b = some o := fun e n => hidT_get e n
  have untr : ∀ {b : Addr} {o : Obj}, s₁.heap.get? b = some o → (∀ ws n, o.data ≠ .seq ws n) → o.data ≠ .fields #[] → H b = none := fun {b o} e h1 h2 => by
    cases q : H b with
    | none => rfl
    | some u =>
      exfalso
      rcases cases_ b u q with ⟨m, _⟩ | ⟨rfl, _⟩
      · have z := e.symm.trans (tabs b m)
        rw [Option.some.inj z] at h2
        exact h2 rfl
      · have z := e.symm.trans ha
        rw [Option.some.inj z] at h1
        exact h1 _ _ rfl
  have nsB : ∀ {b : Addr} {m : Str → Option Value}, s₁.heap.Ns b m → (hidT s₁.heap H).Ns b m := fun {b m} ⟨o, es, ep, e, d, r⟩ =>
    ⟨o, es, ep, base_of e (untr e (by intro ws n z; rw [d] at z; cases z) (by intro z; rw [d] at z; cases z)), d, r⟩
  have kB : K.In (hidT s₁.heap H) := fun b o e => base_of (KX b o e) (by
    cases q : H b with
    | none => rfl
    | some u =>
      exfalso
      rcases cases_ b u q with ⟨m, _⟩ | ⟨rfl, o2, eo, _⟩
      · obtain ⟨p, hp, rfl⟩ := List.mem_map.mp m
        rw [nT p hp] at e
        cases e
      · rw [(hok0 o2 eo).2] at e
        cases e)
  have TB : ∀ p ∈ cs, LamX.TabB (hidT s₁.heap H) mg p.1 p.2 := fun p hp => by
    refine ⟨?_, ?_, fun z => ?_⟩
    · obtain ⟨o, us, file, tf, flags, tg, inF, text, tt, e1, r1, r2, r3, more⟩ := C p hp
      refine ⟨o, us, file, tf, flags, tg, inF, text, tt, base_of e1 (untr e1 (by intro ws n z; rw [r2] at z; cases z) fun z => ?_), r1, r2, r3, more⟩
      rw [r2] at z
      cases z
      simp at r3
    · obtain ⟨bm, ob, b1, b2, b3, b4, b5, b6⟩ := hbm
      have pl : ∀ d, ob.data = d → d = .plain := fun d z => z.symm.trans b6
      refine ⟨bm, ob, b1, b2, fun q => ?_, fun q => ?_, base_of b3 (untr b3 (fun ws n z => by cases pl _ z) fun z => by cases pl _ z), b4, b5, b6⟩
      · obtain ⟨o, es, ep, e, hd, _⟩ := hns
        rw [q] at b3
        rw [Option.some.inj (e.symm.trans b3)] at hd
        cases pl _ hd
      · rw [q] at b3
        rw [Option.some.inj (b3.symm.trans (hT p hp))] at b6
        cases b6
    · obtain ⟨o, es, ep, e, hd, _⟩ := hns
      rw [z] at e
      rw [Option.some.inj (e.symm.trans (hT p hp))] at hd
      cases hd
  have hM : L2.Mod K mg (hidT s₁.heap H) := ⟨kB, nsB hns, ⟨mb, nsB hb, hbb⟩, let ⟨mc, h1, h2⟩ := hlim; ⟨mc, nsB h1, h2⟩⟩
  have env : Env0 P w K mg (hidT s₁.heap H) callerA [] s₁ H := ⟨rfl, hM, fun b o e => of_hidT e, Nat.le_of_eq (hidT_size _ _), trivial, (fun b z => absurd (show b ∈ ([] : List Addr) from z) (by simp)), hOk, .of_eq hg⟩
  have script : SqL K H a (ns.map V.int) := by
    cases eo : ol with
    | none =>
      obtain ⟨o, e⟩ := hol eo
      have z := (KX a o e).symm.trans ha
      rw [Option.some.inj z] at e
      exact .inr ⟨_, vs.toArray, _, e, rfl, rfl, rfl, by rw [List.size_toArray, hi.length]; exact hl, by simpa using rv⟩
    | some o => exact .inl (.inr ⟨o, by rw [at_a, eo]; rfl⟩)
  have only : ∀ b, H b = none ∨ (b ∈ cs.map (·.2) ∧ H b = some (.tbl #[])) ∨ ∃ o xs, H b = some (.frz o (.lst xs)) := fun b => by
    cases q : H b with
    | none => exact .inl rfl
    | some u =>
      rcases cases_ b u q with ⟨m, rfl⟩ | ⟨_, o, _, rfl⟩
      · exact .inr (.inl ⟨m, rfl⟩)
      · exact .inr (.inr ⟨_, _, rfl⟩)
  refine codeAny_mono (run _ H kB (nsB hns) TB (fun p hp => at_t _ (List.mem_map.mpr ⟨p, hp, rfl⟩)) only script env) fun r s' h => ?_
  cases r with
  | error e => exact (hCX H e s' h).elim
  | ok fl =>
    cases fl with
    | next => exact h.elim
    | brk => exact h.elim
    | cont => exact h.elim
    | ret u =>
      obtain ⟨v, H', os, bare, un, hok', r', q⟩ := h
      obtain rfl : v = .bl true := q
      obtain rfl : u = Value.bool true := r'
      have kept : ∀ b o, b ∉ cs.map (·.2) → s₁.heap.get? b = some o → s'.heap.get? b = some o := fun b o nb e => by
        cases q : H b with
        | none => exact un.keep b o e q (fun z => absurd (show b ∈ ([] : List Addr) from z) (by simp)) (by simp)
        | some u =>
          rcases cases_ b u q with ⟨m, _⟩ | ⟨rfl, o2, eo, rfl⟩
          · exact absurd m nb
          · have z1 := (hOk _ _ q).1
            have z2 := (hok' _ _ (un.frzs _ _ _ q)).1
            rw [Option.some.inj (e.symm.trans z1)]
            exact z2
      have more : ∀ p ∈ cs, ∃ us : Array Value, s'.heap.get? p.2 = some { cls := .none, data := .fields us } := fun p hp => by
        obtain ⟨us, z⟩ := un.tbls p.2 #[] (at_t _ (List.mem_map.mpr ⟨p, hp, rfl⟩))
        exact ⟨_, hok' p.2 _ z⟩
      refine ⟨rfl, ⟨fun b o e => ?_, fun b o e => ?_⟩, os, bare⟩
      · by_cases m : b ∈ cs.map (·.2)
        · obtain ⟨p, hp, rfl⟩ := List.mem_map.mp m
          obtain ⟨us, hm⟩ := more p hp
          obtain rfl := Option.some.inj (e.symm.trans (hT p hp))
          exact .inr (.inl ⟨((C p hp).tab (hT p hp)).isCodeTable, rfl, #[], us, rfl, by rw [Array.empty_append]; exact hm⟩)
        · exact .inl (kept b o m e)
      · by_cases m : b ∈ cs.map (·.2)
        · obtain ⟨p, hp, rfl⟩ := List.mem_map.mp m
          obtain ⟨us, hm⟩ := more p hp
          exact ⟨_, hm⟩
        · exact ⟨o, kept b o m e⟩
theorem walk_ofG {l : PySem.W.OpenLaw} {n k : Nat} {q : Program} {loose : List Str} {XP : (Str → Option Value) → Heap → Prop} {YP : World → Heap → Prop} {d : DefRec} {x : Str}
    (hn : l.most = some n) (hn2 : n ≤ sizeLine) (hdf : d.params.defaults = []) (hr : Room k callerA)
    (F : ∀ (w : World) (mg : Str → Option Value) (fa : Addr) (h : Heap), YP w h → h.Ns mainGlobals mg → mg d.name = some (.ref fa) →
      ∃ (K : PySem.W.Frag) (fd : FuncData) (sp : Sp), K.In h ∧ (∀ (s : Shared) (u : Value), BindsTo s fd ⟨[u], []⟩ [(x, u)]) ∧
        (∀ (H : Hp) (a : Addr) (ns : List Int), ns.length ≤ n → Only H → SqL K H a (ns.map V.int) → sp [.ref a] H (fun v _ => v = .bl true) fun _ _ _ => False) ∧
        ∀ base : Heap, K.In base → base.Ns mainGlobals mg → FnG l.prog w K mg base (L2.CX l.prog w) k fa fd [x] sp) :
    PySem.W.WalkO q loose XP YP l.row.toRowW d [] (fun f vs => PySem.call f vs) := by
  refine Att.attach_callB hn hdf fun w s₀ s₁ mg mb fa o pm cd doc a vs ns G Y ho hd hcd hmg hobj hints hlen hbits hg => ?_
  obtain ⟨K, fd, sp, KX, hb, hsp, hF⟩ := F w mg fa _ Y G.T.g hmg
  exact law_run (cs := []) KX G.T.g G.T.b G.T.builtins G.T.nolimit hg (by simp) (by simp) (by simp) G.T.bmain hobj hints (Nat.le_trans hlen hn2) (fun base H k1 k2 _ _ hO hS e0 =>
    (hF base k1 k2).2 callerA [] s₁ H ⟨[.ref a], []⟩ [.ref a] [.ref a] _ _ rfl hr e0 (hb s₁ (.ref a)) (.cons rfl .nil) (hsp H a ns hlen (fun b => by
      rcases hO b with z | z | z
      · exact .inl z
      · exact absurd z.1 (by simp)
      · exact .inr z) hS)) fun H e s' ⟨_, _, _, _, _, _, _, _, _, _, _, _, z⟩ => z
end Dn
namespace Dn
open PySem PySem.Spec PyProof.Rows L2
def starDK (g : DA) (s : Sl) (o : Option (Nat × List (Key × AV))) (h : Hep) : R (List AV) := match o with
  | some (_, kvs) => (g s h).bind fun b h2 => .ok ((kvs.map fun kv => ofKey kv.1) ++ b) h2
  | none => .stuck
/-- *d, the keys -/
def dStarK (f : DE) (g : DA) : DA := fun s h => (f s h).bind fun a h1 => starDK g s (dicAt h1 a) h1
theorem keys_rvs {W : Wd} {io : List Addr} {H : Hp} : ∀ {kvs : List (Key × AV)} {vs : List (Key × V)}, RKs W io H kvs vs → RVs W io H (kvs.map fun kv => ofKey kv.1) (vs.map fun kv => kV kv.1)
  | _, _, .nil => .nil
  | _, _, .cons (q := q) r t => .cons (by cases q with
    | inl i => exact .int i
    | inr x => exact .str x) (keys_rvs t)
section
variable {W : Wd} {M : Md W} {E : WX} {X : Cx} {e : Expr} {es : List Expr} {f : DE} {fa : DA}
theorem star_atK {pins : List (Addr × Obj)} {σ : L2.St} {H : Hp} {s : Shared} {p : Addr} {kvs : List (Key × V)} {Q : List Value → Shared → Prop} (hc : X.calm = true) (I : Inv X pins σ H s) (hd : H p = some (.dK kvs))
    (q : ∀ (us : List Value) (h' : Heap) (tk : Nat), Vals (kvs.map fun kv => kV kv.1) us → Inv X pins σ H { s with heap := h', toks := tk } → Q us { s with heap := h', toks := tk }) : PySem.W.StarOf (model X.prog X.w) X.A X.xe (.ref p) Q s := by
  obtain ⟨z, lo, vs, rel, dd⟩ := dk_rd I.hok (.inl hd)
  obtain ⟨ep, hat⟩ := dd.dictAt
  have ek : (kvs.map fun kv => kV kv.1) = vs.map fun p => kV p.1 := by
    have e := congrArg (List.map kV) rel.keys
    rw [List.map_map, List.map_map] at e
    exact e
  have K := PySem.W.kdl_dict (prog := X.prog) (w := X.w) (knd := mixKind X.prog X.w) (kvs := vs) (ep := ep) lo
  have c : wpAny (model X.prog X.w) X.A (collect (.ref p)) Q X.xe s := PySem.W.kdu_collect K (I.ok.hd hc) hat (by rw [← rel.length]; exact z) fun h' tk acc hk hacc => by
    have hv : Vals (vs.map fun p => kV p.1) acc.toList := keys_at (by rw [Array.length_toList]; exact hacc.1) fun j v e => hacc.2 j v (by rw [← Array.getElem?_toList]; exact e)
    exact q _ h' tk (by rw [ek]; exact hv) (I.kept hk)
  unfold PySem.W.StarOf notIterableAtAll
  exact wpAny_bind (wpAny_specialOf (K.type s hat) PySem.F.slot_dict_iter.lookup (wpAny_pure ⟨rfl, c⟩))
theorem starKD {p : Pos} (hc : X.calm = true) (he : PE X e (tD W M E f)) (hr : PA X es (tDA W M E fa)) (hs : starEach (.Starred e p :: es) X.env = (true, eval e X.env) :: starEach es X.env := by rfl) : PA X (.Starred e p :: es) (tDA W M E (dStarK f fa)) := by
  refine ⟨fun pos pins s σ H Q I h => ?_⟩
  obtain ⟨io, hp, as, rl, S, P⟩ := h
  refine PySem.W.items_star ?_ hs
  refine thn (he.run pins s σ H _ I (step (rh := RV W) (f := f) rl S P)) fun v s1 ⟨x, H1, I1, rx, io2, hp2, a, e2, rl2, ra, P2⟩ => ?_
  cases z : dicAt hp2 a with
  | none =>
    rw [z] at P2
    exact P2.elim
  | some q =>
    obtain ⟨n, kvs⟩ := q
    rw [z] at P2
    obtain ⟨d, vs, rfl, ea, hi, hn, hd, rk⟩ := dicAt_in z rl2 ra
    cases (show v = Value.ref d from rx)
    refine star_atK hc I1 hd fun us h' tk r' I2 => ?_
    refine thn (hr.run pos pins _ σ H1 _ I2 (step (rh := RVs W) (f := fa) rl2 (M.mono e2 S) P2)) fun ws s3 ⟨zs, H3, I3, rz, io5, hp5, b, e5, rl5, rb, P5⟩ => ?_
    exact ⟨_, H3, I3, r'.append rz, P5.ok rl5 (((keys_rvs rk).mono e5).app rb)⟩
end
@[simp] theorem starDK_some {ga : DA} {s : Sl} {n : Nat} {kvs : List (Key × AV)} {h : Hep} : starDK ga s (some (n, kvs)) h = (ga s h).bind fun b h2 => .ok ((kvs.map fun kv => ofKey kv.1) ++ b) h2 := rfl
@[simp] theorem xStarK {f : DE} {ga : DA} {s : Sl} {h : Hep} : dStarK f ga s h = (f s h).bind fun a h1 => starDK ga s (dicAt h1 a) h1 := rfl
end Dn
namespace Dn
open PySem PySem.Spec PyProof.Rows L2
def lvK (o : Option (Nat × List (Key × AV))) (h : Hep) : R AV := match o with
  | some (_, kvs) => .ok (.ref h.length) (h ++ [.lst (kvs.map (·.2))])
  | none => .stuck
def dLv (fo : DE) : DE := fun s h => (fo s h).bind fun o h1 => lvK (dicAt h1 o) h1
def updK (o e : Option (Nat × List (Key × AV))) (h : Hep) : R AV := match o, e with
  | some (n, kvs), some (m, more) => if n ≠ m ∧ kvs.length + more.length ≤ SZ then .ok .non (h.set n (.dK (mergeA kvs more))) else .stuck
  | _, _ => .stuck
def dUpd (fo fe : DE) : DE := fun s h => (fo s h).bind fun o h1 => match dicAt h1 o with
  | some _ => (fe s h1).bind fun e h2 => updK (dicAt h2 o) (dicAt h2 e) h2
  | none => .stuck
theorem vals_rvs {W : Wd} {io : List Addr} {H : Hp} : ∀ {kvs : List (Key × AV)} {vs : List (Key × V)}, RKs W io H kvs vs → RVs W io H (kvs.map (·.2)) (vs.map (·.2))
  | _, _, .nil => .nil
  | _, _, .cons r t => .cons r (vals_rvs t)
theorem rks_len {W : Wd} {io : List Addr} {H : Hp} : ∀ {kvs : List (Key × AV)} {vs : List (Key × V)}, RKs W io H kvs vs → kvs.length = vs.length
  | _, _, .nil => rfl
  | _, _, .cons r t => congrArg (· + 1) (rks_len t)
theorem kv_vals {κ : Type} : ∀ {kvs : List (κ × V)} {vs : List (κ × Value)}, KV kvs vs → Vals (kvs.map (·.2)) (vs.map (·.2))
  | _, _, .nil => .nil
  | _, _, .cons r t => .cons r.2 (kv_vals t)
def tListVals (te : TE) : TE := fun σ H Q => te σ H fun x H1 => ∃ (d : Addr) (kvs : List (Key × V)), x = .ref d ∧ H1 d = some (.dK kvs) ∧ ∀ p, H1 p = none → Q (.ref p) (upd H1 p (.lst (kvs.map (·.2))))
def tDUpd (td ty : TE) : TE := fun σ H Q => td σ H fun x H1 => ∃ a, x = .ref a ∧ IsD H1 a ∧ ty σ H1 fun y H2 => ∃ (kvs : List (Key × V)) (b : Addr) (more : List (Key × V)), H2 a = some (.dK kvs) ∧ y = .ref b ∧ H2 b = some (.dK more) ∧ a ≠ b ∧ kvs.length + more.length ≤ sizeLine ∧ Q .non (upd H2 a (.dK (mergeK kvs more)))
section
variable {X : Cx} {e o : Expr} {te td ty : TE} {p apos cpos pos : Pos}
theorem pe_listVals (hc : X.calm = true) (he : PE X e te) (hg : Gl X "list") (hm : X.mg "list" = none) (hv : bootBuiltins "list" = some (.type "list")) (hbase : attributeBase e "values" X.env (eval e X.env) = eval e X.env := by rfl) (hline : (apos.endLine == cpos.line) = true := by rfl)
    (hs : starEach [.Call (.Attribute e "values" apos) [] [] cpos] X.env = (false, eval (.Call (.Attribute e "values" apos) [] [] cpos) X.env) :: starEach [] X.env := by rfl) :
    PE X (.Call (.Name "list" p) [.Call (.Attribute e "values" apos) [] [] cpos] [] pos) (tListVals te) := by
  refine ⟨fun pins s σ H Q I hq => ?_⟩
  refine wpAny_Call_Name_kw (ld_blt I hg hm hv ?_)
  refine PyProof.Rows.callWith_type1 ?_ hs rfl
  rw [hs]
  show wpAny _ _ (spliced ((false, eval (.Call (.Attribute e "values" apos) [] [] cpos) X.env) :: backTo pos (starEach [] X.env))) _ _ s
  refine Calls.spliced_cons ?_
  refine wpAny_Call_method (T := "dict") (id := "dict.values") hbase rfl hline F.plainAttrs_dict F.slot_dict_values F.type_dict_values (thn (he.run pins s σ H _ I hq) fun u s1 ⟨x, H1, I1, rx, d, kvs, ex, hd, q⟩ => ?_)
  subst ex
  obtain rfl : u = Value.ref d := rx
  obtain ⟨hz, hs0, vs, kv, hdo⟩ := I1.hok d _ hd
  obtain ⟨ep, hat⟩ := hdo.dictAt
  have lk : kvs.length = vs.length := Paired.length kv
  have I2 : Inv X pins σ H1 { s1 with heap := s1.heap.push { cls := .type "dict_values", data := .fields #[.ref d] } } := I1.kept (t' := s1.toks) fun b ob q => Heap.get?_push_of_some _ q
  refine ⟨hdo.typeIs, hdo.mapOf.noDict, ?_⟩
  show wpAny _ _ (callWith cpos (.builtin "dict.values") [.ref d] [] []) _ X.xe s1
  refine method_meetsIn F.slot_dict_values F.entry_dict_values rfl (PySem.evalArgs_none ⟨rfl, hdo.typeIs, F.args_dict_values_1 _, _, meets_dict_values (mixKind X.prog X.w) d hs0, ⟨vs, hdo⟩, ?_⟩)
  refine Calls.spliced_nil ?_
  refine PySem.W.kdl_call (PySem.W.kdl_values (knd := mixKind X.prog X.w) (kvs := vs) (ep := ep)) (I1.ok.hd hc) ⟨⟨_, Heap.get?_push_size _ rfl, rfl, rfl⟩, hat.push _⟩ (by omega) fun h' tk acc c hk hS hacc => ?_
  have ev : acc.toList = vs.map (·.2) := PySem.W.kdl_vals_eq acc.toList (by rw [Array.length_toList]; exact hacc.1) fun j v e => hacc.2 j v (by rw [← Array.getElem?_toList]; exact e)
  refine ⟨.ref _, upd H1 _ (.lst (kvs.map (·.2))), I2.laid (t' := tk) hk (Nat.le_refl _)
    (show ObjOk X.prog X.w _ _ _ (.lst (kvs.map (·.2))) from ⟨by rw [List.length_map]; exact hz, acc.toList, c, by rw [ev]; exact kv_vals kv, by rw [Array.toArray_toList]; exact hS⟩), rfl, q _ (I2.hok.fresh (Nat.le_refl _))⟩
theorem d_update {pins : List (Addr × Obj)} {σ : L2.St} {H : Hp} {s : Shared} {a b : Addr} {kvs more : List (Key × V)} {A : Around} {E : Value → Shared → Prop} {Q : Value → Shared → Prop} (I : Inv X pins σ H s) (e : H a = some (.dK kvs)) (e2 : H b = some (.dK more)) (ne : a ≠ b) (l : kvs.length + more.length ≤ sizeLine)
    (h : ∀ s', Inv X pins σ (upd H a (.dK (mergeK kvs more))) s' → Q .none s') : wpAny (model X.prog X.w) A (call (.builtin "dict.update") [.ref a, .ref b]) Q E s := by
  obtain ⟨z, hd, vs, rel, dd⟩ := dk_of I.hok e
  obtain ⟨z2, hd2, vs2, rel2, dd2⟩ := dk_of I.hok e2
  refine call_meetsIn PySem.F.slot_dict_update dd.typeIs PySem.F.entry_dict_update (PySem.F.args_dict_update_2 _ _) (PySem.meets_dict_update (mixKind X.prog X.w) a b ne hd2) ⟨vs, vs2, dd, dd2, (by rw [← Paired.length rel, ← Paired.length rel2]; exact l), fun h' dd' _ hs => h _ ?_⟩
  have he : ∃ q, h'.get? a = some q := let ⟨q, _, _, hq, _⟩ := dd'; ⟨q, hq⟩
  exact d_write (t' := s.toks) I (by rw [e]; exact True.intro) hs he (dk_new (Nat.le_trans (length_mergeK more kvs) l) hd (KV.merge rel2 rel) dd')
theorem pe_dupd (ho : PE X o td) (he : PE X e ty) (m : M1 X o "update" apos e cpos) : PE X (.Call (.Attribute o "update" apos) [e] [] cpos) (tDUpd td ty) := by
  refine ⟨fun pins s σ H Q I h => ?_⟩
  refine wpAny_Call_method m.base m.few m.line PySem.F.plainAttrs_dict PySem.F.slot_dict_update PySem.F.type_dict_update (thn (ho.run pins s σ H _ I h) fun u s1 ⟨x, H1, I1, rx, a, ex, d, q1⟩ => ?_)
  subst ex
  obtain rfl : u = Value.ref a := rx
  obtain ⟨t1, t2, _⟩ := isD_at I1 d
  refine ⟨t1, t2, ?_⟩
  rw [m.trees]
  refine Calls.callWith_builtin rfl (Calls.evalArgs_plain (Calls.spliced_cons (thn (he.run pins s1 σ H1 _ I1 q1) fun iv s2 ⟨y, H2, I2, ry, kvs, b, more, ea, ey, eb, ne, l, q2⟩ => Calls.spliced_nil ?_)))
  subst ey
  obtain rfl : iv = Value.ref b := ry
  exact d_update I2 ea eb ne l fun s3 I3 => ⟨.non, _, I3, rfl, q2⟩
end
section
variable {W : Wd} {M : Md W} {E : WX} {X : Cx} {o e : Expr} {fo fe : DE} {p apos cpos pos : Pos}
theorem lvD (hc : X.calm = true) (hm : X.mg "list" = none) (hv : bootBuiltins "list" = some (.type "list")) (he : PE X e (tD W M E fo)) (hg : Gl X "list" := by rfl) (hbase : attributeBase e "values" X.env (eval e X.env) = eval e X.env := by rfl) (hline : (apos.endLine == cpos.line) = true := by rfl)
    (hs : starEach [.Call (.Attribute e "values" apos) [] [] cpos] X.env = (false, eval (.Call (.Attribute e "values" apos) [] [] cpos) X.env) :: starEach [] X.env := by rfl) :
    PE X (.Call (.Name "list" p) [.Call (.Attribute e "values" apos) [] [] cpos] [] pos) (tD W M E (dLv fo)) := peI (pe_listVals hc he hg hm hv hbase hline hs) fun σ H Q ⟨io, hp, as, rl, S, P⟩ => by
  refine (step (rh := RV W) (rh' := RV W) (f := fo) rl S P).imp fun x H1 ⟨io2, hp2, a, e2, rl2, ra, P2⟩ => ?_
  cases z : dicAt hp2 a with
  | none =>
    rw [z] at P2
    exact P2.elim
  | some q =>
    obtain ⟨n, kvs⟩ := q
    rw [z] at P2
    obtain ⟨d, vs, rfl, ea, hi, hn, hd, rk⟩ := dicAt_in z rl2 ra
    refine ⟨d, vs, rfl, hd, fun L hL => ?_⟩
    have ex : Ext W io2 H1 (io2 ++ [L]) (upd H1 L (.lst (vs.map (·.2)))) := Ext.new io2 _ hL [L]
    have rl3 : Rl W (io2 ++ [L]) (hp2 ++ [.lst (kvs.map (·.2))]) (upd H1 L (.lst (vs.map (·.2)))) := rl2.new hL (.lst ((vals_rvs rk).mono ex))
    have at_ : (io2 ++ [L])[hp2.length]? = some L := by
      rw [← rl2.len]
      simp
    exact P2 _ _ _ ex rl3 (.ref at_)
theorem updD (ho : PE X o (tD W M E fo)) (he : PE X e (tD W M E fe)) (m : M1 X o "update" apos e cpos := by exact ⟨rfl, rfl, rfl, rfl⟩) : PE X (.Call (.Attribute o "update" apos) [e] [] cpos) (tD W M E (dUpd fo fe)) := peI (pe_dupd ho he m) fun σ H Q ⟨io, hp, as, rl, S, P⟩ => by
  refine (step (rh := RV W) (f := fo) rl S P).imp fun x H1 ⟨io2, hp2, a, e2, rl2, ra, P2⟩ => ?_
  cases z : dicAt hp2 a with
  | none =>
    simp only [z] at P2
    exact P2.elim
  | some q =>
    obtain ⟨n, kvs⟩ := q
    simp only [z] at P2
    obtain ⟨d, vs, rfl, rfl, hi, hk, hd, rk⟩ := dicAt_in z rl2 ra
    refine ⟨d, rfl, .inl ⟨vs, .inl hd⟩, (step (rh := RV W) (f := fe) rl2 (M.mono e2 S) P2).imp fun y H3 ⟨io3, hp3, b, e3, rl3, rb, P3⟩ => ?_⟩
    cases z3 : dicAt hp3 (.ref n) with
    | none =>
      rw [z3] at P3
      exact P3.elim
    | some q3 =>
      obtain ⟨n3, kvs3⟩ := q3
      rw [z3] at P3
      cases z4 : dicAt hp3 b with
      | none =>
        rw [z4] at P3
        exact P3.elim
      | some q4 =>
        obtain ⟨n4, kvs4⟩ := q4
        rw [z4] at P3
        obtain ⟨p3, vs3, ep, en, hi3, hk3, hd3, rk3⟩ := dicAt_in z3 rl3 (.ref (e3.at hi))
        obtain ⟨p4, vs4, ep4, en4, hi4, hk4, hd4, rk4⟩ := dicAt_in z4 rl3 rb
        cases ep
        cases en
        subst ep4
        simp only [updK] at P3
        split at P3
        · rename_i c
          have l3 := rks_len rk3
          have l4 := rks_len rk4
          have ne : d ≠ p4 := fun z => by
            subst z
            exact c.1 ((List.getElem?_inj (List.getElem?_eq_some_iff.mp hi3).1 rl3.nd).mp (hi3.trans hi4.symm))
          have es : Ext W io3 H3 io3 (upd H3 d (.dK (mergeK vs3 vs4))) := Ext.set _ hd3 trivial
          refine ⟨vs3, p4, vs4, hd3, rfl, hd4, ne, szL (by omega), P3 io3 _ .non es (rl3.set hi3 hd3 trivial (.dK ((RKs.merge rk4 rk3).mono es))) .non⟩
        · exact P3.elim
end
@[simp] theorem xLv {f : DE} {s : Sl} {h : Hep} : dLv f s h = (f s h).bind fun o h1 => lvK (dicAt h1 o) h1 := rfl
@[simp] theorem lvK_some {n : Nat} {kvs : List (Key × AV)} {h : Hep} : lvK (some (n, kvs)) h = .ok (.ref h.length) (h ++ [.lst (kvs.map (·.2))]) := rfl
theorem upd_ok {fo fe : DE} {s : Sl} {h h2 : Hep} {n m : Nat} {kvs kvs2 more : List (Key × AV)} (eo : fo s h = .ok (.ref n) h) (e1 : h[n]? = some (.dK kvs2)) (ee : fe s h = .ok (.ref m) h2) (e2 : h2[n]? = some (.dK kvs)) (e3 : h2[m]? = some (.dK more)) (ne : n ≠ m) (l : kvs.length + more.length ≤ 1000000) : dUpd fo fe s h = .ok .non (h2.set n (.dK (mergeA kvs more))) := by
  have z : SZ = 1000000 := rfl
  simp [dUpd, eo, dicAt, e1, ee, e2, e3, updK, ne, show kvs.length + more.length ≤ SZ by omega]
end Dn
namespace Dn
open PySem PySem.Spec PyProof.Rows L2
def rngC (lo c : Int) (n : Nat) : List AV := (List.range n).map fun i => .int (lo + (i : Nat) * c)
def rgVC (lo c : Int) (n : Nat) : List V := (List.range n).map fun i => V.int (lo + (i : Nat) * c)
/-- how many -/
def rgN (i j c : Int) : Nat := (if i < j then (j - i - 1) / c + 1 else 0).toNat
def Rg3 (i j c : Int) : Prop := 0 ≤ i ∧ i < 2 ^ 40 ∧ 0 ≤ j ∧ j < 2 ^ 40 ∧ 0 < c ∧ c < 2 ^ 20 ∧ rgN i j c ≤ SZ
instance (i j c : Int) : Decidable (Rg3 i j c) := by
  unfold Rg3
  infer_instance
def lr3L : DL := fun as h => match as with
  | [.int i, .int j, .int c] => if Rg3 i j c then some (.ref h.length, h ++ [.lst (rngC i c (rgN i j c))]) else none
  | _ => none
def dRg3 (f : DA) : DI := fun s h => (f s h).bind fun as h1 => match as with
  | [.int i, .int j, .int c] => if Rg3 i j c then .ok (.fix (rngC i c (rgN i j c))) h1 else .stuck
  | _ => .stuck
theorem rg3_size {i j c : Int} (h : Rg3 i j c) : Builtin.Range.rangeSize i j c = (rgN i j c : Nat) := by
  obtain ⟨_, _, _, _, h5, _, _⟩ := h
  unfold Builtin.Range.rangeSize rgN
  rw [if_pos h5]
  split
  · rename_i q
    have : 0 ≤ (j - i - 1) / c := Int.ediv_nonneg (by omega) (by omega)
    omega
  · rfl
theorem rg3_ok {i j c : Int} (h : Rg3 i j c) : RgC i j c (rgN i j c) := by
  have s := rg3_size h
  obtain ⟨h1, h2, h3, h4, h5, h6, h7⟩ := h
  have z : SZ = 1000000 := rfl
  refine ⟨by omega, by omega, ?_, s⟩
  unfold Builtin.Range.small
  rw [s, if_pos h5]
  have n0 : ((rgN i j c : Nat) : Int) ≤ 1000000 := by omega
  simp only [Builtin.Range.rangeFitsLong, Bool.and_eq_true, Bool.or_eq_true, decide_eq_true_eq]
  exact ⟨⟨⟨⟨by omega, by omega⟩, by omega⟩, by omega⟩, .inr (by omega)⟩
theorem lrC_vals (lo c : Int) (n : Nat) {W : Wd} {io : List Addr} {H : Hp} : RVs W io H (rngC lo c n) (rgVC lo c n) := by
  unfold rngC rgVC
  generalize List.range n = l
  induction l with
  | nil => exact .nil
  | cons a r ih => exact .cons (.int _) ih
theorem src_rangeC {W : Wd} {io : List Addr} {H : Hp} {lo c : Int} {n : Nat} : RSrc W io H (.fix (rngC lo c n)) (Itc lo c n) := by
  refine src_fixed (lrC_vals lo c n) (fun i H' _ h => ?_) fun i v H' _ h => ?_
  · unfold rgVC at h
    rw [List.length_map, List.length_range] at h
    exact h
  · unfold rgVC at h
    rw [List.getElem?_map] at h
    by_cases hi : i < n
    · rw [List.getElem?_range hi] at h
      have h := Option.some.inj h
      subst h
      exact ⟨hi, fun w H2 y => y⟩
    · rw [List.getElem?_eq_none (by simpa using hi)] at h
      cases h
theorem vals_rgC {a c : Int} {n : Nat} {acc : Array Value} (h : ItemsOf (fun i v => ∃ t, v = .int (a + i * c) t) acc n) : Vals (rgVC a c n) acc.toList := by
  have e : acc.toList.length = n := by rw [Array.length_toList]; exact h.1
  unfold rgVC
  rw [← e]
  refine vals_of_get acc.toList _ fun j u hj => ?_
  obtain ⟨t, rfl⟩ := h.2 j u (by rw [← hj, Array.getElem?_toList])
  exact ⟨t, rfl⟩
section
variable {W : Wd} {M : Md W} {E : WX} {X : Cx} {tg : Expr}
theorem rg3D {a b c : Expr} {fa : DA} {p pos : Pos} (hg : Gl X "range") (hm : X.mg "range" = none) (ha : PA X [a, b, c] (tDA W M E fa)) (hs : starEach [a, b, c] X.env = (false, eval a X.env) :: starEach [b, c] X.env := by rfl) (hpl : (backTo pos (starEach [b, c] X.env)).any (·.1) = false := by rfl) :
    PI X tg (.Call (.Name "range" p) [a, b, c] [] pos) (tG W M (RSrc W) E (dRg3 fa)) :=
  piI (pi_range3 hg hm ha hs hpl) fun σ H Q ⟨io, hp, as, rl, S, P⟩ => (step (rh := RVs W) (f := fa) rl S P).imp fun xs H1 ⟨io2, hp2, bs, e2, rl2, ra, P2⟩ => by
    match bs, ra, P2 with
    | [.int i, .int j, .int k], .cons (.int _) (.cons (.int _) (.cons (.int _) .nil)), P2 =>
      have P3 : Pst W (RSrc W) E σ Q io2 H1 (if Rg3 i j k then .ok (.fix (rngC i k (rgN i j k))) hp2 else .stuck) := P2
      by_cases h : Rg3 i j k
      · rw [if_pos h] at P3
        exact ⟨i, j, k, _, rfl, rg3_ok h, Pst.ok P3 rl2 src_rangeC⟩
      · rw [if_neg h] at P3
        exact P3.elim
theorem lr3D {a b c : Expr} {fa : DA} {p q pos pos2 : Pos} (hc : X.calm = true) (hl : X.mg "list" = none) (hm : X.mg "range" = none) (ha : PA X [a, b, c] (tDA W M E fa)) (hg : Gl X "list" := by rfl) (hg2 : Gl X "range" := by rfl) (hs : starEach [a, b, c] X.env = (false, eval a X.env) :: starEach [b, c] X.env := by rfl) (hpl : (backTo pos (starEach [b, c] X.env)).any (·.1) = false := by rfl)
    (na : starEach [.Call (.Name "range" q) [a, b, c] [] pos] X.env = (false, eval (.Call (.Name "range" q) [a, b, c] [] pos) X.env) :: starEach [] X.env := by rfl) :
    PE X (.Call (.Name "list" p) [.Call (.Name "range" q) [a, b, c] [] pos] [] pos2) (tD W M E (dCB lr3L fa)) := by
  refine ⟨fun pins s σ H Q I h => ?_⟩
  obtain ⟨io, hp, as, rl, S, P⟩ := h
  refine Call_ (ld_blt I hg hl boot_list (PyProof.Rows.callWith_type1 (args_cons (Q := _) ?_ na) na))
  refine Call_ (ld_blt I hg2 hm boot_range (PyProof.Rows.callWith_type1 (thn (ha.run pos pins s σ H _ I (step (rh := RVs W) (f := fa) rl S P)) fun us s1 ⟨vs, H1, I1, r1, io2, hp2, bs, e2, rl2, ra, P2⟩ => ?_) hs hpl))
  match bs, ra, P2 with
  | [.int i, .int j, .int k], .cons (.int _) (.cons (.int _) (.cons (.int _) .nil)), P2 =>
    have P3 : Pst W (RV W) E σ Q io2 H1 (R.of (if Rg3 i j k then some (AV.ref hp2.length, hp2 ++ [.lst (rngC i k (rgN i j k))]) else none)) := P2
    by_cases g : Rg3 i j k
    · rw [if_pos g] at P3
      obtain ⟨c0, c1, c2, c3⟩ := rg3_ok g
      have zN := g.2.2.2.2.2.2
      cases r1 with
      | cons r rr =>
        cases rr with
        | cons r' rr =>
          cases rr with
          | cons r'' rr =>
            cases rr
            obtain ⟨t, rfl⟩ := r
            obtain ⟨t', rfl⟩ := r'
            obtain ⟨t'', rfl⟩ := r''
            refine call_range_3 c0 ?_ (.inl (PyProof.noPylong_small c1))
            have I2 : Inv X pins σ H1 { s1 with heap := s1.heap.push { cls := .type "range", data := .fields #[.int i t, .int j t', .int k t''] } } := I1.kept (t' := s1.toks) fun b o e => Heap.get?_push_of_some _ e
            refine args_nil ?_
            refine call_list_range (n := rgN i j k) (I2.ok.hd hc) (IsRange.new ..) c2 c3 (by have z : SZ = 1000000 := rfl; omega) fun h' tk acc c' hk e' hi => ?_
            have zl : (rgVC i k (rgN i j k)).length = rgN i j k := by simp [rgVC]
            have hn : H1 { s1 with heap := s1.heap.push { cls := .type "range", data := .fields #[.int i t, .int j t', .int k t''] } }.heap.objs.size = none := I2.hok.fresh (Nat.le_refl _)
            refine ⟨.ref _, upd H1 _ (.lst (rgVC i k (rgN i j k))), I2.laid (t' := tk) hk (Nat.le_refl _) (show ObjOk X.prog X.w _ _ _ (.lst (rgVC i k (rgN i j k))) from ⟨?_, acc.toList, c', vals_rgC hi, ?_⟩), rfl, ?_⟩
            · rw [zl, sizeLine_eq]
              have z : SZ = 1000000 := rfl
              omega
            · rw [Array.toArray_toList]
              exact e'
            · have ex := Ext.new (W := W) io2 (.lst (rgVC i k (rgN i j k))) hn [{ s1 with heap := s1.heap.push { cls := .type "range", data := .fields #[.int i t, .int j t', .int k t''] } }.heap.objs.size]
              exact P3 _ _ _ ex (rl2.new hn (.lst (lrC_vals i k _))) (.ref (by rw [← rl2.len]; simp))
    · rw [if_neg g] at P3
      exact P3.elim
end
theorem rngC_len (lo c : Int) (n : Nat) : (rngC lo c n).length = n := by simp [rngC]
@[simp] theorem xlr3 {h : Hep} {i j c : Int} : lr3L [.int i, .int j, .int c] h = if Rg3 i j c then some (.ref h.length, h ++ [.lst (rngC i c (rgN i j c))]) else none := rfl
theorem rg3_src {f : DA} {s : Sl} {h h1 : Hep} {i j c : Int} (e : f s h = .ok [.int i, .int j, .int c] h1) (g : Rg3 i j c) : dRg3 f s h = .ok (.fix (rngC i c (rgN i j c))) h1 := by
  unfold dRg3
  rw [e]
  exact if_pos g
end Dn
namespace Dn
open PySem PySem.Spec PyProof.Rows L2

/-- what a() comes to -/
abbrev DAct := Hep → R AV
/-- x(lambda: d) -/
def dLamC (F : DAct → DAct) (d : DE) : DE := fun s h => F (fun g => d s g) h
/-- a(), in the def that got the lambda -/
def dAct (act : DAct) : DE := fun _ h => act h
/-- a def of n slots that gets a lambda -/
def dHlp (n : Nat) (b : DAct → DS) : DAct → DAct := fun act h => (b act (List.replicate n none) h).fin

/-- the slots of such a def: slot 0 holds the lambda -/
def MZ (W : Wd) (f c' : Addr) (q : Str) (io0 : List Addr) (H0 : Hp) : Md W where
  rel := fun io H as σ => (std W).rel io H as σ ∧ (as[0]? = some none ∧ σ[0]? = some (some (.ref f))) ∧ H c' = some (LamX.CodeO c' q) ∧ Ext W io0 H0 io H
  mono := fun e h => ⟨(std W).mono e h.1, h.2.1, e.cod _ _ h.2.2.1, h.2.2.2.trans e⟩
  var := fun h a n => (std W).var h.1 a n
  ok := fun i => i ≠ 0
  set := fun h r hi => ⟨(std W).set h.1 r trivial, ⟨by rw [List.getElem?_set_ne hi]; exact h.2.1.1, by rw [List.getElem?_set_ne hi]; exact h.2.1.2⟩, h.2.2⟩
  wipe := fun h hi => ⟨(std W).wipe h.1 trivial, ⟨by rw [List.getElem?_set_ne hi]; exact h.2.1.1, by rw [List.getElem?_set_ne hi]; exact h.2.1.2⟩, h.2.2⟩
/-- a(), where the def runs in Xg: f the lambda, c' its code object, tl what its body asks -/
def ActP (Xg : Cx) (a : Str) (f c' : Addr) (q : Str) (tl : XK → Hp → VK → Prop) : Prop :=
  ∀ (E' : WX) (pn : List (Addr × Obj)) (xe : Value → Shared → Prop) (p1 p2 : Pos), Takes (Xg.tr pn xe) E' →
    PE (Xg.tr pn xe) (.Call (.Name a p1) [] [] p2) (fun σZ HZ Q => σZ[0]? = some (some (.ref f)) ∧ HZ c' = some (LamX.CodeO c' q) ∧ tl (WE E' σZ) HZ Q)
/-- what it comes to, in any later heap -/
def ActS (W : Wd) (io0 : List Addr) (H0 : Hp) (act : DAct) (tl : XK → Hp → VK → Prop) : Prop :=
  ∀ (E : XK) (io : List Addr) (H : Hp) (hp : Hep) (Q : VK), Ext W io0 H0 io H → Rl W io hp H → Pfn W E Q io H (act hp) → tl E H Q
theorem Pfn.st {W : Wd} {E : XK} {Q : VK} {io : List Addr} {H : Hp} {r : R AV} {σ : L2.St} (h : Pfn W E Q io H r) : Pst W (RV W) (wxE E) σ Q io H r := by
  cases r with
  | ok v hp => exact h
  | exc t fs hp => exact h
  | stuck => exact h
theorem actD {W : Wd} {Xg : Cx} {a : Str} {f c' : Addr} {q : Str} {io0 : List Addr} {H0 : Hp} {act : DAct} {tl : XK → Hp → VK → Prop} {E' : WX} {pn : List (Addr × Obj)} {xe : Value → Shared → Prop} {p1 p2 : Pos}
    (h : ActP Xg a f c' q tl) (hs : ActS W io0 H0 act tl) (tk : Takes (Xg.tr pn xe) E') : PE (Xg.tr pn xe) (.Call (.Name a p1) [] [] p2) (tD W (MZ W f c' q io0 H0) E' (dAct act)) :=
  peI (h E' pn xe p1 p2 tk) fun σ H Q ⟨io, hp, as, rl, S, P⟩ => ⟨S.2.1.2, S.2.2.1, hs _ io H hp Q S.2.2.2 rl (Pst.fn P)⟩
/-- a def of the text that calls what it gets -/
def HasL (P : Program) (w : World) (mg : Str → Option Value) (base : Heap) (W : Wd) (k : Nat) (x : Str) (gq : Bool) (F : DAct → DAct) : Prop :=
  ∃ (g : Addr) (fd : FuncData) (pg : Arguments) (bg : List Stmt) (sg : Scope) (Ng : List Str) (a : Str) (b : DAct → DS), mg x = some (.ref g) ∧ FunD W.K x x pg bg sg [] [] g fd ∧ L2.Binds W.K fd [a] [] ∧ FnScope Ng [a] sg ∧ Ng[0]? = some a ∧ Vis sg a ∧
    (a == ("__debug__" : Str)) = false ∧ (a == ("__classdict__" : Str)) = false ∧ F = dHlp Ng.length b ∧
    ∀ (cdv : Value) (A : Around) (outer : List Env) (s : Shared) (H : Hp) (E : XK), (gq = true → (A.deeper (envOfC x sg s.heap.objs.size g cdv)).guards = some []) → Room k (A.deeper (envOfC x sg s.heap.objs.size g cdv)) → Takes (cxD W P w mg base Ng x sg g cdv A outer s H E) (wxE E) →
      ∀ (f c' : Addr) (q : Str) (io0 : List Addr) (H0 : Hp) (act : DAct) (tl : XK → Hp → VK → Prop), ActP (cxD W P w mg base Ng x sg g cdv A outer s H E) a f c' q tl → ActS W io0 H0 act tl →
        PSs (cxD W P w mg base Ng x sg g cdv A outer s H E) bg (tS W (MZ W f c' q io0 H0) (wxE E) (b act))

/-- all but the tables stay, the tables are such as before: our objects stay -/
theorem extN {W : Wd} {io : List Addr} {hp : Hep} {H H1 : Hp} (rl : Rl W io hp H) (e : LamX.ExtN H H1) (t : LamX.Tabs W.T H1) : Rl W io hp H1 ∧ Ext W io H io H1 := by
  have ex : Ext W io H io H1 := ⟨⟨[], by simp⟩, fun a xs h => by
      rcases h with (h | ⟨o, h⟩) | h
      · exact .inl (.inl (e _ _ h (fun ps z => by cases z)))
      · exact .inl (.inr ⟨o, e _ _ h (fun ps z => by cases z)⟩)
      · exact .inr h, fun a xs h => by
      rcases h with ⟨o, h⟩ | h
      · exact .inl ⟨o, e _ _ h (fun ps z => by cases z)⟩
      · exact .inr h, fun a fs h => e _ _ h (fun ps z => by cases z), fun a o u h => e _ _ h (fun ps z => by cases z), fun a u h => e _ _ h (fun ps z => by cases z), fun _ => t⟩
  refine ⟨⟨rl.len, rl.nd, fun i a o hi h => ?_, t⟩, ex⟩
  obtain ⟨u, eu, r⟩ := rl.ob i a o hi h
  refine ⟨u, e _ _ eu fun ps z => ?_, r.mono ex⟩
  subst z
  cases r

section
variable {X : Cx} {pins : List (Addr × Obj)} {σ : L2.St} {H HZ : Hp} {s s1 : Shared} {W : Wd}
open LamX
/-- a(), in the def that got the lambda; as LamX.pe_act, for what is let out at these slots -/
theorem pe_actZ {Ng : List Str} {qg : Str} {sg : Scope} {g f c' : Addr} {cdg pm ctv : Value} {params : Arguments} {body : Expr} {scope : Scope} {k : Nat} {a : Str} {pn : List (Addr × Obj)} {xe : Value → Shared → Prop} {E' : WX} {Eg : XK} {t : XK → TE} {p1 p2 : Pos}
    (I : Inv X pins σ H s) (L : LamS X.env.scope scope) (hf : s.heap.get? f = some (PySem.W.kla_obj "<lambda>" (X.env.qual ++ "<lambda>") params body scope (cloFrom X.env.cells scope.names []) pm c' ctv)) (hfn : H f = none) (hfr : f ∉ frs X.stack)
    (hbind : bindArgs (PySem.W.kla_fn "<lambda>" (X.env.qual ++ "<lambda>") params body scope (cloFrom X.env.cells scope.names []) pm (.ref c') ctv) ⟨[], []⟩ = pure [])
    (hK : X.K = W.K) (tk : Takes ((cxD W X.prog X.w X.mg X.base Ng qg sg g cdg X.A X.stack s H Eg).tr pn xe) E') (hr : Room (k + 1) (X.A.deeper (envOfC qg sg s.heap.objs.size g cdg)))
    (hbody : ∀ (A : Around) (outer : List Env) (s : Shared) (H : Hp) (E : XK), Room k (A.deeper (lamEnv X scope s.heap.objs.size f c')) → PE (lamCx X A outer s H E scope f c') body (t E))
    (hN : Ng[0]? = some a) (hv : Vis sg a) (hd : (a == ("__debug__" : Str)) = false) (hcd : (a == ("__classdict__" : Str)) = false) :
    PE ((cxD W X.prog X.w X.mg X.base Ng qg sg g cdg X.A X.stack s H Eg).tr pn xe) (.Call (.Name a p1) [] [] p2)
      (fun σZ HZ Q => σZ[0]? = some (some (.ref f)) ∧ HZ c' = some (CodeO c' (X.env.qual ++ "<lambda>")) ∧ t (WE E' σZ) σ HZ Q) := by
  refine ⟨fun pinsZ sZ σZ HZ Q IZ h => ?_⟩
  obtain ⟨hs, hc, ht⟩ := h
  refine wpAny_Call_Name_kw (thn ((pe_var (pos := p1) (i := 0) hN hv hd hcd).run pinsZ sZ σZ HZ (fun v H1 => v = .ref f ∧ H1 = HZ) IZ ⟨.ref f, hs, rfl, rfl⟩) fun u s1 ⟨v, H1, I1, r1, q1⟩ => ?_)
  obtain ⟨ev, eH⟩ := q1
  subst ev
  rw [eH] at I1
  obtain rfl : u = Value.ref f := r1
  have of1 : s1.heap.get? f = some (PySem.W.kla_obj "<lambda>" (X.env.qual ++ "<lambda>") params body scope (cloFrom X.env.cells scope.names []) pm c' ctv) := I1.base.keep f _ hf hfn hfr (fun z => nomatch (show f ∈ ([] : List Addr) from z))
  refine PySem.W.callWith_F0 ⟨_, _, _, _, of1⟩ ?_
  have un : Un (frs X.stack) [] H HZ s.heap s1.heap := I1.base
  obtain ⟨⟨oc, vs, t0, hoc, hdc, hvc⟩, _, _⟩ := I1.hok c' _ hc
  have rc : codeAny (model X.prog X.w) (X.A.deeper (envOfC qg sg s.heap.objs.size g cdg)) (.call (.ref f) ⟨[], []⟩) (CR (L2.CX X.prog X.w) (envOfC qg sg s.heap.objs.size g cdg :: X.stack) X.prog X.w HZ s1 Q (WE E' σZ)) s1 := by
    refine PySem.W.kla_callFunE hr.depth of1 rfl L.co L.gen rfl ⟨c', oc, vs, t0, rfl, hoc, hdc, hvc⟩ ?_
    rw [hbind]
    refine wpAny_pure (wpAny_newFunctionEnv (fun y hy => (L.own y hy).2) (fun y hy => absurd hy (by simp)) (fun h₁ hns hsb => ⟨I1.nolimit.fresh _ hsb, ?_⟩) L.kind)
    show codeAny _ _ (.expr body (lamEnv X scope s1.heap.objs.size f c')) _ _
    have kp : ∀ b o, s1.heap.get? b = some o → h₁.get? b = some o := fun b o e => hsb.extBut b o (Nat.ne_of_lt (Heap.lt_size e)) (Heap.get?_push_of_some _ e)
    have e0 : Env0 X.prog X.w X.K X.mg X.base (X.A.deeper (envOfC qg sg s.heap.objs.size g cdg)) (envOfC qg sg s.heap.objs.size g cdg :: X.stack) s1 HZ := by
      rw [hK]
      exact I1.env0
    have J : Inv (lamCx X (X.A.deeper (envOfC qg sg s.heap.objs.size g cdg)) (envOfC qg sg s.heap.objs.size g cdg :: X.stack) s1 HZ (WE E' σZ) scope f c') [] σ HZ { s1 with heap := h₁, toks := s1.toks + ([] : List (Str × Value)).length } :=
      lam_start2 I L e0 hr.hd un hns kp
    refine PySem.W.kla_codeExpr (wpAny_mono ((hbody _ _ s1 HZ _ (hr.deeper _)).run [] _ _ HZ Q J ht) (fun v s' hq => ?_) fun e s' hq => hq)
    obtain ⟨w', H', J', rv, q⟩ := hq
    exact ⟨w', H', J'.os, J'.bare, J'.base, J'.hok, rv, q⟩
  refine wpAny_call (codeAny_mono rc fun r s' hq => ?_)
  cases r with
  | error e => exact passAt tk σZ pinsZ HZ s1 e s' I1 hq
  | ok fl =>
    cases fl with
    | ret u => exact I1.after hq
    | next => exact False.elim hq
    | brk => exact False.elim hq
    | cont => exact False.elim hq
end
section
variable {X : Cx} {W : Wd} {M : Md W} {E : WX}
open LamX
/-- x(lambda: body) -/
theorem lamD {x : Str} {c P : Addr} {j k kb : Nat} {params : Arguments} {body : Expr} {scope : Scope} {F : DAct → DAct} {gq : Bool} {d : DE} {p lpos pos : Pos} (hL : HasL X.prog X.w X.mg X.base W j x gq F) (hgq : gq = true → X.A.guards = some []) (hK : X.K = W.K) (hg : Gl X x) (tk : Takes X E)
    (TB : TabB X.base X.mg c P) (hcode : X.env.code = .ref c) (hmT : (P, X.env.qual ++ "<lambda>") ∈ W.T) (hu : ∀ p ∈ W.T, p.1 = P → p.2 = X.env.qual ++ "<lambda>") (hr : Room k X.A) (hj : j + 1 ≤ k) (hkb : kb + 2 ≤ k) (L : LamS X.env.scope scope) (hdef : defaultsOf params X.env = ([], []))
    (hbind : ∀ (q : Str) (cl : List (Str × Addr)) (pm cv ctv : Value), bindArgs (PySem.W.kla_fn "<lambda>" q params body scope cl pm cv ctv) ⟨[], []⟩ = pure [])
    (hbody : ∀ (A : Around) (outer : List Env) (s : Shared) (H : Hp) (E1 : XK) (f c' : Addr), Room kb (lamCx X A outer s H E1 scope f c').A → Takes (lamCx X A outer s H E1 scope f c') (wxE E1) → PE (lamCx X A outer s H E1 scope f c') body (tD W M (wxE E1) d))
    (hdb : (x == ("__debug__" : Str)) = false := by decide) :
    PE X (.Call (.Name x p) [.Lambda params body scope lpos] [] pos) (tD W M E (dLamC F d)) := by
  obtain ⟨g, fd, pg, bg, sg, Ng, a, b, hm, FD, hb, Sg, hNg, hva, hd, hcd, rfl, hG⟩ := hL
  obtain ⟨oc, od, dV, kV, doc, pm, an, cdv, ct, osl, rfl, lk, hcg, _, _⟩ := FD.ex
  have hk : PySem.W.keepIn X.K (.ref g) = true := by
    rw [hK]
    exact FD.kp
  refine ⟨fun pins s σ H Q I h => ?_⟩
  obtain ⟨io, hp, as, rl, S, P0⟩ := h
  refine wpAny_Call_Name_kw (ld_glob I hg hm ?_ hdb)
  refine PySem.W.callWith_K (h₀ := X.base) I.ok.mod.kin hk ?_ (by rfl) (by rfl)
  show wpAny _ _ (spliced ((false, eval (.Lambda params body scope lpos) X.env) :: backTo pos (starEach [] X.env))) _ _ s
  refine Calls.spliced_cons (lam_make2 I TB hcode hmT hu rl.tb hdef (L.has I.ok) fun f c' pm' ctv H1 s' I1 eN T1 hf hfn hfr hco => ?_)
  refine Calls.spliced_nil ⟨I1.kIn, ?_⟩
  obtain ⟨rl1, e1⟩ := extN rl eN T1
  have S1 := M.mono e1 S
  have P1 := Pst.later P0 e1
  have kI : W.K.In s'.heap := by
    have := I1.kIn
    rw [hK] at this
    exact this
  have e0 : Env0 X.prog X.w W.K X.mg X.base X.A X.stack s' H1 := by
    rw [← hK]
    exact I1.env0
  have rc : codeAny (model X.prog X.w) X.A (.call (.ref g) ⟨[.ref f], []⟩) (CR (L2.CX X.prog X.w) X.stack X.prog X.w H1 s' Q (WE E σ)) s' := by
    obtain ⟨k', rfl⟩ : ∃ k', k = k' + 1 := ⟨k - 1, by omega⟩
    refine LamX.run_ofS (K := W.K) (N := Ng) (ps := [a]) (us := [.ref f]) (vs := [.ref f]) lk hcg Sg hr e0 (hb s' [.ref f] kI rfl) (.cons rfl .nil) rfl fun hr' => ?_
    refine ⟨_, hG cdv X.A X.stack s' H1 (WE E σ) hgq (hr'.mono (by omega)) (takes_of rfl rfl rfl rfl) f c' (X.env.qual ++ "<lambda>") io H1 (fun g => d as g) (fun E1 H' Q' => tD W M (wxE E1) d σ H' Q') ?_ ?_, ?_⟩
    · intro E' pn xe p1 p2 tk'
      exact pe_actZ (k := k' - 1) (t := fun E1 => tD W M (wxE E1) d) I1 L hf hfn hfr (hbind _ _ _ _ _) hK tk' (hr'.mono (by omega)) (fun A outer s H E1 hr2 => hbody A outer s H E1 f c' (hr2.mono (by omega)) (takes_of rfl rfl rfl rfl)) hNg hva hd hcd
    · intro E1 io' H' hp' Q' e' rl' P'
      exact ⟨io', hp', as, rl', M.mono e' S1, Pfn.st P'⟩
    · refine ⟨io, hp, List.replicate Ng.length none, rl1, ⟨⟨by
        obtain ⟨hl, _⟩ := List.getElem?_eq_some_iff.mp hNg
        simp [L2.start]
        omega, fun i v z => ?_⟩, ⟨?_, ?_⟩, hco, Ext.refl⟩, ?_⟩
      · rw [List.getElem?_replicate] at z
        split at z <;> cases z
      · obtain ⟨hl, _⟩ := List.getElem?_eq_some_iff.mp hNg
        rw [List.getElem?_replicate, if_pos hl]
      · cases Ng with
        | nil => cases hNg
        | cons n r => rfl
      · have P2 : Pst W (RV W) E σ Q io H1 ((b (fun g => d as g) (List.replicate Ng.length none) hp).fin) := P1
        cases e : b (fun g => d as g) (List.replicate Ng.length none) hp with
        | nx s h =>
          rw [e] at P2
          exact fun io' H' σ' e' rl' _ => P2 io' H' .non e' rl' .non
        | rt s h =>
          rw [e] at P2
          exact P2
        | bk s h =>
          rw [e] at P2
          exact P2.elim
        | ct s h =>
          rw [e] at P2
          exact P2.elim
        | exc t fs s h =>
          rw [e] at P2
          exact fun io' H' σ' cls d e' rl' _ rx => P2 io' H' cls d e' rl' rx
        | stuck =>
          rw [e] at P2
          exact P2
  refine wpAny_call (codeAny_mono rc fun r s2 hq => ?_)
  cases r with
  | error e => exact passAt tk σ pins H1 s' e s2 I1 hq
  | ok fl =>
    cases fl with
    | ret u => exact I1.after hq
    | next => exact False.elim hq
    | brk => exact False.elim hq
    | cont => exact False.elim hq
end
/-- a def with lambdas: its code object's address is told -/
theorem fnDL {P : Program} {w : World} {mg : Str → Option Value} {base : Heap} {W : Wd} {x qual : Str} {params : Arguments} {body : List Stmt} {scope : Scope} {dvs : List V} {kws : List (Str × V)} {f : Addr} {fd : FuncData} {N ps : List Str} {k n : Nat} {b : DS} {c : Addr}
    (F : FunD W.K x qual params body scope dvs kws f fd) (S : FnScope N ps scope) (hn : ps.length = n) (hc : fd.code = .ref c)
    (hb : ∀ (A : Around) (outer : List Env) (s : Shared) (H : Hp) (E : XK), Room k (A.deeper (envOfC qual scope s.heap.objs.size f (.ref c))) → Takes (cxD W P w mg base N qual scope f (.ref c) A outer s H E) (wxE E) →
      PSs (cxD W P w mg base N qual scope f (.ref c) A outer s H E) body (tS W (std W) (wxE E) b)) : FnOk P w W.K mg base (L2.CX P w) (k + 1) f fd ps (spD W n (dFun N.length b)) := by
  obtain ⟨⟨oc, od, dV, kV, doc, pm, an, cdv, ct, osl, rfl, lk, hcd, d1, d2⟩, kp⟩ := F
  have hc : cdv = .ref c := hc
  subst hc
  refine fn_of lk hcd S (fun vs H Q E h => ?_) fun A outer s H vs Q E hr h => ⟨_, hb A outer s H E hr (takes_of rfl rfl rfl rfl), ?_⟩
  · obtain ⟨io, hp, as, hl, _, r, _⟩ := h
    rw [← r.len, hl, hn]
  · obtain ⟨io, hp, as, hl, rl, r, P⟩ := h
    refine ⟨io, hp, dStart N.length as, rl, start_rel r rfl, ?_⟩
    unfold dFun at P
    cases e : b (dStart N.length as) hp with
    | nx s h =>
      rw [e] at P
      exact fun io' H' σ' e' rl' _ => P io' H' .non e' rl' .non
    | rt s h =>
      rw [e] at P
      exact P
    | bk s h =>
      rw [e] at P
      exact P.elim
    | ct s h =>
      rw [e] at P
      exact P.elim
    | exc t fs s h =>
      rw [e] at P
      exact fun io' H' σ' cls d e' rl' _ rx => P io' H' cls d e' rl' rx
    | stuck =>
      rw [e] at P
      exact P
/-- the same where nothing is being shown -/
theorem fnDLG {P : Program} {w : World} {mg : Str → Option Value} {base : Heap} {W : Wd} {x qual : Str} {params : Arguments} {body : List Stmt} {scope : Scope} {dvs : List V} {kws : List (Str × V)} {f : Addr} {fd : FuncData} {N ps : List Str} {k n : Nat} {b : DS} {c : Addr}
    (F : FunD W.K x qual params body scope dvs kws f fd) (S : FnScope N ps scope) (hn : ps.length = n) (hc : fd.code = .ref c)
    (hb : ∀ (A : Around) (outer : List Env) (s : Shared) (H : Hp) (E : XK), (A.deeper (envOfC qual scope s.heap.objs.size f (.ref c))).guards = some [] → Room k (A.deeper (envOfC qual scope s.heap.objs.size f (.ref c))) → Takes (cxD W P w mg base N qual scope f (.ref c) A outer s H E) (wxE E) →
      PSs (cxD W P w mg base N qual scope f (.ref c) A outer s H E) body (tS W (std W) (wxE E) b)) : FnG P w W.K mg base (L2.CX P w) (k + 1) f fd ps (spD W n (dFun N.length b)) := by
  obtain ⟨⟨oc, od, dV, kV, doc, pm, an, cdv, ct, osl, rfl, lk, hcd, d1, d2⟩, kp⟩ := F
  have hc : cdv = .ref c := hc
  subst hc
  have lenS : ∀ vs H Q E, spD W n (dFun N.length b) vs H Q E → vs.length = ps.length := fun vs H Q E ⟨io, hp, as, hl, _, r, _⟩ => by
    rw [← r.len, hl, hn]
  refine ⟨lenS, fun A outer s H args us vs Q E hg hr e0 hbd r hsp => LamX.run_ofS lk hcd S hr e0 hbd r (lenS _ _ _ _ hsp) fun hr' => ⟨_, hb A outer s H E hg hr' (takes_of rfl rfl rfl rfl), ?_⟩⟩
  · obtain ⟨io, hp, as, hl, rl, r, P⟩ := hsp
    refine ⟨io, hp, dStart N.length as, rl, start_rel r rfl, ?_⟩
    unfold dFun at P
    cases e : b (dStart N.length as) hp with
    | nx s h =>
      rw [e] at P
      exact fun io' H' σ' e' rl' _ => P io' H' .non e' rl' .non
    | rt s h =>
      rw [e] at P
      exact P
    | bk s h =>
      rw [e] at P
      exact P.elim
    | ct s h =>
      rw [e] at P
      exact P.elim
    | exc t fs s h =>
      rw [e] at P
      exact fun io' H' σ' cls d e' rl' _ rx => P io' H' cls d e' rl' rx
    | stuck =>
      rw [e] at P
      exact P
end Dn
namespace Dn
open PySem PySem.Spec PyProof.Rows L2
/-- as many slots as names -/
def ML {W : Wd} (B : Md W) : Prop := ∀ {io : List Addr} {H : Hp} {as : Sl} {σ : L2.St}, B.rel io H as σ → as.length = σ.length
theorem ml_std {W : Wd} : ML (std W) := fun h => h.1
theorem ml_mz {W : Wd} {f c' : Addr} {q : Str} {io0 : List Addr} {H0 : Hp} : ML (MZ W f c' q io0 H0) := fun h => h.1.1
section
variable {W : Wd} {B : Md W} {X : Cx} {T : XT}
/-- the wish of the clauses -/
def wiG {W : Wd} (B : Md W) (T : XT) (E : WX) (hs : Hds) (D : Ends) : WX := fun cls d σ H => ∃ io hp as t fs, Rl W io hp H ∧ B.rel io H as σ ∧ RX W io H t fs cls d ∧ T.n ≤ t ∧ t < T.m ∧ Pss W B E D io H (pickH T t fs as hp hs)
theorem exG_in (bl : ML B) {i t : Nat} {fs : List (Nat × AV)} {a : Addr} {d : Option Addr} {io : List Addr} {H : Hp} {as : Sl} {σ : L2.St} (S : B.rel io H as σ) (hi : i < as.length) (ho : B.ok i) (rx : RXf W io H fs d) :
    (exG B i t fs a d).rel io H (as.set i (some (.exn t fs))) (σ.set i (some (.ref a))) := by
  have hl : as.length = σ.length := bl S
  refine ⟨⟨by simp [hl], List.getElem?_set_self (by rw [← hl]; exact hi), List.getElem?_set_self hi⟩, ?_, rx⟩
  rw [List.set_set, List.set_set]
  exact B.wipe S ho
theorem exG_out {i t : Nat} {fs : List (Nat × AV)} {a : Addr} {d : Option Addr} {io : List Addr} {H : Hp} {as : Sl} {σ : L2.St} (S : (exG B i t fs a d).rel io H as σ) : B.rel io H (as.set i none) (σ.set i none) := S.2.1
theorem PssWipG {E : WX} {D : Ends} {io : List Addr} {H : Hp} {i t : Nat} {fs : List (Nat × AV)} {a : Addr} {d : Option Addr} {r : SR} (P : Pss W B E D io H (r.wip i)) :
    Pss W (exG B i t fs a d) E0x ⟨fun σ' H' => D.nx (σ'.set i none) H', D.rt, fun σ' H' => D.bk (σ'.set i none) H', fun σ' H' => D.ct (σ'.set i none) H'⟩ io H r := by
  cases r with
  | nx s h => exact fun io' H' σ' e rl S => P io' H' _ e rl (exG_out S)
  | bk s h => exact fun io' H' σ' e rl S => P io' H' _ e rl (exG_out S)
  | ct s h => exact fun io' H' σ' e rl S => P io' H' _ e rl (exG_out S)
  | rt v h => exact P
  | exc t fs s h => exact P.elim
  | stuck => exact P
theorem hd_okG (bl : ML B) {E : WX} (w : XWd W T) (hK : X.K = W.K) (hs' : X.stack = X.env :: X.outer) (hf : X.env.frame = some X.env.locals) (tk : Takes X E) {hds : List ExceptHandler} {hs : Hds} (h : HdG B X T hds hs) (D : Ends) : Cls_ X D hds (wiG B T E hs D) := by
  induction h with
  | nil => exact cls_nil hf (tk.imp fun cls d σ H ⟨io, hp, as, t, fs, rl, S, rx, _, _, P⟩ => P io H σ cls d Ext.refl rl S rx)
  | @only x c f b₀ suite np pos hds hs hc h1 h2 hsu r ih =>
    refine cls_only (ts := fun _ _ _ => tS W B E0x f) (w' := wiG B T E hs D) hs' hf hc (fun a oe cls d pn _ _ => hsu a oe pn) (fun cls d σ H ⟨io, hp, as, t, fs, rl, S, rx, t1, t2, P⟩ => ?_) ih
    obtain ⟨rc, rx2⟩ := rx
    subst rc
    refine ⟨T.sub t c, by rw [hK]; exact w.exm t c t1 t2 h1 h2, fun hb a na => ⟨io, hp, as, rl, S, ?_⟩, fun hb => ⟨io, hp, as, t, fs, rl, S, ⟨rfl, rx2⟩, t1, t2, ?_⟩⟩
    · unfold pickH at P
      rw [hb] at P
      exact PssE0 P
    · unfold pickH at P
      rw [hb] at P
      exact P
  | @as x n i c f b₀ suite np pos hds hs hc h1 h2 hB hN hi hl hsu r ih =>
    refine cls_as (ts := fun a cls d D' σ H => ∃ t fs, T.n ≤ t ∧ t < T.m ∧ cls = .ref (W.cl t) ∧ tS W (exG B i t fs a d) E0x f D' σ H) (w' := wiG B T E hs D) hs' hf hN hi hl hc (fun a oe cls d pn z1 z2 => ⟨fun pins s σ H D' I ⟨t, fs, t1, t2, ec, q⟩ => ?_⟩) (fun cls d σ H ⟨io, hp, as, t, fs, rl, S, rx, t1, t2, P⟩ => ?_) ih
    · subst ec
      exact (hsu a oe pn t fs d t1 t2 z1 z2).run pins s σ H D' I q
    · obtain ⟨rc, rx2⟩ := rx
      subst rc
      refine ⟨T.sub t c, by rw [hK]; exact w.exm t c t1 t2 h1 h2, fun hb a na => ?_, fun hb => ⟨io, hp, as, t, fs, rl, S, ⟨rfl, rx2⟩, t1, t2, ?_⟩⟩
      · unfold pickH at P
        rw [hb] at P
        have P2 : Pss W B E D io H (if i < as.length then (f (as.set i (some (.exn t fs))) hp).wip i else .stuck) := P
        by_cases hl2 : i < as.length
        · rw [if_pos hl2] at P2
          exact ⟨t, fs, t1, t2, rfl, io, hp, _, rl, exG_in bl S hl2 hB rx2, PssWipG P2⟩
        · rw [if_neg hl2] at P2
          exact P2.elim
      · unfold pickH at P
        rw [hb] at P
        exact P
theorem sTryG (bl : ML B) {E : WX} {body : List Stmt} {h₀ : ExceptHandler} {hds : List ExceptHandler} {hs : Hds} {fb : DS} {pos : Pos} (w : XWd W T) (hK : X.K = W.K) (hs' : X.stack = X.env :: X.outer) (hf : X.env.frame = some X.env.locals) (tk : Takes X E)
    (hb : ∀ (E' : WX) (pn : List (Addr × Obj)) (xe : Value → Shared → Prop), Takes (X.tr pn xe) E' → PassesOwn (model X.prog X.w) X.A X.env xe → PSs (X.tr pn xe) body (tS W B E' fb)) (hd : HdG B X T (h₀ :: hds) hs) :
    PS X (.Try body (h₀ :: hds) [] [] pos) (tS W B E (dTry T fb hs)) := psI (ps_tryG (tb := fun w' => tS W B w' fb) (wi := wiG B T E hs) hs' hf hb (hd_okG bl w hK hs' hf tk hd)) fun D σ H ⟨io, hp, as, rl, S, P⟩ => by
  refine ⟨io, hp, as, rl, S, ?_⟩
  unfold dTry at P
  cases z : fb as hp with
  | exc t fs s1 h1 =>
    rw [z] at P
    have P2 : Pss W B E D io H (if T.n ≤ t ∧ t < T.m then pickH T t fs s1 h1 hs else .stuck) := P
    by_cases ht : T.n ≤ t ∧ t < T.m
    · rw [if_pos ht] at P2
      exact fun io' H' σ' cls d e rl' S' rx => ⟨io', h1, s1, t, fs, rl', S', rx, ht.1, ht.2, Pss.later P2 e⟩
    · rw [if_neg ht] at P2
      exact P2.elim
  | nx s h =>
    rw [z] at P
    exact P
  | rt v h =>
    rw [z] at P
    exact P
  | bk s h =>
    rw [z] at P
    exact P
  | ct s h =>
    rw [z] at P
    exact P
  | stuck =>
    rw [z] at P
    exact P
end
section
variable {W : Wd} {B : Md W} {X : Cx} {T : XT} {E : WX} {a : Addr} {oe : Obj} {pn : List (Addr × Obj)} {i j t : Nat} {fs : List (Nat × AV)} {d : Option Addr} {x nm : Str} {p pos : Pos}
theorem xfDG (w : XWd W T) (hK : X.K = W.K) (h1 : T.n ≤ t) (h2 : t < T.m) (hz : Zc (.ref (W.cl t)) d oe) (hf : ∃ vs, oe.data = .fields vs) (hj : W.fn[j]? = some nm) (he : PE (X.suite a ((a, oe) :: pn)) (.Name x p) (tVar i)) (hb : attributeBase (.Name x p) nm X.env (eval (.Name x p) X.env) = eval (.Name x p) X.env := by rfl) :
    PE (X.suite a ((a, oe) :: pn)) (.Attribute (.Name x p) nm pos) (tD W (exG B i t fs a d) E (dXf i j)) := by
  have xf := w.xf t h1 h2
  have no := w.no t nm h1 h2 (List.mem_of_getElem? hj)
  rw [← hK] at xf no
  refine peI (pe_xf xf no hz hf he hb) fun σ H Q ⟨io, hp, as, rl, S, P⟩ => ?_
  obtain ⟨⟨_, s2, s3⟩, _, s5⟩ := S
  unfold dXf at P
  rw [s3] at P
  refine ⟨.ref a, s2, rfl, rfl, ?_⟩
  cases z : fget fs j with
  | none =>
    have P2 : Pst W (RV W) E σ Q io H (match fget fs j with
      | some v => .ok v hp
      | none => .stuck) := P
    rw [z] at P2
    exact P2.elim
  | some v =>
    have P2 : Pst W (RV W) E σ Q io H (match fget fs j with
      | some v => .ok v hp
      | none => .stuck) := P
    rw [z] at P2
    rcases s5 with ⟨rfl, _⟩ | ⟨dd, vs, e1, e2, e3⟩
    · cases z
    · obtain ⟨y, l, ry⟩ := e3.get hj z
      exact ⟨dd, vs, y, e1, e2, l, P2.ok rl ry⟩
theorem isXDG {n : String} {xc : Str} {p2 p3 : Pos} (w : XWd W T) (hK : X.K = W.K) (h1 : T.n ≤ t) (h2 : t < T.m) (hz : Zc (.ref (W.cl t)) d oe) (hf : ∃ vs, oe.data = .fields vs) (hm : X.mg "isinstance" = none) (he : PE (X.suite a ((a, oe) :: pn)) (.Name x p) (tVar i)) (hm2 : X.mg xc = none) (hv : bootBuiltins xc = some (.type n))
    (hg : Gl X "isinstance" := by rfl) (hg2 : Gl X xc := by rfl) (hn : xc ≠ "__name__" := by decide) (hdb : (xc == ("__debug__" : Str)) = false := by decide)
    (hs : starEach [.Name x p, .Name xc p2] X.env = (false, eval (.Name x p) X.env) :: starEach [.Name xc p2] X.env := by rfl) (hs2 : starEach [.Name xc p2] X.env = (false, eval (.Name xc p2) X.env) :: starEach [] X.env := by rfl) (hpl : (backTo pos (starEach [.Name xc p2] X.env)).any (·.1) = false := by rfl) :
    PE (X.suite a ((a, oe) :: pn)) (.Call (.Name "isinstance" p3) [.Name x p, .Name xc p2] [] pos) (tD W (exG B i t fs a d) E (dIsX T i n)) := by
  have cr : CallR (X.suite a ((a, oe) :: pn)) (.builtin "isinstance") (fun xs H Q => ∃ (b : Bool), xs = [.ref a, .ty n] ∧ PySem.W.kitOne X.K (.ref (W.cl t)) (.type n) = some b ∧ (d = none ∨ ∃ dd vs, d = some dd ∧ H dd = some (.xd vs)) ∧ Q (.bl b) H) := by
    intro pins s σ H xs us Q I r h
    obtain ⟨b, rfl, e, hd, q⟩ := h
    cases r with
    | cons rx rr =>
      cases rr with
      | cons rt rr =>
        cases rr
        cases rx
        cases rt
        obtain ⟨hget, _⟩ := I.pin (a, oe) (List.mem_append.mpr (.inl List.mem_cons_self))
        obtain ⟨vs, hv⟩ := hf
        have ec := w.ec t h1 h2
        rw [← hK] at ec
        have hcl : (PySem.W.clsIn X.K (W.cl t)).isSome = true := by
          obtain ⟨cd, hc, _⟩ := PySem.W.any_some ec.hd
          rw [hc]
          rfl
        obtain ⟨od, J⟩ : ∃ od, PySem.W.InstAt s.heap a oe (W.cl t) od := by
          rcases hd with rfl | ⟨dd, ws, rfl, hdd⟩
          · exact ⟨none, hget, hz.1, by unfold PySem.W.notCls; rw [hv] <;> rfl, by rw [hz.2]; trivial⟩
          · have hx : ObjOk X.prog X.w H s.heap dd (.xd ws) := I.hok dd _ hdd
            obtain ⟨mA, hns, _⟩ := hx
            obtain ⟨o, ho, _⟩ := lookIn_ns hns
            exact ⟨some o, hget, hz.1, by unfold PySem.W.notCls; rw [hv] <;> rfl, by rw [hz.2]; exact ho⟩
        exact PySem.W.kia_one (PySem.W.kitx_exc hcl ec.hg ec.hk ec.hs ec.ha ec.hn ec.ht ec.hm) I.kIn J e (fun z => nomatch z) fun tk => ⟨.bl b, H, I.kept (t' := tk) fun _ _ z => z, rfl, q⟩
  have ta : PA (X.suite a ((a, oe) :: pn)) [.Name x p, .Name xc p2] (tCons (tVar i) (tCons (tC (.ty n)) tNil)) := pa_cons he (pa_cons (pe_bltn hg2 hm2 hv (v := .ty n) rfl hn hdb) pa_nil (by exact hs2)) (by exact hs)
  refine peI (pe_callB cr hg hm PyProof.Rows.Boot.«isinstance» ta (by decide) (by decide) (by exact hs) (by exact hpl)) fun σ H Q ⟨io, hp, as, rl, S, P⟩ => ?_
  obtain ⟨⟨_, s2, s3⟩, _, s5⟩ := S
  unfold dIsX at P
  rw [s3] at P
  have P2 : Pst W (RV W) E σ Q io H (match tyLook T.ty t n with
    | some b => .ok (.bl b) hp
    | none => .stuck) := P
  cases z : tyLook T.ty t n with
  | none =>
    rw [z] at P2
    exact P2.elim
  | some b =>
    rw [z] at P2
    have e := w.ty _ (tyLook_in z)
    rw [← hK] at e
    refine ⟨.ref a, s2, b, rfl, e, ?_, P2.ok rl (.bl b)⟩
    rcases s5 with ⟨_, h⟩ | ⟨dd, vs, h, h', _⟩
    · exact .inl h
    · exact .inr ⟨dd, vs, h, h'⟩
def isOK (T : XT) (c : Nat) (o : Option (Option AV)) (h : Hep) : R AV := match o with
  | some (some (.exn t _)) => .ok (.bl (T.sub t c)) h
  | _ => .stuck
/-- isinstance(e, C), e a caught exception, C a class of the text -/
def dIsO (T : XT) (i c : Nat) : DE := fun s h => isOK T c s[i]? h
def XOk (W : Wd) (T : XT) (c : Nat) : Prop := ∀ t, T.n ≤ t → t < T.m → PySem.W.kitOne W.K (.ref (W.cl t)) (.ref (W.cl c)) = some (T.sub t c)
theorem xoB_ok {cs : List Str} {c : Nat} (hc : W.cl = clOf W.K cs) (h : xoB cs T c W.K = true) : XOk W T c := fun t a b => by
  have z := of_decide_eq_true (allN_ok h (t - T.n) (by omega))
  rw [show T.n + (t - T.n) = t by omega, ← hc] at z
  exact z
theorem isOD {cc : Nat} {xc : Str} {p2 p3 : Pos} (ho : XOk W T cc) (w : XWd W T) (hK : X.K = W.K) (h1 : T.n ≤ t) (h2 : t < T.m) (hz : Zc (.ref (W.cl t)) d oe) (hf : ∃ vs, oe.data = .fields vs) (hm : X.mg "isinstance" = none) (he : PE (X.suite a ((a, oe) :: pn)) (.Name x p) (tVar i)) (hm2 : X.mg xc = some (.ref (W.cl cc)))
    (hg : Gl X "isinstance" := by rfl) (hg2 : Gl X xc := by rfl) (hn : xc ≠ "__name__" := by decide) (hdb : (xc == ("__debug__" : Str)) = false := by decide)
    (hs : starEach [.Name x p, .Name xc p2] X.env = (false, eval (.Name x p) X.env) :: starEach [.Name xc p2] X.env := by rfl) (hs2 : starEach [.Name xc p2] X.env = (false, eval (.Name xc p2) X.env) :: starEach [] X.env := by rfl) (hpl : (backTo pos (starEach [.Name xc p2] X.env)).any (·.1) = false := by rfl) :
    PE (X.suite a ((a, oe) :: pn)) (.Call (.Name "isinstance" p3) [.Name x p, .Name xc p2] [] pos) (tD W (exG B i t fs a d) E (dIsO T i cc)) := by
  have cr : CallR (X.suite a ((a, oe) :: pn)) (.builtin "isinstance") (fun xs H Q => ∃ (b : Bool), xs = [.ref a, .ref (W.cl cc)] ∧ PySem.W.kitOne X.K (.ref (W.cl t)) (.ref (W.cl cc)) = some b ∧ (d = none ∨ ∃ dd vs, d = some dd ∧ H dd = some (.xd vs)) ∧ Q (.bl b) H) := by
    intro pins s σ H xs us Q I r h
    obtain ⟨b, rfl, e, hd, q⟩ := h
    cases r with
    | cons rx rr =>
      cases rr with
      | cons rt rr =>
        cases rr
        cases rx
        cases rt
        obtain ⟨hget, _⟩ := I.pin (a, oe) (List.mem_append.mpr (.inl List.mem_cons_self))
        obtain ⟨vs, hv⟩ := hf
        have ec := w.ec t h1 h2
        rw [← hK] at ec
        have hcl : (PySem.W.clsIn X.K (W.cl t)).isSome = true := by
          obtain ⟨cd, hc, _⟩ := PySem.W.any_some ec.hd
          rw [hc]
          rfl
        obtain ⟨od, J⟩ : ∃ od, PySem.W.InstAt s.heap a oe (W.cl t) od := by
          rcases hd with rfl | ⟨dd, ws, rfl, hdd⟩
          · exact ⟨none, hget, hz.1, by unfold PySem.W.notCls; rw [hv] <;> rfl, by rw [hz.2]; trivial⟩
          · have hx : ObjOk X.prog X.w H s.heap dd (.xd ws) := I.hok dd _ hdd
            obtain ⟨mA, hns, _⟩ := hx
            obtain ⟨o, ho, _⟩ := lookIn_ns hns
            exact ⟨some o, hget, hz.1, by unfold PySem.W.notCls; rw [hv] <;> rfl, by rw [hz.2]; exact ho⟩
        exact PySem.W.kia_one (PySem.W.kitx_exc hcl ec.hg ec.hk ec.hs ec.ha ec.hn ec.ht ec.hm) I.kIn J e (fun z => nomatch z) fun tk => ⟨.bl b, H, I.kept (t' := tk) fun _ _ z => z, rfl, q⟩
  have ta : PA (X.suite a ((a, oe) :: pn)) [.Name x p, .Name xc p2] (tCons (tVar i) (tCons (tC (.ref (W.cl cc))) tNil)) := pa_cons he (pa_cons (pe_glob (v := .ref (W.cl cc)) hg2 hm2 rfl hdb) pa_nil (by exact hs2)) (by exact hs)
  refine peI (pe_callB cr hg hm PyProof.Rows.Boot.«isinstance» ta (by decide) (by decide) (by exact hs) (by exact hpl)) fun σ H Q ⟨io, hp, as, rl, S, P⟩ => ?_
  obtain ⟨⟨_, s2, s3⟩, _, s5⟩ := S
  unfold dIsO at P
  rw [s3] at P
  have P2 : Pst W (RV W) E σ Q io H (.ok (.bl (T.sub t cc)) hp) := P
  have e := ho t h1 h2
  rw [← hK] at e
  refine ⟨.ref a, s2, T.sub t cc, rfl, e, ?_, P2.ok rl (.bl _)⟩
  rcases s5 with ⟨_, h⟩ | ⟨dd, vs, h, h', _⟩
  · exact .inl h
  · exact .inr ⟨dd, vs, h, h'⟩
end
end Dn
namespace Dn
open PySem PySem.Spec PyProof.Rows L2
theorem FunD.codeF {K : PySem.W.Frag} {h : Heap} {x qual : Str} {params : Arguments} {body : List Stmt} {scope : Scope} {dvs : List V} {kws : List (Str × V)} {f : Addr} {fd : FuncData} (F : FunD K x qual params body scope dvs kws f fd) (l : LamAt K h f) : fd.code = .ref (codF K f) := by
  obtain ⟨oc, od, fd', osl, e, hc⟩ := l.fd
  obtain ⟨oc2, od2, dV, kV, doc, pm, an, cdv, ct, osl2, _, lk, _⟩ := F.ex
  rw [e] at lk
  cases lk
  exact hc
abbrev csOf (ls : List Pth) (K : PySem.W.Frag) : List (Addr × Addr) := ls.map fun l => (codF K (l K), tabF K (codF K (l K)))
theorem csOf_tab {ls : List Pth} {K : PySem.W.Frag} {h : Heap} (l : ∀ p ∈ ls, LamAt K h (p K)) : (∀ p ∈ csOf ls K, h.get? p.2 = some { cls := .none, data := .fields #[] }) ∧ (∀ p ∈ csOf ls K, K.lookup p.2 = none) ∧ ∀ p ∈ csOf ls K, PySem.W.CodeHd h p.1 p.2 := by
  refine ⟨fun p hp => ?_, fun p hp => ?_, fun p hp => ?_⟩
  · obtain ⟨q, hq, rfl⟩ := List.mem_map.mp hp
    exact (l q hq).tb
  · obtain ⟨q, hq, rfl⟩ := List.mem_map.mp hp
    exact (l q hq).nt
  · obtain ⟨q, hq, rfl⟩ := List.mem_map.mp hp
    exact (l q hq).cd
theorem tab_u {l : List (Addr × Str)} (nd : (l.map (·.1)).Nodup) {P : Addr} {q : Str} (m : (P, q) ∈ l) : ∀ p ∈ l, p.1 = P → p.2 = q := by
  induction l with
  | nil => cases m
  | cons a l ih =>
    rw [List.map_cons, List.nodup_cons] at nd
    intro p hp e
    rcases List.mem_cons.mp hp with rfl | hp
    · rcases List.mem_cons.mp m with z | z
      · rw [← z]
      · exact absurd (List.mem_map.mpr ⟨_, z, e.symm⟩) nd.1
    · rcases List.mem_cons.mp m with z | z
      · exact absurd (List.mem_map.mpr ⟨p, hp, by rw [e, ← z]⟩) nd.1
      · exact ih nd.2 z p hp e
def OnlyT (cs : List (Addr × Addr)) (H : Hp) : Prop := ∀ b, H b = none ∨ (b ∈ cs.map (·.2) ∧ H b = some (.tbl #[])) ∨ ∃ o xs, H b = some (.frz o (.lst xs))
def spLT (cs : List (Addr × Addr)) (K : PySem.W.Frag) : Sp := fun vs H Q _ => ∃ (a : Addr) (ns : List Int), vs = [.ref a] ∧ ns.length ≤ 63 ∧ OnlyT cs H ∧ (∀ p ∈ cs, H p.2 = some (.tbl #[])) ∧ SqL K H a (ns.map V.int) ∧ ∀ H', Q (.bl true) H'
theorem ruH {k : Nat} {A B : Around} (hr : Room k A) (h : B.units = A.units := by rfl) : B.units + 65 < cLine := by
  have := hr.un
  rw [h]
  omega
/-- a promise that asks nothing of what is being shown -/
theorem gOk {P : Program} {w : World} {K : PySem.W.Frag} {mg : Str → Option Value} {base : Heap} {CX : CXT} {k : Nat} {f : Addr} {fd : FuncData} {ps : List Str} {sp : Sp} (F : FnOk P w K mg base CX k f fd ps sp) : FnG P w K mg base CX k f fd ps sp :=
  ⟨F.len, fun A outer s H args us vs Q E _ hr e0 hb r hs => F.run A outer s H args us vs Q E hr e0 hb r hs⟩
theorem law_spT {W : Wd} {P : Program} {w : World} {mg : Str → Option Value} {base : Heap} {CX : CXT} {k : Nat} {f : Addr} {fd : FuncData} {ps : List Str} {F : DF} {cs : List (Addr × Addr)} (hT : W.T.map (·.1) = cs.map (·.2)) (hF : FnG P w W.K mg base CX k f fd ps (spD W 1 F))
    (law : ∀ ns : List Int, ns.length ≤ 63 → ∃ h, F [.rol (ns.map .int)] [] = .ok (.bl true) h) : FnG P w W.K mg base CX k f fd ps (spLT cs W.K) := hF.imp fun vs H Q E ⟨a, ns, e, hl, hO, hC, hS, hQ⟩ => by
  subst e
  obtain ⟨h, e⟩ := law ns hl
  refine ⟨[], [], [.rol (ns.map .int)], rfl, ⟨rfl, List.nodup_nil, fun i a o hi => by simp at hi, fun p hp => ?_⟩, .cons (.rol ?_ (RVs.ints ns)) .nil, ?_⟩
  · have m : p.1 ∈ cs.map (·.2) := by
      rw [← hT]
      exact List.mem_map.mpr ⟨p, hp, rfl⟩
    obtain ⟨q, hq, eq⟩ := List.mem_map.mp m
    exact LamX.TabS.nil (by rw [← eq]; exact hC q hq)
  · rcases hS with (z | ⟨o, z⟩) | z
    · rcases hO a with q | ⟨_, q⟩ | ⟨o, xs, q⟩
      · rw [q] at z
        cases z
      · rw [q] at z
        cases z
      · rw [q] at z
        cases z
    · exact .inl ⟨o, z⟩
    · exact .inr (.inr z)
  · rw [e]
    intro io' H' x _ _ r
    obtain rfl := r.bl_inv
    exact hQ H'
theorem walk_ofT {l : PySem.W.OpenLaw} {n k : Nat} {q : Program} {loose : List Str} {XP : (Str → Option Value) → Heap → Prop} {YP : World → Heap → Prop} {d : DefRec} {x : Str}
    (hn : l.most = some n) (hn2 : n ≤ sizeLine) (hdf : d.params.defaults = []) (hr : Room k callerA)
    (F : ∀ (w : World) (mg : Str → Option Value) (fa : Addr) (h : Heap), YP w h → h.Ns mainGlobals mg → mg d.name = some (.ref fa) →
      ∃ (K : PySem.W.Frag) (fd : FuncData) (sp : Sp) (cs : List (Addr × Addr)), K.In h ∧ (∀ p ∈ cs, h.get? p.2 = some { cls := .none, data := .fields #[] }) ∧ (∀ p ∈ cs, K.lookup p.2 = none) ∧ (∀ p ∈ cs, PySem.W.CodeHd h p.1 p.2) ∧ (∀ (s : Shared) (u : Value), BindsTo s fd ⟨[u], []⟩ [(x, u)]) ∧
        (∀ (H : Hp) (a : Addr) (ns : List Int), ns.length ≤ n → OnlyT cs H → (∀ p ∈ cs, H p.2 = some (.tbl #[])) → SqL K H a (ns.map V.int) → sp [.ref a] H (fun v _ => v = .bl true) fun _ _ _ => False) ∧
        ∀ base : Heap, K.In base → base.Ns mainGlobals mg → (∀ p ∈ cs, LamX.TabB base mg p.1 p.2) → FnG l.prog w K mg base (L2.CX l.prog w) k fa fd [x] sp) :
    PySem.W.WalkO q loose XP YP l.row.toRowW d [] (fun f vs => PySem.call f vs) := by
  refine Att.attach_callB hn hdf fun w s₀ s₁ mg mb fa o pm cd doc a vs ns G Y ho hd hcd hmg hobj hints hlen hbits hg => ?_
  obtain ⟨K, fd, sp, cs, KX, hT, nT, C, hb, hsp, hF⟩ := F w mg fa _ Y G.T.g hmg
  exact law_run (cs := cs) KX G.T.g G.T.b G.T.builtins G.T.nolimit hg hT nT C G.T.bmain hobj hints (Nat.le_trans hlen hn2) (fun base H k1 k2 k3 hC hO hS e0 =>
    (hF base k1 k2 k3).2 callerA [] s₁ H ⟨[.ref a], []⟩ [.ref a] [.ref a] _ _ rfl hr e0 (hb s₁ (.ref a)) (.cons rfl .nil) (hsp H a ns hlen hO hC hS)) fun H e s' ⟨_, _, _, _, _, _, _, _, _, _, _, _, z⟩ => z
end Dn
namespace Q
open PySem Dn
def p__law_source : DS := (dSeq (dSet 2 (dC (.int 0))) (dSeq (dIfS (dTst (dOp ltAV (dVar 1) (dCB lenL (dCons (dVar 0) dNil))))
  (dSet 2 (dOp idxAV (dVar 0) (dVar 1)))
  dSkip) (dSeq (dSet 3 (dCB absL (dCons (dVar 2) dNil))) (dRet (dLst (dCons (dOp mulAV (dVar 3) (dCB intL (dCons (dOp geAV (dVar 3) (dOp powAV (dC (.int 10)) (dC (.int 18)))) dNil))) (dCons (dOp addAV (dOp addAV (dOp addAV (dOp modAV (dVar 2) (dC (.int 1000000000000000009))) (dOp mulAV (dOp mulAV (dC (.int 9439)) (dVar 1)) (dVar 1))) (dOp mulAV (dC (.int 47)) (dVar 1))) (dC (.int 13))) (dCons (dC (.int 0)) dNil))))))))
def f__law_source : DF := dFun 4 p__law_source
def p_Table_is_plain : DS := (dRet (dC (.bl true)))
def f_Table_is_plain : DF := dFun 1 p_Table_is_plain
def e_Table_ordered_1 : DE := (dVar 3)
def e_Table_ordered_2 : DE := (dVar 2)
def e_Table_ordered_3 : DE := (dCB intL (dCons (dVar 3) dNil))
def e_Table_ordered_4 : DE := (dOp idxAV (dVar 1) (dVar 3))
def p_Table_ordered : DS := (dSeq (dSet 1 (dLkE (dFld 1 (dVar 0)) (dDc (dDk 2 (dFld 1 (dVar 0))) (dgT (dgC (dgN 2) (dgC (dgN 3) dg0))) dYes e_Table_ordered_1 e_Table_ordered_2 [2, 3]))) (dRet (dLc (dSrc (dCB sortedL (dCons (dLkE (dVar 1) (dLc (dDk 0 (dVar 1)) (dgN 3) dYes e_Table_ordered_3 [3])) dNil))) (dgN 3) dYes e_Table_ordered_4 [3])))
def f_Table_ordered : DF := dFun 4 p_Table_ordered
def e_Table_pairs_1 : DE := (dTup (dCons (dVar 1) (dCons (dOp idxAV (dFld 0 (dVar 0)) (dVar 1)) dNil)))
def p_Table_pairs : DS := (dRet (dLc (dSrc (dMeth 0 f_Table_ordered 0 0 1 [0] [] (dVar 0) dNil dNil)) (dgN 1) dYes e_Table_pairs_1 [1]))
def f_Table_pairs : DF := dFun 2 p_Table_pairs
def e_is_word_1 : DE := (dOp inAV (dVar 1) (dC (.str "abcdefghijklmnopqrstuvwxyz")))
def p_is_word : DS := (dRet (dAndV (dCB (isiL ct0) (dCons (dVar 0) (dCons (dC (.ty "str")) dNil))) (dAndV (dChn leAV leAV (dC (.int 1)) (dCB lenL (dCons (dVar 0) dNil)) (dC (.int 6))) (dCB allL (dCons (dLc (dSrc (dVar 0)) (dgN 1) dYes e_is_word_1 [1]) dNil)))))
def f_is_word : DF := dFun 2 p_is_word
def p_is_integer : DS := (dRet (dAndV (dCB (isiL ct0) (dCons (dVar 0) (dCons (dC (.ty "int")) dNil))) (dNotV (dCB (isiL ct0) (dCons (dVar 0) (dCons (dC (.ty "bool")) dNil))))))
def f_is_integer : DF := dFun 1 p_is_integer
def p_is_short : DS := (dRet (dAndV (dCallC f_is_integer 1 0 1 [0] [] (dCons (dVar 0) dNil) dNil) (dOp ltAV (dCB absL (dCons (dVar 0) dNil)) (dOp powAV (dC (.int 10)) (dC (.int 12))))))
def f_is_short : DF := dFun 1 p_is_short
def p_is_item : DS := (dRet (dOrV (dCallC f_is_word 1 0 1 [0] [] (dCons (dVar 0) dNil) dNil) (dCallC f_is_short 1 0 1 [0] [] (dCons (dVar 0) dNil) dNil)))
def f_is_item : DF := dFun 1 p_is_item
def e_are_pairs_1 : DE := (dAndV (dCB (isiL ct0) (dCons (dVar 1) (dCons (dC (.ty "tuple")) dNil))) (dAndV (dOp eqAV (dCB lenL (dCons (dVar 1) dNil)) (dC (.int 2))) (dAndV (dCallC f_is_item 1 0 1 [0] [] (dCons (dOp idxAV (dVar 1) (dC (.int 0))) dNil) dNil) (dCallC f_is_item 1 0 1 [0] [] (dCons (dOp idxAV (dVar 1) (dC (.int 1))) dNil) dNil))))
def p_are_pairs : DS := (dSeq (dIfS (dNot (dTst (dIsLT ct0 "list" "tuple" (dVar 0))))
  (dRet (dC (.bl false)))
  dSkip) (dRet (dCB allL (dCons (dLc (dSrc (dVar 0)) (dgN 1) dYes e_are_pairs_1 [1]) dNil))))
def f_are_pairs : DF := dFun 2 p_are_pairs
def p_pairs_of : DS := (dSeq (dIfS (dTst (dCB (isiL ct0) (dCons (dVar 0) (dCons (dC (.cls 0)) dNil))))
  (dRet (dMeth 0 f_Table_pairs 0 0 1 [0] [] (dVar 0) dNil dNil))
  dSkip) (dSeq (dIfS (dTst (dCB (isiL ct0) (dCons (dVar 0) (dCons (dC (.ty "dict")) dNil))))
  (dRet (dLi (dVar 0)))
  dSkip) (dSeq (dIfS (dNot (dTst (dCallC f_are_pairs 1 0 1 [0] [] (dCons (dVar 0) dNil) dNil)))
  (dRaise0 2)
  dSkip) (dRet (dCB listL (dCons (dVar 0) dNil))))))
def f_pairs_of : DF := dFun 1 p_pairs_of
def e_Table_xinit_1 : DE := (dVar 3)
def e_Table_xinit_2 : DE := (dVar 4)
def e_Table_xinit_3 : DE := (dVar 3)
def e_Table_xinit_4 : DE := (dVar 5)
def p_Table_xinit : DS := (dSeq (dSet 2 (dIf (dTst (dMeth 0 f_Table_is_plain 0 0 1 [0] [] (dVar 0) dNil dNil)) (dCallC f_pairs_of 1 0 1 [0] [] (dCons (dVar 1) dNil) dNil) (dCB listL (dCons (dVar 1) dNil)))) (dSeq (dSetF 0 (dVar 0) (dDc (dSrc (dVar 2)) (dgT (dgC (dgN 3) (dgC (dgN 4) dg0))) dYes e_Table_xinit_1 e_Table_xinit_2 [3, 4])) (dSeq (dSetF 1 (dVar 0) (dLkE (dFld 0 (dVar 0)) (dDc (dDk 3 (dFld 0 (dVar 0))) (dgT (dgC (dgN 5) (dgC (dgN 3) dg0))) dYes e_Table_xinit_3 e_Table_xinit_4 [5, 3]))) (dSeq (dSetF 2 (dVar 0) (dC (.int 0))) (dSetF 3 (dVar 0) (dCB lenL (dCons (dFld 0 (dVar 0)) dNil)))))))
def f_Table_xinit : DF := dFun 6 p_Table_xinit
def p__law_draw : DS := (dSeq (dIfS (dTst (dOp gtAV (dOp idxAV (dVar 0) (dC (.int 0))) (dC (.int 0))))
  (dSeq (dSet 2 (dOp modAV (dOp idxAV (dVar 0) (dC (.int 0))) (dVar 1))) (dSeq (dPut (dVar 0) (dC (.int 0)) (dOp fdivAV (dOp idxAV (dVar 0) (dC (.int 0))) (dVar 1))) (dRet (dVar 2))))
  dSkip) (dSeq (dSet 3 (dTup (dCons (dC (.int 2147483647)) (dCons (dC (.int 2147483629)) (dCons (dC (.int 2147483587)) (dCons (dC (.int 2147483579)) (dCons (dC (.int 2147483563)) (dCons (dC (.int 2147483549)) (dCons (dC (.int 2147483543)) (dCons (dC (.int 2147483497)) dNil)))))))))) (dSeq (dPut (dVar 0) (dC (.int 2)) (dOp addAV (dOp idxAV (dVar 0) (dC (.int 2))) (dC (.int 1)))) (dSeq (dSet 4 (dOp idxAV (dVar 0) (dC (.int 2)))) (dSeq (dSet 5 (dOp addAV (dOp addAV (dOp mulAV (dOp idxAV (dVar 0) (dC (.int 1))) (dOp addAV (dOp mulAV (dC (.int 2)) (dVar 4)) (dC (.int 11)))) (dOp mulAV (dOp mulAV (dC (.int 6553)) (dVar 4)) (dVar 4))) (dC (.int 89)))) (dSeq (dSet 6 (dOp modAV (dOp powAV (dVar 5) (dC (.int 3))) (dOp idxAV (dVar 3) (dOp modAV (dVar 4) (dC (.int 8)))))) (dRet (dOp modAV (dOp fdivAV (dOp modAV (dOp mulAV (dVar 6) (dOp addAV (dOp fdivAV (dVar 6) (dC (.int 4093))) (dC (.int 31)))) (dOp idxAV (dVar 3) (dOp modAV (dOp addAV (dVar 4) (dC (.int 5))) (dC (.int 8))))) (dC (.int 16))) (dVar 1)))))))))
def f__law_draw : DF := dFun 7 p__law_draw
def p__law_item : DS := (dSeq (dSet 1 (dCallC f__law_draw 2 0 2 [0, 1] [] (dCons (dVar 0) (dCons (dC (.int 3)) dNil)) dNil)) (dSeq (dIfS (dTst (dOp eqAV (dVar 1) (dC (.int 0))))
  (dRet (dOp idxAV (dLst (dCons (dC (.str "a")) (dCons (dC (.str "b")) (dCons (dC (.str "ab")) (dCons (dC (.str "zzzzzz")) dNil))))) (dCallC f__law_draw 2 0 2 [0, 1] [] (dCons (dVar 0) (dCons (dC (.int 4)) dNil)) dNil)))
  dSkip) (dSeq (dIfS (dTst (dOp eqAV (dVar 1) (dC (.int 1))))
  (dRet (dOp idxAV (dLst (dCons (dC (.int 0)) (dCons (dC (.int 1)) (dCons (dUn negAV (dC (.int 1))) (dCons (dC (.int 7)) dNil))))) (dCallC f__law_draw 2 0 2 [0, 1] [] (dCons (dVar 0) (dCons (dC (.int 4)) dNil)) dNil)))
  dSkip) (dRet (dOp idxAV (dLst (dCons (dC (.int 999999999999)) (dCons (dUn negAV (dC (.int 999999999999))) (dCons (dC (.str "c")) (dCons (dC (.int 2)) dNil))))) (dCallC f__law_draw 2 0 2 [0, 1] [] (dCons (dVar 0) (dCons (dC (.int 4)) dNil)) dNil))))))
def f__law_item : DF := dFun 2 p__law_item
def e__law_pairs_1 : DE := (dTup (dCons (dCallC f__law_item 1 0 1 [0] [] (dCons (dVar 0) dNil) dNil) (dCons (dCallC f__law_item 1 0 1 [0] [] (dCons (dVar 0) dNil) dNil) dNil)))
def p__law_pairs : DS := (dRet (dLc (dRg1 (dCons (dCallC f__law_draw 2 0 2 [0, 1] [] (dCons (dVar 0) (dCons (dOp addAV (dVar 1) (dC (.int 1))) dNil)) dNil) dNil)) (dgN 2) dYes e__law_pairs_1 [2]))
def f__law_pairs : DF := dFun 3 p__law_pairs
def p__law_odd : DS := (dSeq (dSet 1 (dLst (dCons (dC .non) (dCons (dC (.bl true)) (dCons (dC (.bl false)) (dCons (dC (.str "")) (dCons (dC (.str "A")) (dCons (dC (.str "a b")) (dCons (dC (.str "abcdefg")) (dCons (dOp powAV (dC (.int 10)) (dC (.int 12))) (dCons (dOp subAV (dC (.int 0)) (dOp powAV (dC (.int 10)) (dC (.int 12)))) (dCons (dOp powAV (dC (.int 10)) (dC (.int 39))) (dCons (dLst dNil) (dCons (dTup dNil) (dCons (dTup (dCons (dC (.str "a")) dNil)) (dCons (dLst (dCons (dC (.str "a")) dNil)) (dCons (dC (.str "a1")) dNil))))))))))))))))) (dRet (dOp idxAV (dVar 1) (dCallC f__law_draw 2 0 2 [0, 1] [] (dCons (dVar 0) (dCons (dCB lenL (dCons (dVar 1) dNil)) dNil)) dNil))))
def f__law_odd : DF := dFun 2 p__law_odd
def b__law_error_1 (act : DAct) : DS := (dDrop (dAct act))
def b__law_error_2 (act : DAct) : DS := (dRet (dIf (dTst (dIsX xt0 1 "IndexError")) (dC (.str "empty")) (dC (.str ""))))
def b__law_error_3 (act : DAct) : DS := (dRet (dIf (dTst (dIsX xt0 1 "KeyError")) (dOp addAV (dC (.str "key ")) (dCB reprL (dCons (dXf 1 4) dNil))) (dC (.str ""))))
def b__law_error_4 (act : DAct) : DS := (dRet (dIf (dTst (dIsO xt0 1 5)) (dC (.str "pairs")) (dC (.str ""))))
def b__law_error_5 (act : DAct) : DS := (dRet (dIf (dAnd (dTst (dIsO xt0 1 5)) (dTst (dIsX xt0 1 "ValueError"))) (dOp addAV (dC (.str "item ")) (dCB reprL (dCons (dXf 1 4) dNil))) (dC (.str ""))))
def p__law_error (act : DAct) : DS := (dSeq (dTry xt0 (b__law_error_1 act) ((1, some 1, (b__law_error_5 act)) :: ((2, some 1, (b__law_error_4 act)) :: ((3, some 1, (b__law_error_3 act)) :: ((4, some 1, (b__law_error_2 act)) :: []))))) (dRet (dC (.str ""))))
def f__law_error : DAct → DAct := dHlp 2 p__law_error
def p_Table_enter : DS := (dSeq (dIfS (dTst (dOp notInAV (dVar 1) (dFld 0 (dVar 0))))
  (dSeq (dPut (dFld 1 (dVar 0)) (dVar 1) (dFld 3 (dVar 0))) (dAugF addII 3 (dVar 0) (dC (.int 1))))
  dSkip) (dPut (dFld 0 (dVar 0)) (dVar 1) (dVar 2)))
def f_Table_enter : DF := dFun 3 p_Table_enter
def b_Table_put_1 : DS := (dIfS (dNot (dTst (dCallC f_is_item 1 0 1 [0] [] (dCons (dVar 3) dNil) dNil)))
  (dRaiseI 1 4 (dVar 3))
  dSkip)
def p_Table_put : DS := (dSeq (dFor (dSrc (dTup (dCons (dVar 1) (dCons (dVar 2) dNil)))) (dgN 3) b_Table_put_1) (dDrop (dMeth 0 f_Table_enter 2 0 3 [0, 1, 2] [] (dVar 0) (dCons (dVar 1) (dCons (dVar 2) dNil)) dNil)))
def f_Table_put : DF := dFun 4 p_Table_put
def p_Table_xsetitem : DS := (dDrop (dMeth 0 f_Table_put 2 0 3 [0, 1, 2] [] (dVar 0) (dCons (dVar 1) (dCons (dVar 2) dNil)) dNil))
def f_Table_xsetitem : DF := dFun 3 p_Table_xsetitem
def p__law_store : DS := (dPutO 0 f_Table_xsetitem (dVar 0) (dVar 1) (dVar 2))
def f__law_store : DF := dFun 3 p__law_store
def p__law_items_right : DS := (dSeq (dIfS (dTst (dOp neAV (dLamC f__law_error (dMeth 0 f_Table_put 2 0 3 [0, 1, 2] [] (dVar 0) (dCons (dVar 1) (dCons (dVar 1) dNil)) dNil)) (dOp addAV (dC (.str "item ")) (dCB reprL (dCons (dVar 1) dNil)))))
  (dRet (dC (.bl false)))
  dSkip) (dSeq (dIfS (dTst (dOp neAV (dLamC f__law_error (dMeth 0 f_Table_put 2 0 3 [0, 1, 2] [] (dVar 0) (dCons (dC (.str "a")) (dCons (dVar 1) dNil)) dNil)) (dOp addAV (dC (.str "item ")) (dCB reprL (dCons (dVar 1) dNil)))))
  (dRet (dC (.bl false)))
  dSkip) (dSeq (dIfS (dTst (dOp neAV (dLamC f__law_error (dCallC f__law_store 3 0 3 [0, 1, 2] [] (dCons (dVar 0) (dCons (dVar 1) (dCons (dOp powAV (dC (.int 10)) (dC (.int 20))) dNil))) dNil)) (dOp addAV (dC (.str "item ")) (dCB reprL (dCons (dVar 1) dNil)))))
  (dRet (dC (.bl false)))
  dSkip) (dSeq (dIfS (dTst (dOp neAV (dLamC f__law_error (dCallC f__law_store 3 0 3 [0, 1, 2] [] (dCons (dVar 0) (dCons (dC (.str "a")) (dCons (dVar 1) dNil))) dNil)) (dOp addAV (dC (.str "item ")) (dCB reprL (dCons (dVar 1) dNil)))))
  (dRet (dC (.bl false)))
  dSkip) (dRet (dC (.bl true)))))))
def f__law_items_right : DF := dFun 2 p__law_items_right
def p_Table_xcontains : DS := (dRet (dAndV (dCallC f_is_item 1 0 1 [0] [] (dCons (dVar 1) dNil) dNil) (dOp inAV (dVar 1) (dFld 0 (dVar 0)))))
def f_Table_xcontains : DF := dFun 2 p_Table_xcontains
def p_Table_get : DS := (dRet (dIf (dTst (dOpX (inOK true 0 f_Table_xcontains) (dVar 1) (dVar 0))) (dOp idxAV (dFld 0 (dVar 0)) (dVar 1)) (dVar 2)))
def f_Table_get : DF := dFun 3 p_Table_get
def p_Table_xgetitem : DS := (dSeq (dIfS (dOr (dNot (dTst (dCallC f_is_item 1 0 1 [0] [] (dCons (dVar 1) dNil) dNil))) (dTst (dOp notInAV (dVar 1) (dFld 0 (dVar 0)))))
  (dRaiseI 3 4 (dVar 1))
  dSkip) (dRet (dOp idxAV (dFld 0 (dVar 0)) (dVar 1))))
def f_Table_xgetitem : DF := dFun 2 p_Table_xgetitem
def p_Table_drop : DS := (dSeq (dDrop (dPop1 (dFld 1 (dVar 0)) (dVar 1))) (dRet (dPop1 (dFld 0 (dVar 0)) (dVar 1))))
def f_Table_drop : DF := dFun 2 p_Table_drop
def p_Table_delete : DS := (dSeq (dIfS (dTst (dOpX (inOK false 0 f_Table_xcontains) (dVar 1) (dVar 0)))
  (dRaiseI 3 4 (dVar 1))
  dSkip) (dRet (dMeth 0 f_Table_drop 1 0 2 [0, 1] [] (dVar 0) (dCons (dVar 1) dNil) dNil)))
def f_Table_delete : DF := dFun 2 p_Table_delete
def p__law_keys_right : DS := (dSeq (dSet 2 (dOp addAV (dC (.str "key ")) (dCB reprL (dCons (dVar 1) dNil)))) (dSeq (dIfS (dOr (dTst (dOpX (inOK true 0 f_Table_xcontains) (dVar 1) (dVar 0))) (dOr (dTst (dOp notNonAV (dMeth 0 f_Table_get 1 0 3 [0, 1, 2] [.non] (dVar 0) (dCons (dVar 1) dNil) dNil) (dC .non))) (dTst (dOp neAV (dMeth 0 f_Table_get 2 0 3 [0, 1, 2] [.non] (dVar 0) (dCons (dVar 1) (dCons (dC (.int 3)) dNil)) dNil) (dC (.int 3))))))
  (dRet (dC (.bl false)))
  dSkip) (dSeq (dIfS (dTst (dOp neAV (dLamC f__law_error (dOpX (ixOK 0 f_Table_xgetitem) (dVar 0) (dVar 1))) (dVar 2)))
  (dRet (dC (.bl false)))
  dSkip) (dRet (dOp eqAV (dLamC f__law_error (dMeth 0 f_Table_delete 1 0 2 [0, 1] [] (dVar 0) (dCons (dVar 1) dNil) dNil)) (dVar 2))))))
def f__law_keys_right : DF := dFun 3 p__law_keys_right
def p_Table_to_end : DS := (dSeq (dIfS (dTst (dOpX (inOK false 0 f_Table_xcontains) (dVar 1) (dVar 0)))
  (dRaiseI 3 4 (dVar 1))
  dSkip) (dIfS (dTst (dVar 2))
  (dSeq (dPut (dFld 1 (dVar 0)) (dVar 1) (dFld 3 (dVar 0))) (dAugF addII 3 (dVar 0) (dC (.int 1))))
  (dSeq (dAugF subII 2 (dVar 0) (dC (.int 1))) (dPut (dFld 1 (dVar 0)) (dVar 1) (dFld 2 (dVar 0))))))
def f_Table_to_end : DF := dFun 3 p_Table_to_end
def p__law_ends_right : DS := (dSeq (dSet 2 (dOp addAV (dC (.str "key ")) (dCB reprL (dCons (dVar 1) dNil)))) (dSeq (dIfS (dTst (dOp neAV (dLamC f__law_error (dMeth 0 f_Table_to_end 1 0 3 [0, 1, 2] [(.bl true)] (dVar 0) (dCons (dVar 1) dNil) dNil)) (dVar 2)))
  (dRet (dC (.bl false)))
  dSkip) (dRet (dOp eqAV (dLamC f__law_error (dMeth 0 f_Table_to_end 1 1 3 [0, 1, 2] [] (dVar 0) (dCons (dVar 1) dNil) (dCons (dC (.bl false)) dNil))) (dVar 2)))))
def f__law_ends_right : DF := dFun 3 p__law_ends_right
def b_Table_update_1 : DS := (dDrop (dMeth 0 f_Table_enter 2 0 3 [0, 1, 2] [] (dVar 0) (dCons (dVar 2) (dCons (dVar 3) dNil)) dNil))
def p_Table_update : DS := (dFor (dSrc (dCallC f_pairs_of 1 0 1 [0] [] (dCons (dVar 1) dNil) dNil)) (dgT (dgC (dgN 2) (dgC (dgN 3) dg0))) b_Table_update_1)
def f_Table_update : DF := dFun 4 p_Table_update
def b__law_pairs_right_1 : DS := (dSeq (dIfS (dTst (dOp neAV (dLamC f__law_error (dMeth 0 f_Table_update 1 0 2 [0, 1] [] (dVar 0) (dCons (dVar 3) dNil) dNil)) (dC (.str "pairs"))))
  (dRet (dC (.bl false)))
  dSkip) (dIfS (dTst (dOp neAV (dLamC f__law_error (dMake 0 f_Table_xinit 1 0 2 [0, 1] [(.tup [])] (dCons (dVar 3) dNil) dNil)) (dC (.str "pairs"))))
  (dRet (dC (.bl false)))
  dSkip))
def p__law_pairs_right : DS := (dSeq (dSet 2 (dLst (dCons (dC .non) (dCons (dC (.int 5)) (dCons (dC (.bl true)) (dCons (dC (.str "ab")) (dCons (dC (.str "")) (dCons (dLst (dCons (dVar 1) dNil)) (dCons (dTup (dCons (dC (.str "a")) (dCons (dC (.int 1)) dNil))) (dCons (dLst (dCons (dC (.str "a")) (dCons (dC (.int 1)) dNil))) (dCons (dLst (dCons (dTup (dCons (dC (.str "a")) (dCons (dC (.int 1)) (dCons (dC (.int 2)) dNil)))) dNil)) (dCons (dLst (dCons (dTup (dCons (dC (.str "a")) dNil)) dNil)) (dCons (dLst (dCons (dLst (dCons (dC (.str "a")) (dCons (dC (.int 1)) dNil))) dNil)) (dCons (dLst (dCons (dTup (dCons (dC (.str "a")) (dCons (dVar 1) dNil))) dNil)) dNil)))))))))))))) (dSeq (dFor (dSrc (dOp addAV (dVar 2) (dLst (dCons (dLst (dCons (dTup (dCons (dVar 1) (dCons (dC (.str "a")) dNil))) dNil)) (dCons (dLst (dCons (dTup (dCons (dC (.str "a")) (dCons (dC (.int 1)) dNil))) (dCons (dTup (dCons (dVar 1) (dCons (dVar 1) dNil))) dNil))) (dCons (dTup (dCons (dTup (dCons (dC (.str "b")) (dCons (dC (.int 2)) dNil))) (dCons (dVar 1) dNil))) (dCons (dLst (dCons (dTup (dCons (dC (.str "b")) (dCons (dC (.int 2)) dNil))) (dCons (dTup (dCons (dC (.str "c")) dNil)) dNil))) dNil))))))) (dgN 3) b__law_pairs_right_1) (dRet (dC (.bl true)))))
def f__law_pairs_right : DF := dFun 4 p__law_pairs_right
def p_Table_pop_at : DS := (dSeq (dIfS (dTst (dOp eqDA (dFld 0 (dVar 0)) dD0))
  (dRaise0 4)
  dSkip) (dSeq (dSet 2 (dOp idxAV (dMeth 0 f_Table_ordered 0 0 1 [0] [] (dVar 0) dNil dNil) (dVar 1))) (dRet (dTup (dCons (dVar 2) (dCons (dMeth 0 f_Table_drop 1 0 2 [0, 1] [] (dVar 0) (dCons (dVar 2) dNil) dNil) dNil))))))
def f_Table_pop_at : DF := dFun 3 p_Table_pop_at
def p_Table_pop_last : DS := (dRet (dMeth 0 f_Table_pop_at 1 0 2 [0, 1] [] (dVar 0) (dCons (dUn negAV (dC (.int 1))) dNil) dNil))
def f_Table_pop_last : DF := dFun 1 p_Table_pop_last
def p_Table_pop_first : DS := (dRet (dMeth 0 f_Table_pop_at 1 0 2 [0, 1] [] (dVar 0) (dCons (dC (.int 0)) dNil) dNil))
def f_Table_pop_first : DF := dFun 1 p_Table_pop_first
def b_law_1 : DS := (dSeq (dSet 6 (dCallC f__law_odd 1 0 1 [0] [] (dCons (dVar 2) dNil) dNil)) (dSeq (dIfS (dOr (dNot (dTst (dCallC f__law_items_right 2 0 2 [0, 1] [] (dCons (dVar 3) (dCons (dVar 6) dNil)) dNil))) (dNot (dTst (dCallC f__law_keys_right 2 0 2 [0, 1] [] (dCons (dVar 3) (dCons (dVar 6) dNil)) dNil))))
  (dRet (dC (.bl false)))
  dSkip) (dIfS (dOr (dNot (dTst (dCallC f__law_ends_right 2 0 2 [0, 1] [] (dCons (dVar 3) (dCons (dVar 6) dNil)) dNil))) (dOr (dNot (dTst (dCallC f__law_pairs_right 2 0 2 [0, 1] [] (dCons (dVar 3) (dCons (dVar 6) dNil)) dNil))) (dTst (dOp neAV (dMeth 0 f_Table_pairs 0 0 1 [0] [] (dVar 3) dNil dNil) (dVar 4)))))
  (dRet (dC (.bl false)))
  dSkip)))
def b_law_2 : DS := (dIfS (dOr (dNot (dTst (dCallC f__law_keys_right 2 0 2 [0, 1] [] (dCons (dVar 3) (dCons (dVar 7) dNil)) dNil))) (dNot (dTst (dCallC f__law_ends_right 2 0 2 [0, 1] [] (dCons (dVar 3) (dCons (dVar 7) dNil)) dNil))))
  (dRet (dC (.bl false)))
  dSkip)
def b_law_3 : DS := (dSeq (dSet 2 (dCallC f__law_source 2 0 2 [0, 1] [] (dCons (dVar 0) (dCons (dVar 1) dNil)) dNil)) (dSeq (dSet 3 (dMake 0 f_Table_xinit 1 0 2 [0, 1] [(.tup [])] (dCons (dCallC f__law_pairs 2 0 2 [0, 1] [] (dCons (dVar 2) (dCons (dC (.int 5)) dNil)) dNil) dNil) dNil)) (dSeq (dSet 4 (dMeth 0 f_Table_pairs 0 0 1 [0] [] (dVar 3) dNil dNil)) (dSeq (dFor (dRg1 (dCons (dC (.int 8)) dNil)) (dgN 5) b_law_1) (dSeq (dFor (dSrc (dLst (dCons (dC (.str "q")) (dCons (dC (.int 123)) (dCons (dUn negAV (dC (.int 7))) dNil))))) (dgN 7) b_law_2) (dSeq (dSet 8 (dMake 0 f_Table_xinit 0 0 2 [0, 1] [(.tup [])] dNil dNil)) (dSeq (dIfS (dOr (dTst (dOp neAV (dLamC f__law_error (dMeth 0 f_Table_pop_last 0 0 1 [0] [] (dVar 8) dNil dNil)) (dC (.str "empty")))) (dTst (dOp neAV (dMeth 0 f_Table_pairs 0 0 1 [0] [] (dVar 8) dNil dNil) (dLst dNil))))
  (dRet (dC (.bl false)))
  dSkip) (dIfS (dOr (dTst (dOp neAV (dLamC f__law_error (dMeth 0 f_Table_pop_first 0 0 1 [0] [] (dVar 8) dNil dNil)) (dC (.str "empty")))) (dTst (dOp neAV (dMeth 0 f_Table_pairs 0 0 1 [0] [] (dVar 3) dNil dNil) (dVar 4))))
  (dRet (dC (.bl false)))
  dSkip))))))))
def p_law : DS := (dSeq (dFor (dRg1 (dCons (dCB maxL (dCons (dC (.int 2)) (dCons (dCB minL (dCons (dC (.int 3)) (dCons (dCB lenL (dCons (dVar 0) dNil)) dNil))) dNil))) dNil)) (dgN 1) b_law_3) (dRet (dC (.bl true))))
def f_law : DF := dFun 9 p_law
end Q
namespace Q
open PySem Dn
theorem isint_int (i : Int) (h : Hep) : f_is_integer [.int i] h = .ok (.bl true) h := by rfl
theorem short_int (i : Int) (h : Hep) (hi : i.natAbs < 10 ^ 12) : f_is_short [.int i] h = .ok (.bl true) h := by
  simp [f_is_short, dFun, dStart, p_is_short, isint_int, absL, pow_ii]
  omega
/-- a source: its parts -/
structure Sr (h : Hep) (s : Nat) (y : Int) (k : Nat) : Prop where
  ex : ∃ x z, h[s]? = some (.lst [.int x, .int y, .int z]) ∧ 0 ≤ x ∧ 0 ≤ z ∧ z ≤ k
  y0 : 0 ≤ y
  y1 : y < 2000000000000000000
theorem primes {r : Int} (h0 : 0 ≤ r) (h1 : r < 8) : ∃ p, L2.atI [AV.int 2147483647, .int 2147483629, .int 2147483587, .int 2147483579, .int 2147483563, .int 2147483549, .int 2147483543, .int 2147483497] r = some (.int p) ∧ 2147483497 ≤ p ∧ p < 2147483648 := by
  have : r = 0 ∨ r = 1 ∨ r = 2 ∨ r = 3 ∨ r = 4 ∨ r = 5 ∨ r = 6 ∨ r = 7 := by omega
  rcases this with rfl | rfl | rfl | rfl | rfl | rfl | rfl | rfl <;> exact ⟨_, rfl, by decide, by decide⟩
theorem at3_0 {a b c : AV} : L2.atI [a, b, c] 0 = some a := rfl
theorem at3_1 {a b c : AV} : L2.atI [a, b, c] 1 = some b := rfl
theorem at3_2 {a b c : AV} : L2.atI [a, b, c] 2 = some c := rfl
theorem draw_ok {h : Hep} {s k : Nat} {y m : Int} (S : Sr h s y k) (hm : 0 < m) (hm2 : m < 1000000) (hk : k < 100000) :
    ∃ d h', 0 ≤ d ∧ d < m ∧ f__law_draw [.ref s, .int m] h = .ok (.int d) h' ∧ Fr [s] h h' ∧ h'.length = h.length ∧ Sr h' s y (k + 1) := by
  obtain ⟨⟨x, z, e, hx, hz, hz2⟩, hy, hy2⟩ := S
  have hl := (List.getElem?_eq_some_iff.mp e).1
  have fin : ∀ d x' z' : Int, 0 ≤ d → d < m → 0 ≤ x' → 0 ≤ z' → z' ≤ z + 1 → f__law_draw [.ref s, .int m] h = .ok (.int d) (h.set s (.lst [.int x', .int y, .int z'])) →
      ∃ d h', 0 ≤ d ∧ d < m ∧ f__law_draw [.ref s, .int m] h = .ok (.int d) h' ∧ Fr [s] h h' ∧ h'.length = h.length ∧ Sr h' s y (k + 1) := fun d x' z' h1 h2 h3 h4 h5 he =>
    ⟨d, _, h1, h2, he, Fr.set (by simp), by simp, ⟨x', z', by simp [hl], h3, h4, by omega⟩, hy, hy2⟩
  by_cases h0 : 0 < x
  · refine fin (x % m) (x / m) z (Int.emod_nonneg _ (by omega)) (Int.emod_lt_of_pos _ hm) (Int.ediv_nonneg hx (by omega)) hz (by omega) ?_
    have hm3 : m < 1073741824 := by omega
    simp [f__law_draw, dFun, dStart, p__law_draw, idxAV, seqOf, tupOf, lstOf, e, putAV, at3_0, at3_1, at3_2, L2.ixN, h0, hm, hm3]
  · have hb0 : 0 ≤ y * (2 * (z + 1) + 11) := Int.mul_nonneg hy (by omega)
    have hb1 : y * (2 * (z + 1) + 11) ≤ 2000000000000000000 * 300000 := Int.mul_le_mul (by omega) (by omega) (by omega) (by omega)
    have hb2 : 0 ≤ (z + 1) * (z + 1) := Int.mul_nonneg (by omega) (by omega)
    have hb3 : (z + 1) * (z + 1) ≤ 100001 * 100001 := Int.mul_le_mul (by omega) (by omega) (by omega) (by omega)
    have hb : (y * (2 * (z + 1) + 11) + 6553 * (z + 1) * (z + 1) + 89).natAbs < 2 ^ 200 := by
      have : 6553 * (z + 1) * (z + 1) = 6553 * ((z + 1) * (z + 1)) := Int.mul_assoc _ _ _
      rw [this]
      omega
    have p1 : ∃ p, L2.atI [AV.int 2147483647, .int 2147483629, .int 2147483587, .int 2147483579, .int 2147483563, .int 2147483549, .int 2147483543, .int 2147483497] ((z + 1) % 8) = some (.int p) ∧ 2147483497 ≤ p ∧ p < 2147483648 := primes (by omega) (by omega)
    have p2 : ∃ p, L2.atI [AV.int 2147483647, .int 2147483629, .int 2147483587, .int 2147483579, .int 2147483563, .int 2147483549, .int 2147483543, .int 2147483497] ((z + 1 + 5) % 8) = some (.int p) ∧ 2147483497 ≤ p ∧ p < 2147483648 := primes (by omega) (by omega)
    obtain ⟨q1, e1, l1, u1⟩ := p1
    obtain ⟨q2, e2, l2, u2⟩ := p2
    have m1 : ∀ j, mulOk y j = true := fun j => mulOk_l (by omega) (by omega)
    have m2 : ∀ j, mulOk 2 j = true := fun j => mulOk_l (by omega) (by omega)
    have m3 : ∀ j, mulOk 6553 j = true := fun j => mulOk_l (by omega) (by omega)
    have m4 : ∀ i, mulOk i (z + 1) = true := fun j => mulOk_r (by omega) (by omega)
    generalize hB : y * (2 * (z + 1) + 11) + 6553 * (z + 1) * (z + 1) + 89 = B at hb
    have f0 : 0 ≤ B ^ 3 % q1 := Int.emod_nonneg _ (by omega)
    have f1 : B ^ 3 % q1 < q1 := Int.emod_lt_of_pos _ (by omega)
    have pw : ∀ h, powAV (.int B) (.int 3) h = some (.int (B ^ 3), h) := fun h => pow_ii (by omega) (by omega) hb
    generalize hA : B ^ 3 % q1 = A at f0 f1
    have m5 : ∀ j, mulOk A j = true := fun j => mulOk_l (by omega) (by omega)
    have hm3 : m < 1073741824 := by omega
    have w1 : 0 < q1 := by omega
    have w2 : 0 < q2 := by omega
    refine fin (A * (A / 4093 + 31) % q2 / 16 % m) x (z + 1) (Int.emod_nonneg _ (by omega)) (Int.emod_lt_of_pos _ hm) hx (by omega) (by omega) ?_
    have i0 : idxAV (.ref s) (.int 0) h = some (.int x, h) := idx_lst e rfl
    have i2 : idxAV (.ref s) (.int 2) h = some (.int z, h) := idx_lst e rfl
    have pz : putAV (.ref s) (.int 2) (.int (z + 1)) h = some (h.set s (.lst [.int x, .int y, .int (z + 1)])) := put_lst (j := 2) e (by simp)
    have e3 : (h.set s (.lst [.int x, .int y, .int (z + 1)]))[s]? = some (.lst [.int x, .int y, .int (z + 1)]) := by simp [hl]
    generalize h.set s (.lst [.int x, .int y, .int (z + 1)]) = g at pz e3 ⊢
    have j1 : idxAV (.ref s) (.int 1) g = some (.int y, g) := idx_lst e3 rfl
    have j2 : idxAV (.ref s) (.int 2) g = some (.int (z + 1), g) := idx_lst e3 rfl
    have t1 := idx_tup (h := g) e1
    have t2 := idx_tup (h := g) e2
    simp [f__law_draw, dFun, dStart, p__law_draw, i0, i2, pz, j1, j2, t1, t2, h0, mkT, m1, m2, m3, m4, m5, hB, pw, hA, w1, w2, hm, hm3]
/-- items -/
inductive Iv where
  | i (n : Int) | s (x : Str)
  deriving DecidableEq
def Iv.av : Iv → AV
  | .i n => .int n
  | .s x => .str x
def Iv.pd : Iv → PyData
  | .i n => .int n
  | .s x => .str x
def okC (x : Str) : Bool := decide (1 ≤ x.cps.size ∧ x.cps.size ≤ 6) && x.cps.toList.all fun c => decide (97 ≤ c ∧ c ≤ 122)
def Iv.okB : Iv → Bool
  | .i n => decide (n.natAbs < 1000000000000)
  | .s x => okC x
@[simp] theorem Iv.nx (v : Iv) : v.av.nx = true := by cases v <;> rfl
theorem isi_str (x : Str) (h : Hep) : isiL ct0 [.str x, .ty "str"] h = some (.bl true, h) := rfl
theorem isi_int (i : Int) (h : Hep) : isiL ct0 [.int i, .ty "str"] h = some (.bl false, h) := rfl
theorem sign_in {c : Nat} (h1 : 97 ≤ c) (h2 : c ≤ 122) (g : Hep) : inAV (.str ⟨#[c]⟩) (.str "abcdefghijklmnopqrstuvwxyz") g = some (.bl true, g) := by
  have z : ∀ c : Fin 26, inStr ⟨#[97 + c.val]⟩ "abcdefghijklmnopqrstuvwxyz" = true := by decide +kernel
  have z2 := z ⟨c - 97, by omega⟩
  have e : 97 + (c - 97) = c := by omega
  simp only [e] at z2
  simp [inAV, inB, z2]
theorem bls_true : ∀ n : Nat, blsOf (List.replicate n (.bl true)) = some (List.replicate n true)
  | 0 => rfl
  | n + 1 => by
    rw [List.replicate_succ]
    simp [blsOf, bls_true n, List.replicate_succ]
theorem word_ok (x : Str) (hx : okC x = true) (h : Hep) : ∃ h', f_is_word [.str x] h = .ok (.bl true) h' ∧ Fr [] h h' := by
  obtain ⟨h1, h2⟩ := Bool.and_eq_true_iff.mp hx
  have h1 := of_decide_eq_true h1
  rw [List.all_eq_true] at h2
  have ln : lenL [.str x] h = some (.int x.cps.size, h) := by
    have q : x.cps.size ≤ 1000000 := by omega
    simp [lenL, lenA, Str.length, q]
  obtain ⟨acc, g, e, ⟨ea, fr⟩, eD⟩ := lc_fix (f := dSrc (dVar 0)) (te := e_is_word_1) (g := dgN 1) (vs := [1]) (s := [some (.str x), none]) (h := h) (h1 := h) (xs := x.cps.toList.map fun c => .str ⟨#[c]⟩)
    (fun i acc g => acc = List.replicate i (.bl true) ∧ Fr [] h g) (by simp [dSrc]) (by simp; omega) ⟨rfl, Fr.app⟩
    (fun i acc g y hy ⟨ea, fr⟩ eD => by
      rw [List.getElem?_map] at hy
      cases z : x.cps.toList[i]? with
      | none =>
        rw [z] at hy
        cases hy
      | some c =>
        rw [z] at hy
        cases hy
        have hc := of_decide_eq_true (h2 c (List.mem_of_getElem? z))
        refine ⟨_, .bl true, g, rfl, ?_, eD, ?_, fr.set_new (Nat.le_refl _)⟩
        · simp [wipeS, e_is_word_1, sign_in hc.1 hc.2]
        · rw [ea, List.replicate_succ'])
  refine ⟨g, ?_, fr⟩
  have hl1 : (1 : Int) ≤ (x.cps.size : Int) := by omega
  have hl2 : (x.cps.size : Int) ≤ 6 := by omega
  have al : allL [.ref h.length] g = some (.bl true, g) := by
    subst ea
    simp [allL, seqOf, tupOf, lstOf, eD, bls_true]
  simp [f_is_word, dFun, dStart, p_is_word, isi_str, ln, hl1, hl2, e, al]
theorem word_i (i : Int) (h : Hep) : f_is_word [.int i] h = .ok (.bl false) h := by
  simp [f_is_word, dFun, dStart, p_is_word, isi_int]
theorem item_ok (v : Iv) (hv : v.okB = true) (h : Hep) : ∃ h', f_is_item [v.av] h = .ok (.bl true) h' ∧ Fr [] h h' := by
  cases v with
  | s x =>
    obtain ⟨g, e, fr⟩ := word_ok x hv h
    exact ⟨g, by simp [Iv.av, f_is_item, dFun, dStart, p_is_item, e], fr⟩
  | i k =>
    have hk : k.natAbs < 10 ^ 12 := of_decide_eq_true hv
    exact ⟨h, by simp [Iv.av, f_is_item, dFun, dStart, p_is_item, word_i, short_int _ _ hk], Fr.refl⟩
/-! as data -/
theorem Iv.dr (v : Iv) (h : Hep) : Dr h v.av v.pd := by
  cases v
  · exact .int _
  · exact .str _
theorem okC_str {x : Str} (hx : okC x = true) : PyData.strOk x = true := by
  obtain ⟨_, h2⟩ := Bool.and_eq_true_iff.mp hx
  rw [List.all_eq_true] at h2
  unfold PyData.strOk
  rw [← Array.all_toList, List.all_eq_true]
  intro c hc
  have := of_decide_eq_true (h2 c hc)
  exact decide_eq_true (by omega)
theorem Iv.can {v : Iv} (hv : v.okB = true) : v.pd.canLay0 = true := by
  cases v with
  | i n => simp [Iv.pd, PyData.canLay0]
  | s x => simp [Iv.pd, PyData.canLay0, okC_str hv]
theorem Iv.dep (v : Iv) : v.pd.depth ≤ 0 := by
  cases v <;> simp [Iv.pd, PyData.depth]
theorem Iv.eqv (v w : Iv) : PyData.eqv v.pd w.pd = decide (v = w) := by
  cases v <;> cases w <;> simp [Iv.pd, PyData.eqv] <;> rw [Bool.eq_iff_iff] <;> simp
abbrev okL (l : List Iv) : Prop := ∀ v ∈ l, v.okB = true
/-! tables -/
def plD (pl : List (L2.Key × Int)) : List (L2.Key × AV) := pl.map fun z => (z.1, .int z.2)
/-- the table at t: its dict of values at p, its dict of places at q -/
structure Tc (cl : Nat) (h : Hep) (t p q : Nat) (kv : List (L2.Key × AV)) (pl : List (L2.Key × Int)) (fp np : Int) : Prop where
  ob : h[t]? = some (.ins cl [(0, .ref p), (1, .ref q), (2, .int fp), (3, .int np)])
  hd : h[p]? = some (.dK kv)
  ps : h[q]? = some (.dK (plD pl))
  n1 : (kv.map (·.1)).Nodup
  n2 : (pl.map (·.1)).Nodup
  n3 : (pl.map (·.2)).Nodup
  ks : ∀ k, k ∈ pl.map (·.1) ↔ k ∈ kv.map (·.1)
  l1 : kv.length ≤ 1000
  l2 : pl.length ≤ 1000
  ne : p ≠ q
  lt : ∀ z ∈ pl, z.2 < np
  ge : ∀ z ∈ pl, fp ≤ z.2
  fn : fp ≤ np
abbrev Tb := Tc 0
theorem Tc.fr {h h' : Hep} {t p q : Nat} {kv : List (L2.Key × AV)} {pl : List (L2.Key × Int)} {fp np : Int} {ex : List Nat} (T : Tc cl h t p q kv pl fp np) (f : Fr ex h h') (h1 : t ∉ ex) (h2 : p ∉ ex) (h3 : q ∉ ex) : Tc cl h' t p q kv pl fp np :=
  ⟨f.at T.ob h1, f.at T.hd h2, f.at T.ps h3, T.n1, T.n2, T.n3, T.ks, T.l1, T.l2, T.ne, T.lt, T.ge, T.fn⟩
theorem Tc.tp {h : Hep} {t p q : Nat} {kv : List (L2.Key × AV)} {pl : List (L2.Key × Int)} {fp np : Int} (T : Tc cl h t p q kv pl fp np) : t ≠ p := fun e => by
  have := T.ob.symm.trans (e ▸ T.hd)
  cases this
theorem Tc.tq {h : Hep} {t p q : Nat} {kv : List (L2.Key × AV)} {pl : List (L2.Key × Int)} {fp np : Int} (T : Tc cl h t p q kv pl fp np) : t ≠ q := fun e => by
  have := T.ob.symm.trans (e ▸ T.ps)
  cases this
/-- the key at a place -/
def kof (pl : List (L2.Key × Int)) (c : Int) : L2.Key := ((pl.find? fun z => decide (z.2 = c)).map (·.1)).getD (.inl 0)
def srt (pl : List (L2.Key × Int)) : List Int := (pl.map (·.2)).mergeSort leI
def ord (pl : List (L2.Key × Int)) : List L2.Key := (srt pl).map (kof pl)
def prs (kv : List (L2.Key × AV)) (pl : List (L2.Key × Int)) : List AV := (ord pl).map fun k => .tup [ofKey k, (dget kv k).getD .non]
def fnd (pl : List (L2.Key × Int)) : List (L2.Key × AV) := pl.map fun z => (.inl z.2, ofKey z.1)
theorem fnd_nd {pl : List (L2.Key × Int)} (n : (pl.map (·.2)).Nodup) : mergeA [] (fnd pl) = fnd pl := by
  have e := merge_nd (fnd pl) [] (by
    show ((fnd pl).map (·.1)).Nodup
    have : (fnd pl).map (·.1) = (pl.map (·.2)).map (Sum.inl : Int → L2.Key) := by simp [fnd, Function.comp_def]
    rw [this]
    exact List.Pairwise.map _ (fun a b h z => h (by cases z; rfl)) n)
  simpa using e
theorem fnd_get {pl : List (L2.Key × Int)} {c : Int} (h : c ∈ pl.map (·.2)) : dget (fnd pl) (.inl c) = some (ofKey (kof pl c)) := by
  have e : ∀ l : List (L2.Key × Int), c ∈ l.map (·.2) → ((fnd l).find? fun kv => decide (kv.1 = (.inl c : L2.Key))).map (·.2) = some (ofKey (kof l c)) := fun l => by
    induction l with
    | nil => intro z; cases z
    | cons z r ih =>
      intro m
      by_cases q : z.2 = c
      · simp [fnd, kof, q]
      · have m2 : c ∈ r.map (·.2) := by
          rw [List.map_cons, List.mem_cons] at m
          rcases m with rfl | m
          · exact absurd rfl q
          · exact m
        have := ih m2
        simp only [fnd, kof, List.map_cons, List.find?_cons] at this ⊢
        have q1 : decide ((Sum.inl z.2 : L2.Key) = .inl c) = false := decide_eq_false fun w => q (by cases w; rfl)
        have q2 : decide (z.2 = c) = false := decide_eq_false q
        simp only [q1, q2]
        exact this
  exact e pl h
theorem src_dk {f : DE} {s : Sl} {h h1 : Hep} {n w : Nat} {kvs : List (L2.Key × AV)} (ef : f s h = .ok (.ref n) h1) (e : h1[n]? = some (.frz (.dK kvs))) : dDk w f s h = .ok (.dK n w) h1 := by
  simp [dDk, ef, e]
theorem next_dk {h : Hep} {n w i : Nat} {kvs : List (L2.Key × AV)} (e : h[n]? = some (.frz (.dK kvs))) : (Src.dK n w).next i h = some (kvs[i]?.map (pickD w i)) := by
  simp [Src.next, e]
theorem len_dk {h : Hep} {n w : Nat} {kvs : List (L2.Key × AV)} (e : h[n]? = some (.frz (.dK kvs))) : (Src.dK n w).len h = kvs.length := by
  simp [Src.len, e]
theorem ints_of (l : List Int) : intsOf (l.map AV.int) = some l := by
  induction l with
  | nil => rfl
  | cons a r ih => simp [intsOf, ih]
theorem app_at {h : Hep} {a : AO} {n : Nat} {o : AO} (e : h[n]? = some o) : (h ++ [a])[n]? = some o := by
  rw [List.getElem?_append_left (lt_of e)]
  exact e
/-- the dict of places, turned about -/
theorem found_ok {h : Hep} {t p q : Nat} {kv : List (L2.Key × AV)} {pl : List (L2.Key × Int)} {fp np : Int} (T : Tc cl h t p q kv pl fp np) (a b c : Option AV) :
    dLkE (dFld 1 (dVar 0)) (dDc (dDk 2 (dFld 1 (dVar 0))) (dgT (dgC (dgN 2) (dgC (dgN 3) dg0))) dYes e_Table_ordered_1 e_Table_ordered_2 [2, 3]) [some (.ref t), a, b, c] h = .ok (.ref h.length) (h ++ [AO.dK (fnd pl)]) := by
  have hq := lt_of T.ps
  have e1 : dFld 1 (dVar 0) [some (.ref t), a, b, c] h = .ok (.ref q) h := by simp [ins_of T.ob]
  refine lk_pure e1 T.ps ?_
  have ob2 : (h.set q (.frz (.dK (plD pl))))[t]? = some (.ins cl [(0, .ref p), (1, .ref q), (2, .int fp), (3, .int np)]) := by
    rw [List.getElem?_set_ne (Ne.symm T.tq)]
    exact T.ob
  have at2 : (h.set q (.frz (.dK (plD pl))))[q]? = some (.frz (.dK (plD pl))) := List.getElem?_set_self hq
  have e2 : dFld 1 (dVar 0) [some (.ref t), a, b, c] (h.set q (.frz (.dK (plD pl)))) = .ok (.ref q) (h.set q (.frz (.dK (plD pl)))) := by simp [ins_of ob2]
  have r := dc_pure (g := dgT (dgC (dgN 2) (dgC (dgN 3) dg0))) (tk := e_Table_ordered_1) (tv := e_Table_ordered_2) (vs := [2, 3]) (xs := (plD pl).map (pickD 2 0)) (kvs := fnd pl) (src_dk (w := 2) e2 at2) (by simp [fnd, plD]) (by have := T.l2; simp [plD]; omega)
    (by rw [len_dk at2]; simp) (fun acc i => by rw [next_dk (app_at at2), List.getElem?_map]; rfl) (fun i x k v acc hx hk => by
      simp only [fnd, plD, List.getElem?_map, Option.map_map] at hx hk
      cases z : pl[i]? with
      | none =>
        rw [z] at hx
        cases hx
      | some y =>
        rw [z] at hx hk
        cases hx
        cases hk
        refine ⟨[some (.ref t), a, some (ofKey y.1), some (.int y.2)], rfl, ?_, ?_⟩
        · rfl
        · show dVar 2 _ _ = _
          cases y.1 <;> rfl)
  rw [fnd_nd T.n3] at r
  rw [r]
  simp
theorem mem_srt {pl : List (L2.Key × Int)} {c : Int} (h : c ∈ srt pl) : c ∈ pl.map (·.2) := (List.mergeSort_perm _ _).mem_iff.mp h
theorem srt_len (pl : List (L2.Key × Int)) : (srt pl).length = pl.length := by
  simp [srt, List.length_mergeSort]
theorem ordered_ok {h : Hep} {t p q : Nat} {kv : List (L2.Key × AV)} {pl : List (L2.Key × Int)} {fp np : Int} (T : Tc cl h t p q kv pl fp np) : ∃ m h', f_Table_ordered [.ref t] h = .ok (.ref m) h' ∧ Fr [] h h' ∧ h.length ≤ m ∧ h'[m]? = some (.lst ((ord pl).map ofKey)) := by
  have e1 := found_ok T none none none
  have l2 := T.l2
  -- the list of places
  have f1 : (h ++ [AO.dK (fnd pl)])[h.length]? = some (.dK (fnd pl)) := at_last
  have fr1 : Fr [] h (h ++ [AO.dK (fnd pl)]) := Fr.app
  generalize h ++ [AO.dK (fnd pl)] = g1 at e1 f1 fr1
  have s1 : ∀ g : Hep, dVar 1 [some (.ref t), some (.ref h.length), none, none] g = .ok (.ref h.length) g := fun g => rfl
  have hq := lt_of f1
  have at2 : (g1.set h.length (.frz (.dK (fnd pl))))[h.length]? = some (.frz (.dK (fnd pl))) := List.getElem?_set_self hq
  have e2 : dLkE (dVar 1) (dLc (dDk 0 (dVar 1)) (dgN 3) dYes e_Table_ordered_3 [3]) [some (.ref t), some (.ref h.length), none, none] g1 = .ok (.ref g1.length) (g1 ++ [AO.lst ((pl.map (·.2)).map .int)]) := by
    refine lk_pure (s1 _) f1 ?_
    have r := lc_pure (g := dgN 3) (te := e_Table_ordered_3) (vs := [3]) (xs := (fnd pl).map (pickD 0 0)) (ys := (pl.map (·.2)).map .int) (src_dk (w := 0) (s1 _) at2) (by simp [fnd]) (by simp [fnd]; omega)
      (by rw [len_dk at2]; simp) (fun acc i => by rw [next_dk (app_at at2), List.getElem?_map]; rfl) (fun i x y acc hx hy => by
        simp only [fnd, List.getElem?_map, Option.map_map] at hx hy
        cases z : pl[i]? with
        | none =>
          rw [z] at hx
          cases hx
        | some w =>
          rw [z] at hx hy
          cases hx
          cases hy
          exact ⟨[some (.ref t), some (.ref h.length), none, some (.int w.2)], rfl, rfl⟩)
    rw [r]
    simp
  -- sorted
  have f4 : (g1 ++ [AO.lst ((pl.map (·.2)).map .int)])[h.length]? = some (.dK (fnd pl)) := app_at f1
  have fr2 : Fr [] h (g1 ++ [AO.lst ((pl.map (·.2)).map .int)]) := fr1.trans Fr.app
  have f2 : (g1 ++ [AO.lst ((pl.map (·.2)).map .int)])[g1.length]? = some (.lst ((pl.map (·.2)).map .int)) := at_last
  generalize g1 ++ [AO.lst ((pl.map (·.2)).map .int)] = g2 at e2 f2 f4 fr2
  generalize g1.length = m1 at e2 f2
  have e3 : sortedL [.ref m1] g2 = some (.ref g2.length, g2 ++ [AO.lst ((srt pl).map .int)]) := by
    simp only [sortedL, lstAt, f2, ints_of, srt]
    rfl
  have f3 : (g2 ++ [AO.lst ((srt pl).map .int)])[g2.length]? = some (.lst ((srt pl).map .int)) := at_last
  have f4 := app_at (a := AO.lst ((srt pl).map .int)) f4
  have fr3 : Fr [] h (g2 ++ [AO.lst ((srt pl).map .int)]) := fr2.trans Fr.app
  generalize g2 ++ [AO.lst ((srt pl).map .int)] = g at e3 f3 f4 fr3
  generalize g2.length = m at e3 f3
  have src : dSrc (dCB sortedL (dCons (dLkE (dVar 1) (dLc (dDk 0 (dVar 1)) (dgN 3) dYes e_Table_ordered_3 [3])) dNil)) [some (.ref t), some (.ref h.length), none, none] g1 = .ok (.at m) g := by
    refine src_ref ?_ f3
    simp [e2, e3]
  have r := lc_pure (g := dgN 3) (te := e_Table_ordered_4) (vs := [3]) (xs := (srt pl).map .int) (ys := (ord pl).map ofKey) src (by simp [ord]) (by simp [srt_len]; omega) (len_at f3) (fun acc i => next_at (app_at f3)) (fun i x y acc hx hy => by
    simp only [ord, List.getElem?_map, Option.map_map] at hx hy
    cases z : (srt pl)[i]? with
    | none =>
      rw [z] at hx
      cases hx
    | some c =>
      rw [z] at hx hy
      cases hx
      cases hy
      refine ⟨[some (.ref t), some (.ref h.length), none, some (.int c)], rfl, ?_⟩
      have f5 := app_at (a := .lst acc) f4
      have gt := fnd_get (mem_srt (List.mem_of_getElem? z))
      have e5 : idxAV (.ref h.length) (.int c) (g ++ [.lst acc]) = some (ofKey (kof pl c), g ++ [.lst acc]) := by
        simp [idxAV, seqOf, tupOf, lstOf, f5, keyOf, gt]
      simp [e_Table_ordered_4, e5])
  refine ⟨g.length, g ++ [.lst ((ord pl).map ofKey)], ?_, fr3.trans Fr.app, fr3.1, at_last⟩
  simp [f_Table_ordered, dFun, dStart, p_Table_ordered, e1, r]
theorem dget_mem {kv : List (L2.Key × AV)} {k : L2.Key} (h : k ∈ kv.map (·.1)) : ∃ v, dget kv k = some v := by
  cases z : kv.find? fun x => decide (x.1 = k) with
  | none =>
    rw [List.find?_eq_none] at z
    obtain ⟨x, hx, rfl⟩ := List.mem_map.mp h
    exact absurd (decide_eq_true rfl) (z x hx)
  | some x => exact ⟨x.2, by unfold dget; rw [z]; rfl⟩
theorem kof_mem {pl : List (L2.Key × Int)} {c : Int} (h : c ∈ pl.map (·.2)) : kof pl c ∈ pl.map (·.1) := by
  unfold kof
  cases z : pl.find? fun x => decide (x.2 = c) with
  | none =>
    rw [List.find?_eq_none] at z
    obtain ⟨x, hx, rfl⟩ := List.mem_map.mp h
    exact absurd (decide_eq_true rfl) (z x hx)
  | some x => exact List.mem_map.mpr ⟨x, List.mem_of_find?_eq_some z, rfl⟩
theorem idx_dic {h : Hep} {n : Nat} {kvs : List (L2.Key × AV)} {k : L2.Key} {v : AV} (e : h[n]? = some (.dK kvs)) (g : dget kvs k = some v) : idxAV (.ref n) (ofKey k) h = some (v, h) := by
  cases k <;> simp [idxAV, seqOf, tupOf, lstOf, e, keyOf, ofKey, g]
theorem var_key {s : Sl} {i : Nat} {k : L2.Key} (e : s[i]? = some (some (ofKey k))) (h : Hep) : dVar i s h = .ok (ofKey k) h := by
  unfold dVar
  rw [e]
  cases k <;> rfl
theorem pairs_gen {f te : DE} {h : Hep} {t p q : Nat} {kv : List (L2.Key × AV)} {pl : List (L2.Key × Int)} {fp np : Int} (T : Tc cl h t p q kv pl fp np) (hte : te = e_Table_pairs_1) (hf : ∀ m g, f_Table_ordered [.ref t] h = .ok (.ref m) g → f [some (.ref t), none] h = .ok (.ref m) g) :
    ∃ m h', (dRet (dLc (dSrc f) (dgN 1) dYes te [1]) [some (.ref t), none] h).fin = .ok (.ref m) h' ∧ Fr [] h h' ∧ h.length ≤ m ∧ h'[m]? = some (.lst (prs kv pl)) := by
  obtain ⟨m, g, e, fr, hm, at_⟩ := ordered_ok T
  subst hte
  have l2 := T.l2
  have src : dSrc f [some (.ref t), none] h = .ok (.at m) g := src_ref (hf m g e) at_
  have r := lc_pure (g := dgN 1) (te := e_Table_pairs_1) (vs := [1]) (xs := (ord pl).map ofKey) (ys := prs kv pl) src (by simp [prs]) (by simp [ord, srt_len]; omega) (len_at at_) (fun acc i => next_at (app_at at_)) (fun i x y acc hx hy => by
    simp only [prs, ord, List.getElem?_map, Option.map_map] at hx hy
    cases z : (srt pl)[i]? with
    | none =>
      rw [z] at hx
      cases hx
    | some c =>
      rw [z] at hx hy
      cases hx
      cases hy
      have mem := mem_srt (List.mem_of_getElem? z)
      obtain ⟨v, gv⟩ := dget_mem ((T.ks _).mp (kof_mem mem))
      have T2 : Tc cl (g ++ [.lst acc]) t p q kv pl fp np := T.fr (fr.trans Fr.app) (by simp) (by simp) (by simp)
      refine ⟨[some (.ref t), some (ofKey (kof pl c))], rfl, ?_⟩
      have e1 : dVar 1 [some (.ref t), some (ofKey (kof pl c))] (g ++ [.lst acc]) = .ok (ofKey (kof pl c)) (g ++ [.lst acc]) := var_key rfl _
      have e0 : dVar 0 [some (.ref t), some (ofKey (kof pl c))] (g ++ [.lst acc]) = .ok (.ref t) (g ++ [.lst acc]) := rfl
      have e2 := idx_dic T2.hd gv
      simp only [Function.comp, gv, Option.getD_some]
      simp [e_Table_pairs_1, -xVar, e0, e1, e2, mkT, SZ, ins_of T2.ob])
  exact ⟨g.length, g ++ [.lst (prs kv pl)], by rw [xRet, r]; rfl, fr.trans Fr.app, fr.1, at_last⟩
theorem pairs_ok {h : Hep} {t p q : Nat} {kv : List (L2.Key × AV)} {pl : List (L2.Key × Int)} {fp np : Int} (T : Tb h t p q kv pl fp np) : ∃ m h', f_Table_pairs [.ref t] h = .ok (.ref m) h' ∧ Fr [] h h' ∧ h.length ≤ m ∧ h'[m]? = some (.lst (prs kv pl)) :=
  pairs_gen T rfl (fun m g e => by simp [methK_of T.ob, e])
theorem dput_new {kv : List (L2.Key × AV)} {k : L2.Key} {v : AV} (h : k ∉ kv.map (·.1)) : dput kv k v = kv ++ [(k, v)] := by
  unfold dput
  rw [if_neg]
  intro z
  obtain ⟨x, hx, e⟩ := List.any_eq_true.mp z
  exact h (List.mem_map.mpr ⟨x, hx, of_decide_eq_true e⟩)
theorem dput_old {kv : List (L2.Key × AV)} {k : L2.Key} {v : AV} (h : k ∈ kv.map (·.1)) : dput kv k v = kv.map fun x => if x.1 = k then (x.1, v) else x := by
  unfold dput
  rw [if_pos]
  obtain ⟨x, hx, e⟩ := List.mem_map.mp h
  exact List.any_eq_true.mpr ⟨x, hx, decide_eq_true e⟩
theorem dput_old_keys {kv : List (L2.Key × AV)} {k : L2.Key} {v : AV} (h : k ∈ kv.map (·.1)) : (dput kv k v).map (·.1) = kv.map (·.1) := by
  rw [dput_old h, List.map_map]
  refine List.map_congr_left fun x _ => ?_
  show (if x.1 = k then (x.1, v) else x).1 = x.1
  split <;> rfl
theorem dget_no {kv : List (L2.Key × AV)} {k : L2.Key} (h : k ∉ kv.map (·.1)) : dget kv k = none := by
  unfold dget
  rw [Option.map_eq_none_iff, List.find?_eq_none]
  intro x hx z
  exact h (List.mem_map.mpr ⟨x, hx, of_decide_eq_true z⟩)
theorem notin_dic {h : Hep} {n : Nat} {kvs : List (L2.Key × AV)} {k : L2.Key} (e : h[n]? = some (.dK kvs)) : notInAV (ofKey k) (.ref n) h = some (.bl (!(dget kvs k).isSome), h) := by
  simp [notInAV, inB, e, keyOf_of]
theorem in_dic {h : Hep} {n : Nat} {kvs : List (L2.Key × AV)} {k : L2.Key} (e : h[n]? = some (.dK kvs)) : inAV (ofKey k) (.ref n) h = some (.bl (dget kvs k).isSome, h) := by
  simp [inAV, inB, e, keyOf_of]
def hasK (pl : List (L2.Key × Int)) (k : L2.Key) : Bool := pl.any fun z => decide (z.1 = k)
def plE (pl : List (L2.Key × Int)) (k : L2.Key) (np : Int) : List (L2.Key × Int) := if hasK pl k = true then pl else pl ++ [(k, np)]
def npE (pl : List (L2.Key × Int)) (k : L2.Key) (np : Int) : Int := if hasK pl k = true then np else np + 1
theorem plD_keys (pl : List (L2.Key × Int)) : (plD pl).map (·.1) = pl.map (·.1) := by simp [plD, Function.comp_def]
def Iv.ky : Iv → L2.Key
  | .i n => .inl n
  | .s x => .inr x
theorem Iv.key_av (v : Iv) : ofKey v.ky = v.av := by cases v <;> rfl
theorem contains_ok {h : Hep} {t p q : Nat} {kv : List (L2.Key × AV)} {pl : List (L2.Key × Int)} {fp np : Int} (T : Tb h t p q kv pl fp np) (k : Iv) (hk : k.okB = true) : ∃ h', f_Table_xcontains [.ref t, k.av] h = .ok (.bl (dget kv k.ky).isSome) h' ∧ Fr [] h h' := by
  obtain ⟨g1, e1, f1⟩ := item_ok k hk h
  have T2 : Tb g1 t p q kv pl fp np := T.fr f1 (by simp) (by simp) (by simp)
  have e2 := in_dic (k := k.ky) T2.hd
  rw [k.key_av] at e2
  refine ⟨g1, ?_, f1⟩
  simp [f_Table_xcontains, dFun, dStart, p_Table_xcontains, e1, ins_of T2.ob, e2]
def plX (pl : List (L2.Key × Int)) (k : L2.Key) : List (L2.Key × Int) := pl.filter fun z => decide (z.1 ≠ k)
def prD (l : List (L2.Key × AV)) : List AV := l.map fun z => .tup [ofKey z.1, z.2]
theorem isi_tup (xs : List AV) (h : Hep) : isiL ct0 [.tup xs, .ty "tuple"] h = some (.bl true, h) := rfl
/-- a pair of items is one -/
theorem pair_ok (k v : Iv) (hk : k.okB = true) (hv : v.okB = true) (a : Option AV) (h : Hep) : ∃ h', e_are_pairs_1 [a, some (.tup [k.av, v.av])] h = .ok (.bl true) h' ∧ Fr [] h h' := by
  obtain ⟨g1, e1, f1⟩ := item_ok k hk h
  obtain ⟨g2, e2, f2⟩ := item_ok v hv g1
  have i0 : idxAV (.tup [k.av, v.av]) (.int 0) h = some (k.av, h) := rfl
  have i1 : idxAV (.tup [k.av, v.av]) (.int 1) g1 = some (v.av, g1) := rfl
  have l1 : lenL [.tup [k.av, v.av]] h = some (.int 2, h) := rfl
  have q1 : eqAV (.int 2) (.int 2) h = some (.bl true, h) := rfl
  refine ⟨g2, ?_, f1.trans f2⟩
  simp [e_are_pairs_1, isi_tup, l1, q1, i0, i1, e1, e2]
theorem pairs_of_nil (h : Hep) : ∃ m h', f_pairs_of [.tup []] h = .ok (.ref m) h' ∧ Fr [] h h' ∧ h.length ≤ m ∧ h'[m]? = some (.lst []) := by
  have lc := lc_pure (f := dSrc (dVar 0)) (g := dgN 1) (te := e_are_pairs_1) (vs := [1]) (s := [some (.tup []), none]) (h := h) (h1 := h) (src := .fix []) (xs := []) (ys := []) rfl rfl (by simp) rfl (fun acc i => by simp [Src.next]) (fun i x y acc hx => by simp at hx)
  have al : allL [.ref h.length] (h ++ [.lst []]) = some (.bl true, h ++ [.lst []]) := by
    have : lstOf (h ++ [AO.lst []]) (.ref h.length) = some [] := by simp only [lstOf, at_last]
    simp only [allL, this]
    rfl
  have ap : f_are_pairs [.tup []] h = .ok (.bl true) (h ++ [.lst []]) := by
    have z : dIsLT ct0 "list" "tuple" (dVar 0) [some (.tup []), none] h = .ok (.bl true) h := rfl
    simp [f_are_pairs, dFun, dStart, p_are_pairs, z, lc, al]
  have i1 : isiL ct0 [.tup [], .cls 0] h = some (.bl false, h) := rfl
  have i2 : isiL ct0 [.tup [], .ty "dict"] h = some (.bl false, h) := rfl
  have ls : listL [.tup []] (h ++ [.lst []]) = some (.ref (h ++ [AO.lst []]).length, (h ++ [.lst []]) ++ [.lst []]) := rfl
  refine ⟨(h ++ [AO.lst []]).length, (h ++ [.lst []]) ++ [.lst []], ?_, Fr.app.trans Fr.app, by simp, at_last⟩
  simp [f_pairs_of, dFun, dStart, p_pairs_of, i1, i2, ap, ls]
/-- a list of pairs of items -/
theorem pairs_of_lst {h : Hep} {m : Nat} {ps : List (Iv × Iv)} (e : h[m]? = some (.lst (ps.map fun z => .tup [z.1.av, z.2.av]))) (ok : ∀ z ∈ ps, z.1.okB = true ∧ z.2.okB = true) (hl : ps.length ≤ 1000) :
    ∃ n h', f_pairs_of [.ref m] h = .ok (.ref n) h' ∧ Fr [] h h' ∧ h.length ≤ n ∧ h'[n]? = some (.lst (ps.map fun z => .tup [z.1.av, z.2.av])) := by
  obtain ⟨acc, g, e1, fr, at_, _⟩ := lc_if (f := dSrc (dVar 0)) (src := .at m) (g := dgN 1) (tt := dYes) (te := e_are_pairs_1) (vs := [1]) (s := [some (.ref m), none]) (h := h) (h1 := h) (xs := ps.map fun z => .tup [z.1.av, z.2.av])
    (fun i acc g => Fr [] h g ∧ acc = List.replicate i (.bl true)) (src_ref (n := m) rfl e) (len_at e) (by simp; omega) (fun i acc g hi => next_at (hi.1.at e (by simp))) ⟨Fr.app, rfl⟩
    (fun i acc g x hx ⟨fr, ea⟩ hD => by
      rw [List.getElem?_map] at hx
      cases z : ps[i]? with
      | none =>
        rw [z] at hx
        cases hx
      | some w =>
        rw [z] at hx
        cases hx
        obtain ⟨o1, o2⟩ := ok w (List.mem_of_getElem? z)
        obtain ⟨g2, e2, f2⟩ := pair_ok w.1 w.2 o1 o2 (some (.ref m)) g
        refine ⟨_, rfl, .inr ⟨g, _, g2, rfl, e2, f2.at hD (by simp), (fr.trans f2).set_new (Nat.le_refl _), ?_⟩⟩
        rw [ea, List.replicate_succ'])
  obtain ⟨fr, ea⟩ := fr
  have al : allL [.ref h.length] g = some (.bl true, g) := by
    have : lstOf g (.ref h.length) = some acc := by simp only [lstOf, at_]
    have b2 : blsOf acc = some (List.replicate (ps.map fun z => AV.tup [z.1.av, z.2.av]).length true) := by
      rw [ea]
      exact bls_true _
    simp only [allL, this, Option.bind_some, b2, Option.map_some]
    simp
  have ap : f_are_pairs [.ref m] h = .ok (.bl true) g := by
    have z : dIsLT ct0 "list" "tuple" (dVar 0) [some (.ref m), none] h = .ok (.bl true) h := by
      simp [dIsLT, twOf, e, twO, isTK, TW.sub]
    simp [f_are_pairs, dFun, dStart, p_are_pairs, z, e1, al]
  have i1 : isiL ct0 [.ref m, .cls 0] h = some (.bl false, h) := isi_lst e rfl
  have i2 : isiL ct0 [.ref m, .ty "dict"] h = some (.bl false, h) := by
    simp [isiL, isiB, twOf, e, twO]
    rfl
  have eg := fr.at e (by simp)
  have ls : listL [.ref m] g = some (.ref g.length, g ++ [.lst (ps.map fun z => .tup [z.1.av, z.2.av])]) := by
    simp [listL, seq_ref eg]
  refine ⟨g.length, _, ?_, fr.trans Fr.app, fr.1, at_last⟩
  simp [f_pairs_of, dFun, dStart, p_pairs_of, i1, i2, ap, ls]
/-- the table's places, as its constructor lays them -/
def plN : Nat → List (L2.Key × AV) → List (L2.Key × Int)
  | _, [] => []
  | n, z :: r => (z.1, (n : Int)) :: plN (n + 1) r
theorem plN_keys : ∀ (n : Nat) (l : List (L2.Key × AV)), (plN n l).map (·.1) = l.map (·.1)
  | _, [] => rfl
  | n, z :: r => by
    show z.1 :: (plN (n + 1) r).map (·.1) = z.1 :: r.map (·.1)
    rw [plN_keys]
theorem plN_len (n : Nat) (l : List (L2.Key × AV)) : (plN n l).length = l.length := by
  have := congrArg List.length (plN_keys n l)
  simpa using this
theorem plN_at : ∀ (n i : Nat) (l : List (L2.Key × AV)), (plN n l)[i]? = l[i]?.map fun z => (z.1, ((n + i : Nat) : Int))
  | _, _, [] => by simp [plN]
  | n, 0, z :: r => rfl
  | n, i + 1, z :: r => by
    show (plN (n + 1) r)[i]? = r[i]?.map fun z => (z.1, ((n + (i + 1) : Nat) : Int))
    rw [plN_at]
    congr 1
    funext z
    rw [show n + 1 + i = n + (i + 1) by omega]
theorem plN_ge : ∀ (n : Nat) (l : List (L2.Key × AV)), ∀ z ∈ plN n l, (n : Int) ≤ z.2 ∧ z.2 < (n + l.length : Nat)
  | _, [], z, h => by cases h
  | n, x :: r, z, h => by
    rcases List.mem_cons.mp h with e | e
    · subst e
      show (n : Int) ≤ (n : Int) ∧ (n : Int) < _
      simp
      omega
    · have := plN_ge (n + 1) r z e
      simp at this ⊢
      omega
theorem plN_nd : ∀ (n : Nat) (l : List (L2.Key × AV)), ((plN n l).map (·.2)).Pairwise (· < ·)
  | _, [] => by simp [plN]
  | n, x :: r => by
    show ((n : Int) :: (plN (n + 1) r).map (·.2)).Pairwise (· < ·)
    refine List.pairwise_cons.mpr ⟨fun c hc => ?_, plN_nd (n + 1) r⟩
    obtain ⟨z, hz, e⟩ := List.mem_map.mp hc
    have := plN_ge (n + 1) r z hz
    omega
theorem var_nx {s : Sl} {i : Nat} {v : AV} (e : s[i]? = some (some v)) (hv : v.nx = true) (h : Hep) : dVar i s h = .ok v h := by
  unfold dVar
  rw [e]
  cases v <;> first | rfl | cases hv
theorem merge_keys : ∀ (more acc : List (L2.Key × AV)), (acc.map (·.1)).Nodup → ((mergeA acc more).map (·.1)).Nodup
  | [], acc, n => n
  | (q, v) :: r, acc, n => by
    show ((mergeA (dput acc q v) r).map (·.1)).Nodup
    refine merge_keys r _ ?_
    by_cases m : q ∈ acc.map (·.1)
    · rw [dput_old_keys m]
      exact n
    · rw [dput_new m, List.map_append, List.nodup_append]
      exact ⟨n, by simp, fun a ha b hb z => m (by simp at hb; rw [← hb, ← z]; exact ha)⟩
theorem merge_len : ∀ (more acc : List (L2.Key × AV)), (mergeA acc more).length ≤ acc.length + more.length
  | [], acc => Nat.le_refl _
  | (q, v) :: r, acc => by
    show (mergeA (dput acc q v) r).length ≤ _
    have h1 := merge_len r (dput acc q v)
    have h2 := dput_len acc q v
    simp only [List.length_cons]
    omega
theorem plN_nodup (n : Nat) (l : List (L2.Key × AV)) : ((plN n l).map (·.2)).Nodup := (plN_nd n l).imp fun h e => by
  rw [e] at h
  exact absurd h (Int.lt_irrefl _)
theorem held_ok {g : Hep} {m t : Nat} {ps : List (L2.Key × AV)} (a b c d : Option AV) (e : g[m]? = some (.lst (prD ps))) (nx : ∀ z ∈ ps, z.2.nx = true) (hl : ps.length ≤ 1000) :
    dDc (dSrc (dVar 2)) (dgT (dgC (dgN 3) (dgC (dgN 4) dg0))) dYes e_Table_xinit_1 e_Table_xinit_2 [3, 4] [some (.ref t), a, some (.ref m), b, c, d] g = .ok (.ref g.length) (g ++ [.dK (mergeA [] ps)]) := by
  refine dc_pure (src := .at m) (xs := prD ps) (kvs := ps) (src_ref (n := m) rfl e) (by simp [prD]) (by simp [prD]; omega) (len_at e) (fun acc i => next_at (app_at e)) (fun i x k v acc hx hk => ?_)
  simp only [prD, List.getElem?_map, hk] at hx
  cases hx
  refine ⟨[some (.ref t), a, some (.ref m), some (ofKey k), some v, d], rfl, ?_, ?_⟩
  · exact var_key rfl _
  · exact var_nx rfl (nx _ (List.mem_of_getElem? hk)) _
theorem places_ok {h : Hep} {t p : Nat} {fs : List (Nat × AV)} {kv : List (L2.Key × AV)} (a b c d e : Option AV) (ob : h[t]? = some (.ins cl fs)) (hf : fget fs 0 = some (.ref p)) (hd : h[p]? = some (.dK kv)) (n1 : (kv.map (·.1)).Nodup) (hl : kv.length ≤ 1000) :
    dLkE (dFld 0 (dVar 0)) (dDc (dDk 3 (dFld 0 (dVar 0))) (dgT (dgC (dgN 5) (dgC (dgN 3) dg0))) dYes e_Table_xinit_3 e_Table_xinit_4 [5, 3]) [some (.ref t), a, b, c, d, e] h = .ok (.ref h.length) (h ++ [.dK (plD (plN 0 kv))]) := by
  have e1 : dFld 0 (dVar 0) [some (.ref t), a, b, c, d, e] h = .ok (.ref p) h := by simp [ins_of ob, hf]
  have tp : t ≠ p := fun z => by
    have := ob.symm.trans (z ▸ hd)
    cases this
  refine lk_pure e1 hd ?_
  have ob2 : (h.set p (.frz (.dK kv)))[t]? = some (.ins cl fs) := by
    rw [List.getElem?_set_ne (Ne.symm tp)]
    exact ob
  have at2 : (h.set p (.frz (.dK kv)))[p]? = some (.frz (.dK kv)) := List.getElem?_set_self (lt_of hd)
  have e2 : dFld 0 (dVar 0) [some (.ref t), a, b, c, d, e] (h.set p (.frz (.dK kv))) = .ok (.ref p) (h.set p (.frz (.dK kv))) := by simp [ins_of ob2, hf]
  have r := dc_pure (g := dgT (dgC (dgN 5) (dgC (dgN 3) dg0))) (tk := e_Table_xinit_3) (tv := e_Table_xinit_4) (vs := [5, 3]) (xs := (plN 0 kv).map fun z => .tup [.int z.2, ofKey z.1]) (kvs := plD (plN 0 kv)) (src_dk (w := 3) e2 at2) (by simp [plD]) (by simp [plN_len]; omega)
    (by rw [len_dk at2]; simp [plN_len]) (fun acc i => by
      rw [next_dk (app_at at2), List.getElem?_map, plN_at, Option.map_map]
      simp only [Nat.zero_add]
      rfl) (fun i x k v acc hx hk => by
      simp only [plD, List.getElem?_map] at hx hk
      cases z : (plN 0 kv)[i]? with
      | none =>
        rw [z] at hx
        cases hx
      | some y =>
        rw [z] at hx hk
        cases hx
        cases hk
        refine ⟨[some (.ref t), a, b, some (ofKey y.1), d, some (.int y.2)], rfl, ?_, rfl⟩
        exact var_key rfl _)
  have nd : mergeA [] (plD (plN 0 kv)) = plD (plN 0 kv) := by
    have := merge_nd (plD (plN 0 kv)) [] (by
      show ((plD (plN 0 kv)).map (·.1)).Nodup
      rw [plD_keys, plN_keys]
      exact n1)
    simpa using this
  rw [nd] at r
  rw [r]
  simp
theorem xinit_gen {f1 : DE} {h g : Hep} {t m : Nat} {a : AV} {ps : List (L2.Key × AV)} (hF : p_Table_xinit = dSeq (dSet 2 (dIf (dTst f1) (dCallC f_pairs_of 1 0 1 [0] [] (dCons (dVar 1) dNil) dNil) (dCB listL (dCons (dVar 1) dNil)))) (dSeq (dSetF 0 (dVar 0) (dDc (dSrc (dVar 2)) (dgT (dgC (dgN 3) (dgC (dgN 4) dg0))) dYes e_Table_xinit_1 e_Table_xinit_2 [3, 4])) (dSeq (dSetF 1 (dVar 0) (dLkE (dFld 0 (dVar 0)) (dDc (dDk 3 (dFld 0 (dVar 0))) (dgT (dgC (dgN 5) (dgC (dgN 3) dg0))) dYes e_Table_xinit_3 e_Table_xinit_4 [5, 3]))) (dSeq (dSetF 2 (dVar 0) (dC (.int 0))) (dSetF 3 (dVar 0) (dCB lenL (dCons (dFld 0 (dVar 0)) dNil)))))))
    (e0 : dIf (dTst f1) (dCallC f_pairs_of 1 0 1 [0] [] (dCons (dVar 1) dNil) dNil) (dCB listL (dCons (dVar 1) dNil)) [some (.ref t), some a, none, none, none, none] h = .ok (.ref m) g) (fr : Fr [] h g) (ob : h[t]? = some (.ins cl [])) (e : g[m]? = some (.lst (prD ps))) (nx : ∀ z ∈ ps, z.2.nx = true) (hl : ps.length ≤ 1000) :
    ∃ h' p q, (p_Table_xinit [some (.ref t), some a, none, none, none, none] h).fin = .ok .non h' ∧ Fr [t] h h' ∧ h.length ≤ p ∧ h.length ≤ q ∧ Tc cl h' t p q (mergeA [] ps) (plN 0 (mergeA [] ps)) 0 ((mergeA [] ps).length : Nat) := by
  have ht := lt_of ob
  have hg := fr.1
  have n1 : ((mergeA [] ps).map (·.1)).Nodup := merge_keys ps [] (by simp)
  have kl : (mergeA [] ps).length ≤ 1000 := by
    have := merge_len ps []
    simp at this
    omega
  have h1 := held_ok (t := t) (some a) none none none e nx hl
  generalize mergeA [] ps = kv at h1 n1 kl
  have ob1 : (g ++ [.dK kv])[t]? = some (.ins cl []) := app_at (fr.at ob (by simp))
  have hd1 : (g ++ [AO.dK kv])[g.length]? = some (.dK kv) := at_last
  have fr1 : Fr [t] h (g ++ [.dK kv]) := fr.nil.trans Fr.app
  have tp : t ≠ g.length := by omega
  have lp := hg
  generalize hG1 : g ++ [AO.dK kv] = g1 at h1 ob1 hd1 fr1
  generalize g.length = p at h1 hd1 tp lp
  have ob2 : (g1.set t (.ins cl [(0, .ref p)]))[t]? = some (.ins cl [(0, .ref p)]) := List.getElem?_set_self (lt_of ob1)
  have hd2 : (g1.set t (.ins cl [(0, .ref p)]))[p]? = some (.dK kv) := by
    rw [List.getElem?_set_ne tp]
    exact hd1
  have fr2 : Fr [t] h (g1.set t (.ins cl [(0, .ref p)])) := fr1.trans (Fr.set (by simp))
  generalize hG2 : g1.set t (.ins cl [(0, .ref p)]) = g2 at ob2 hd2 fr2
  have h2 := places_ok (some a) (some (.ref m)) none none none ob2 rfl hd2 n1 kl
  have ob3 : (g2 ++ [.dK (plD (plN 0 kv))])[t]? = some (.ins cl [(0, .ref p)]) := app_at ob2
  have hd3 : (g2 ++ [AO.dK (plD (plN 0 kv))])[p]? = some (.dK kv) := app_at hd2
  have ps3 : (g2 ++ [AO.dK (plD (plN 0 kv))])[g2.length]? = some (.dK (plD (plN 0 kv))) := at_last
  have fr3 : Fr [t] h (g2 ++ [.dK (plD (plN 0 kv))]) := fr2.trans Fr.app
  have lq := fr2.1
  have tq : t ≠ g2.length := by omega
  have pq : p ≠ g2.length := by
    have := lt_of hd2
    omega
  generalize hG3 : g2 ++ [AO.dK (plD (plN 0 kv))] = g3 at h2 ob3 hd3 ps3 fr3
  generalize g2.length = q at h2 ps3 lq tq pq
  have step : ∀ (x : Hep) (fs fs' : List (Nat × AV)), x[t]? = some (.ins cl fs) → x[p]? = some (.dK kv) → x[q]? = some (.dK (plD (plN 0 kv))) → Fr [t] h x →
      (x.set t (.ins cl fs'))[t]? = some (.ins cl fs') ∧ (x.set t (.ins cl fs'))[p]? = some (.dK kv) ∧ (x.set t (.ins cl fs'))[q]? = some (.dK (plD (plN 0 kv))) ∧ Fr [t] h (x.set t (.ins cl fs')) := fun x fs fs' a1 a2 a3 a4 => by
    refine ⟨List.getElem?_set_self (lt_of a1), ?_, ?_, a4.trans (Fr.set (by simp))⟩
    · rw [List.getElem?_set_ne tp]
      exact a2
    · rw [List.getElem?_set_ne tq]
      exact a3
  obtain ⟨ob4, hd4, ps4, fr4⟩ := step g3 _ [(0, .ref p), (1, .ref q)] ob3 hd3 ps3 fr3
  generalize hG4 : g3.set t (.ins cl [(0, .ref p), (1, .ref q)]) = g4 at ob4 hd4 ps4 fr4
  obtain ⟨ob5, hd5, ps5, fr5⟩ := step g4 _ [(0, .ref p), (1, .ref q), (2, .int 0)] ob4 hd4 ps4 fr4
  generalize hG5 : g4.set t (.ins cl [(0, .ref p), (1, .ref q), (2, .int 0)]) = g5 at ob5 hd5 ps5 fr5
  obtain ⟨ob6, hd6, ps6, fr6⟩ := step g5 _ [(0, .ref p), (1, .ref q), (2, .int 0), (3, .int (kv.length : Nat))] ob5 hd5 ps5 fr5
  generalize hG6 : g5.set t (.ins cl [(0, .ref p), (1, .ref q), (2, .int 0), (3, .int (kv.length : Nat))]) = g6 at ob6 hd6 ps6 fr6
  have ln : lenL [.ref p] g5 = some (.int (kv.length : Nat), g5) := by simp [lenL, lenA, hd5]
  refine ⟨g6, p, q, ?_, fr6, lp, lq, ob6, hd6, ps6, n1, by rw [plN_keys]; exact n1, plN_nodup 0 kv, by rw [plN_keys]; exact fun _ => Iff.rfl, kl, by rw [plN_len]; exact kl, pq, fun z hz => ?_, fun z hz => ?_, by omega⟩
  · have e1 : dSet 2 (dIf (dTst f1) (dCallC f_pairs_of 1 0 1 [0] [] (dCons (dVar 1) dNil) dNil) (dCB listL (dCons (dVar 1) dNil))) [some (.ref t), some a, none, none, none, none] h = .nx [some (.ref t), some a, some (.ref m), none, none, none] g := by
      rw [xSet, e0]
      rfl
    rw [hF]
    simp only [xSeq]
    rw [e1]
    simp [h1, ins_of ob1, fput, hG2, h2, ins_of ob3, hG4, ins_of ob4, hG5, ins_of ob5, ln, hG6]
  · have := (plN_ge 0 kv z hz).2
    omega
  · have := (plN_ge 0 kv z hz).1
    omega

theorem xinit_ok {h g : Hep} {t m : Nat} {a : AV} {ps : List (L2.Key × AV)} (ha : a.nx = true) (e0 : f_pairs_of [a] h = .ok (.ref m) g) (fr : Fr [] h g) (ob : h[t]? = some (.ins 0 [])) (e : g[m]? = some (.lst (prD ps))) (nx : ∀ z ∈ ps, z.2.nx = true) (hl : ps.length ≤ 1000) :
    ∃ h' p q, f_Table_xinit [.ref t, a] h = .ok .non h' ∧ Fr [t] h h' ∧ h.length ≤ p ∧ h.length ≤ q ∧ Tb h' t p q (mergeA [] ps) (plN 0 (mergeA [] ps)) 0 ((mergeA [] ps).length : Nat) := by
  have pl0 : f_Table_is_plain [.ref t] h = .ok (.bl true) h := rfl
  exact xinit_gen rfl (by simp [methK_of ob, pl0, ha, e0]) fr ob e nx hl
theorem kof_self : ∀ {pl : List (L2.Key × Int)} {z : L2.Key × Int}, (pl.map (·.2)).Nodup → z ∈ pl → kof pl z.2 = z.1
  | x :: r, z, n, h => by
    rw [List.map_cons, List.nodup_cons] at n
    rcases List.mem_cons.mp h with e | e
    · subst e
      simp [kof]
    · have ne : x.2 ≠ z.2 := fun q => n.1 (List.mem_map.mpr ⟨z, e, q.symm⟩)
      have := kof_self n.2 e
      unfold kof at this ⊢
      rw [List.find?_cons, decide_eq_false ne]
      exact this
theorem dget_self : ∀ {kv : List (L2.Key × AV)} {z : L2.Key × AV}, (kv.map (·.1)).Nodup → z ∈ kv → dget kv z.1 = some z.2
  | x :: r, z, n, h => by
    rw [List.map_cons, List.nodup_cons] at n
    rcases List.mem_cons.mp h with e | e
    · subst e
      simp [dget]
    · have ne : x.1 ≠ z.1 := fun q => n.1 (List.mem_map.mpr ⟨z, e, q.symm⟩)
      have := dget_self n.2 e
      unfold dget at this ⊢
      rw [List.find?_cons, decide_eq_false ne]
      exact this
/-- places that rise: the keys' order is the dict's -/
theorem ord_rise {pl : List (L2.Key × Int)} (h : (pl.map (·.2)).Pairwise (· < ·)) : ord pl = pl.map (·.1) := by
  have nd : (pl.map (·.2)).Nodup := h.imp fun h e => by
    rw [e] at h
    exact absurd h (Int.lt_irrefl _)
  have s : srt pl = pl.map (·.2) := by
    unfold srt
    refine List.mergeSort_of_pairwise (h.imp fun h => ?_)
    exact decide_eq_true (Int.le_of_lt h)
  unfold ord
  rw [s, List.map_map]
  exact List.map_congr_left fun z hz => kof_self nd hz
theorem prs_rise {kv : List (L2.Key × AV)} {pl : List (L2.Key × Int)} (h : (pl.map (·.2)).Pairwise (· < ·)) (e : pl.map (·.1) = kv.map (·.1)) (n : (kv.map (·.1)).Nodup) : prs kv pl = prD kv := by
  unfold prs prD
  rw [ord_rise h, e, List.map_map]
  refine List.map_congr_left fun z hz => ?_
  show AV.tup [ofKey z.1, (dget kv z.1).getD .non] = _
  rw [dget_self n hz]
  rfl
theorem prs_new {kv : List (L2.Key × AV)} (n : (kv.map (·.1)).Nodup) : prs kv (plN 0 kv) = prD kv := prs_rise (plN_nd 0 kv) (plN_keys 0 kv) n
def okv (kv : List (L2.Key × AV)) (pl : List (L2.Key × Int)) : List (L2.Key × AV) := (ord pl).map fun k => (k, (dget kv k).getD .non)
theorem make_ok {h g : Hep} {m : Nat} {a : AV} {ps : List (L2.Key × AV)} (ha : a.nx = true) (e0 : f_pairs_of [a] (h ++ [.ins 0 []]) = .ok (.ref m) g) (fr : Fr [] (h ++ [.ins 0 []]) g) (e : g[m]? = some (.lst (prD ps))) (nx : ∀ z ∈ ps, z.2.nx = true) (hl : ps.length ≤ 1000) :
    ∃ h' p q, f_Table_xinit [.ref h.length, a] (h ++ [.ins 0 []]) = .ok .non h' ∧ Fr [] h h' ∧ h.length < p ∧ h.length < q ∧ Tb h' h.length p q (mergeA [] ps) (plN 0 (mergeA [] ps)) 0 ((mergeA [] ps).length : Nat) := by
  obtain ⟨h', p, q, e1, f1, lp, lq, T⟩ := xinit_ok ha e0 fr at_last e nx hl
  simp at lp lq
  refine ⟨h', p, q, e1, ?_, by omega, by omega, T⟩
  have f2 : Fr [h.length] h h' := Fr.app.trans f1
  exact f2.drop fun i hi => by
    rw [List.mem_singleton] at hi
    omega
/-- Table() -/
theorem make_nil (h : Hep) : ∃ h' p' q', f_Table_xinit [.ref h.length, .tup []] (h ++ [.ins 0 []]) = .ok .non h' ∧ Fr [] h h' ∧ h.length < p' ∧ h.length < q' ∧ Tb h' h.length p' q' [] [] 0 0 := by
  obtain ⟨m, g, e, f, hm, a⟩ := pairs_of_nil (h ++ [.ins 0 []])
  exact make_ok (ps := []) (by rfl) e f a (fun z hz => by cases hz) (by simp)
theorem Sr.lt {h : Hep} {s k : Nat} {y : Int} (S : Sr h s y k) : s < h.length := lt_of S.ex.choose_spec.choose_spec.1
theorem Sr.frx {h h' : Hep} {s k k' : Nat} {y : Int} {ex : List Nat} (S : Sr h s y k) (f : Fr ex h h') (hs : s ∉ ex) (hk : k ≤ k') : Sr h' s y k' := by
  obtain ⟨⟨x, z, e, a, b, c⟩, y0, y1⟩ := S
  exact ⟨⟨x, z, f.at e hs, a, b, by omega⟩, y0, y1⟩
theorem Sr.fr {h h' : Hep} {s k k' : Nat} {y : Int} (S : Sr h s y k) (f : Fr [] h h') (hk : k ≤ k') : Sr h' s y k' := S.frx f (by simp) hk
theorem source_ok (ns : List Int) (p : Nat) (hp : p < 4) (h : Hep) : ∃ m g, f__law_source [.rol (ns.map .int), .int p] h = .ok (.ref m) g ∧ Fr [] h g ∧ ∃ y, Sr g m y 0 := by
  have fin : ∀ c : Int, (f__law_source [.rol (ns.map .int), .int p] h = .ok (.ref h.length) (h ++ [.lst [.int ((c.natAbs : Int) * (if (10 : Int) ^ 18 ≤ c.natAbs then 1 else 0)), .int (c % 1000000000000000009 + 9439 * p * p + 47 * p + 13), .int 0]])) → ∃ m g, f__law_source [.rol (ns.map .int), .int p] h = .ok (.ref m) g ∧ Fr [] h g ∧ ∃ y, Sr g m y 0 := fun c e => by
    have hc0 : 0 ≤ c % 1000000000000000009 := Int.emod_nonneg _ (by decide)
    have hc1 : c % 1000000000000000009 < 1000000000000000009 := Int.emod_lt_of_pos _ (by decide)
    have hpp : (p : Int) = 0 ∨ (p : Int) = 1 ∨ (p : Int) = 2 ∨ (p : Int) = 3 := by omega
    refine ⟨_, _, e, Fr.app, _, ⟨⟨_, _, new_at, ?_, Int.le_refl 0, by simp⟩, ?_, ?_⟩⟩
    · split <;> omega
    · rcases hpp with z | z | z | z <;> rw [z] <;> omega
    · rcases hpp with z | z | z | z <;> rw [z] <;> omega
  have m1 : ∀ j, mulOk 9439 j = true := fun j => mulOk_l (by omega) (by omega)
  have m2 : ∀ j, mulOk j (p : Int) = true := fun j => mulOk_r (by omega) (by omega)
  have m3 : ∀ (j : Int) (b : Prop) [Decidable b], mulOk j (if b then 1 else 0) = true := fun j b _ => mulOk_r (by split <;> omega) (by split <;> omega)
  have pw : ∀ h, powAV (.int 10) (.int 18) h = some (.int ((10 : Int) ^ 18), h) := fun h => pow_ii (by omega) (by omega) (by decide)
  have ln : ∀ h, lenL [.rol (ns.map .int)] h = some (.int (ns.length : Nat), h) := fun h => by simp [lenL, lenA]
  by_cases hl : p < ns.length
  · refine fin ns[p] ?_
    have ix : ∀ h, idxAV (.rol (ns.map .int)) (.int p) h = some (.int ns[p], h) := fun h => idx_rol (atI_nat (by simp [hl]))
    have hl' : (p : Int) < (ns.length : Int) := by omega
    simp -implicitDefEqProofs [f__law_source, dFun, dStart, p__law_source, ln, hl', ix, absL, pw, intL, m1, m2, m3, mkL, -Int.reducePow]
  · refine fin 0 ?_
    have hl' : ¬ (p : Int) < (ns.length : Int) := by omega
    simp -implicitDefEqProofs [f__law_source, dFun, dStart, p__law_source, ln, hl', absL, pw, intL, m1, m2, m3, mkL, -Int.reducePow]
/-! pairs of items -/
def pav (z : Iv × Iv) : AV := .tup [z.1.av, z.2.av]
def ppd (z : Iv × Iv) : PyData := .tuple [z.1.pd, z.2.pd]
abbrev okP (l : List (Iv × Iv)) : Prop := ∀ z ∈ l, z.1.okB = true ∧ z.2.okB = true
def kvI (l : List (Iv × Iv)) : List (L2.Key × AV) := l.map fun z => (z.1.ky, z.2.av)
theorem prD_kvI (l : List (Iv × Iv)) : prD (kvI l) = l.map pav := by
  simp only [prD, kvI, List.map_map]
  refine List.map_congr_left fun z _ => ?_
  show AV.tup [ofKey z.1.ky, z.2.av] = _
  rw [Iv.key_av]
  rfl
theorem kvI_nx (l : List (Iv × Iv)) : ∀ z ∈ kvI l, z.2.nx = true := fun z hz => by
  obtain ⟨w, _, rfl⟩ := List.mem_map.mp hz
  exact Iv.nx _
/-! the law's own list of pairs -/
def enX (xs : List AV) : List AV := xs.zipIdx.map fun z => .tup [.int (z.2 : Nat), z.1]
theorem ky_inj {a b : Iv} (h : a.ky = b.ky) : a = b := by
  cases a <;> cases b <;> simp [Iv.ky] at h <;> simp [h]
def putI (l : List (Iv × Iv)) (k v : Iv) : List (Iv × Iv) := if l.any (fun z => decide (z.1 = k)) = true then l.map (fun z => if z.1 = k then (z.1, v) else z) else l ++ [(k, v)]
theorem putI_kv (l : List (Iv × Iv)) (k v : Iv) : kvI (putI l k v) = dput (kvI l) k.ky v.av := by
  have e : (kvI l).any (fun z => decide (z.1 = k.ky)) = l.any (fun z => decide (z.1 = k)) := by
    simp only [kvI, List.any_map]
    congr 1
    funext z
    show decide (z.1.ky = k.ky) = decide (z.1 = k)
    exact decide_eq_decide.mpr ⟨ky_inj, fun h => by rw [h]⟩
  unfold putI dput
  rw [e]
  split
  · simp only [kvI, List.map_map]
    refine List.map_congr_left fun z _ => ?_
    show ((if z.1 = k then (z.1, v) else z).1.ky, (if z.1 = k then (z.1, v) else z).2.av) = if z.1.ky = k.ky then (z.1.ky, v.av) else (z.1.ky, z.2.av)
    by_cases c : z.1 = k
    · rw [if_pos c, if_pos (by rw [c])]
    · rw [if_neg c, if_neg fun h => c (ky_inj h)]
  · simp [kvI]
theorem okP_put {l : List (Iv × Iv)} {k v : Iv} (o : okP l) (hk : k.okB = true) (hv : v.okB = true) : okP (putI l k v) := fun z hz => by
  unfold putI at hz
  split at hz
  · obtain ⟨w, hw, e⟩ := List.mem_map.mp hz
    by_cases c : w.1 = k
    · rw [if_pos c] at e
      subst e
      exact ⟨(o w hw).1, hv⟩
    · rw [if_neg c] at e
      subst e
      exact o _ hw
  · rcases List.mem_append.mp hz with hz | hz
    · exact o z hz
    · rw [List.mem_singleton.mp hz]
      exact ⟨hk, hv⟩
def mdl (l : List (Iv × Iv)) : List (Iv × Iv) := l.foldl (fun acc z => putI acc z.1 z.2) []
theorem mdl_kv (l : List (Iv × Iv)) : kvI (mdl l) = mergeA [] (kvI l) := by
  have : ∀ (l acc : List (Iv × Iv)), kvI (l.foldl (fun acc z => putI acc z.1 z.2) acc) = mergeA (kvI acc) (kvI l) := fun l => by
    induction l with
    | nil => exact fun acc => rfl
    | cons z r ih =>
      intro acc
      rw [List.foldl_cons, ih, putI_kv]
      rfl
  exact this l []
def rowD (l : List (Iv × Iv)) : PyData := .list (l.map ppd)
theorem pav_dr (h : Hep) (z : Iv × Iv) : Dr h (pav z) (ppd z) := .tup (.cons (z.1.dr h) (.cons (z.2.dr h) .nil))
theorem ppd_eqv (z w : Iv × Iv) : PyData.eqv (ppd z) (ppd w) = decide (z = w) := by
  obtain ⟨a, b⟩ := z
  obtain ⟨c, d⟩ := w
  simp [ppd, PyData.eqv, PyData.eqvAll, Iv.eqv, Prod.mk.injEq, Bool.decide_and]
theorem rowD_eqv (l m : List (Iv × Iv)) : PyData.eqv (rowD l) (rowD m) = decide (l = m) := by
  rw [rowD, rowD, PyData.eqv, eqvAll_map ppd_eqv]
theorem canAll_mem {T : Type} {g : T → PyData} : ∀ {l : List T}, (∀ x ∈ l, (g x).canLay0 = true) → PyData.canLayAll0 (l.map g) = true
  | [], _ => by simp [PyData.canLayAll0]
  | x :: r, h => by simp [PyData.canLayAll0, h x (by simp), canAll_mem fun y hy => h y (List.mem_cons_of_mem _ hy)]
theorem ppd_can {z : Iv × Iv} (o : z.1.okB = true ∧ z.2.okB = true) : (ppd z).canLay0 = true := by
  simp [ppd, PyData.canLay0, PyData.canLayAll0, Iv.can o.1, Iv.can o.2]
theorem ppd_dep (z : Iv × Iv) : (ppd z).depth ≤ 1 := by
  have a := z.1.dep
  have b := z.2.dep
  rw [ppd, depth_tup, depthAll_cons, depthAll_cons, PyData.depthAll]
  omega
theorem rowD_can {l : List (Iv × Iv)} (o : okP l) : (rowD l).canLay0 = true := by
  rw [rowD, PyData.canLay0]
  exact canAll_mem fun z hz => ppd_can (o z hz)
theorem rowD_dep (l : List (Iv × Iv)) : (rowD l).depth ≤ 2 := by
  rw [rowD, depth_list]
  have := depthAll_map ppd_dep l
  omega
theorem rowD_ok {l : List (Iv × Iv)} (o : okP l) : DOk (rowD l) := ⟨rowD_can o, by have := rowD_dep l; omega⟩
theorem neRow {h : Hep} {m n : Nat} {l k : List (Iv × Iv)} (e1 : h[m]? = some (.lst (l.map pav))) (e2 : h[n]? = some (.lst (k.map pav))) (o1 : okP l) (o2 : okP k) : neAV (.ref m) (.ref n) h = some (.bl (!decide (l = k)), h) := by
  have q := neAV_dr (.ref e1 (drA_map (pav_dr h) l)) (.ref e2 (drA_map (pav_dr h) k)) (rowD_ok o1) (rowD_ok o2)
  have q2 := rowD_eqv l k
  unfold rowD at q2
  rw [q, q2]
theorem ok_ofS (s : String) : PyData.strOk (Str.ofString s) = true := by
  rw [Str.ofString_eq_toList]
  unfold PyData.strOk
  simp only [List.all_toArray, List.all_map, List.all_eq_true]
  intro c _
  have h : c.toNat.isValidChar := c.valid
  unfold Nat.isValidChar at h
  simp only [Function.comp_apply, decide_eq_true_eq]
  omega
theorem ok_appS {x y : Str} (hx : PyData.strOk x = true) (hy : PyData.strOk y = true) : PyData.strOk (x ++ y) = true := by
  have e : (x ++ y).cps = x.cps ++ y.cps := rfl
  unfold PyData.strOk at *
  rw [e, Array.all_append, hx, hy]
  rfl
/-- what is shown of a value, now and later -/
structure Rp (h : Hep) (v : AV) (x : Str) : Prop where
  nx : v.nx = true
  re : ∀ g, Fr [] h g → reprL [v] g = some (.str x, g)
  le : x.length ≤ 1000
  ok : PyData.strOk x = true
theorem Rp.fr {h h' : Hep} {v : AV} {x : Str} (r : Rp h v x) (f : Fr [] h h') : Rp h' v x := ⟨r.nx, fun g fg => r.re g (f.trans fg), r.le, r.ok⟩
def shB (d : PyData) : Bool := d.showable && !d.hasDict && decide (d.shown.length ≤ 1000) && decide (d.depth ≤ 60) && PyData.strOk d.shown
theorem rp_of {h : Hep} {v : AV} {d : PyData} (nx : v.nx = true) (e : ∀ g, Fr [] h g → toD DD g v = some d) (c : shB d = true) : Rp h v d.shown := by
  simp only [shB, Bool.and_eq_true, Bool.not_eq_true', decide_eq_true_eq] at c
  obtain ⟨⟨⟨⟨c1, c2⟩, c3⟩, c4⟩, c5⟩ := c
  refine ⟨nx, fun g f => ?_, c3, c5⟩
  have q : d.shown.length ≤ SZ := Nat.le_trans c3 (by decide)
  simp only [reprL, e g f]
  exact if_pos ⟨c1, c2, q, c4⟩
theorem rp_pure {v : AV} {d : PyData} (h : Hep) (nx : v.nx = true) (e : ∀ g, toD DD g v = some d) (c : shB d = true) : Rp h v d.shown := rp_of nx (fun g _ => e g) c
/-- p + what is shown -/
theorem Rp.add {h : Hep} {v : AV} {x : Str} (r : Rp h v x) (p : String) (hp : (Str.ofString p).length ≤ 1000) (g : Hep) : addAV (.str (Str.ofString p)) (.str x) g = some (.str (Str.ofString p ++ x), g) := by
  have q : (Str.ofString p).length + x.length ≤ SZ := by
    have := r.le
    show _ ≤ 1000000
    omega
  simp only [addAV]
  exact if_pos q
theorem Rp.same {h : Hep} {v : AV} {x : Str} (r : Rp h v x) (p : String) (g : Hep) : neAV (.str (Str.ofString p ++ x)) (.str (Str.ofString p ++ x)) g = some (.bl false, g) :=
  ne_st (ok_appS (ok_ofS p) r.ok) (ok_appS (ok_ofS p) r.ok) (by simp)
/-! values that are no items -/
def Odd (h : Hep) (v : AV) : Prop := v.nx = true ∧ ∀ g, Fr [] h g → ∃ g', f_is_item [v] g = .ok (.bl false) g' ∧ Fr [] g g'
theorem Odd.fr {h h' : Hep} {v : AV} (O : Odd h v) (f : Fr [] h h') : Odd h' v := ⟨O.1, fun g fg => O.2 g (f.trans fg)⟩
theorem odd_k {h : Hep} {v : AV} (nx : v.nx = true) (hs : ∀ g, Fr [] h g → isiL ct0 [v, .ty "str"] g = some (.bl false, g)) (hi : ∀ g, Fr [] h g → isiL ct0 [v, .ty "int"] g = some (.bl false, g)) : Odd h v :=
  ⟨nx, fun g fg => ⟨g, by simp [f_is_item, dFun, dStart, p_is_item, f_is_word, p_is_word, f_is_short, p_is_short, f_is_integer, p_is_integer, hs g fg, hi g fg, nx], Fr.refl⟩⟩
theorem odd_bl (h : Hep) (b : Bool) : Odd h (.bl b) := by
  have hs : ∀ g, isiL ct0 [.bl b, .ty "str"] g = some (.bl false, g) := fun g => rfl
  have hi : ∀ g, isiL ct0 [.bl b, .ty "int"] g = some (.bl true, g) := fun g => rfl
  have hb : ∀ g, isiL ct0 [.bl b, .ty "bool"] g = some (.bl true, g) := fun g => rfl
  exact ⟨rfl, fun g fg => ⟨g, by simp [f_is_item, dFun, dStart, p_is_item, f_is_word, p_is_word, f_is_short, p_is_short, f_is_integer, p_is_integer, hs, hi, hb], Fr.refl⟩⟩
theorem odd_int (h : Hep) (i : Int) (hi : 10 ^ 12 ≤ i.natAbs) : Odd h (.int i) := by
  refine ⟨rfl, fun g fg => ⟨g, ?_, Fr.refl⟩⟩
  have c : ¬ (i.natAbs : Int) < 1000000000000 := by omega
  have pw : powAV (.int 10) (.int 12) g = some (.int ((10 : Int) ^ 12), g) := pow_ii (by omega) (by omega) (by decide)
  have sh : f_is_short [.int i] g = .ok (.bl false) g := by
    simp [f_is_short, dFun, dStart, p_is_short, isint_int, absL, pw]
    omega
  simp [f_is_item, dFun, dStart, p_is_item, word_i, sh]
theorem bls_map (l : List Bool) : blsOf (l.map AV.bl) = some l := by
  induction l with
  | nil => rfl
  | cons a l ih => simp [blsOf, ih]
theorem all_bls {h : Hep} {n : Nat} {l : List Bool} (e : h[n]? = some (.lst (l.map .bl))) : allL [.ref n] h = some (.bl (l.all id), h) := by
  have lo : lstOf h (.ref n) = some (l.map .bl) := by simp [lstOf, e]
  simp [allL, lo, bls_map]
def chB (c : Nat) : Bool := inStr ⟨#[c]⟩ "abcdefghijklmnopqrstuvwxyz"
theorem odd_str (h : Hep) (x : Str) (hx : (decide (1 ≤ x.cps.size ∧ x.cps.size ≤ 6) && x.cps.toList.all chB) = false) (hl : x.cps.size ≤ 100) : Odd h (.str x) := by
  refine ⟨rfl, fun g fg => ?_⟩
  have ln : lenL [.str x] g = some (.int x.cps.size, g) := by
    have q : x.cps.size ≤ 1000000 := by omega
    simp [lenL, lenA, Str.length, q]
  have hi : ∀ g, isiL ct0 [.str x, .ty "int"] g = some (.bl false, g) := fun g => rfl
  have wd : ∃ g', f_is_word [.str x] g = .ok (.bl false) g' ∧ Fr [] g g' := by
    by_cases c1 : 1 ≤ x.cps.size
    · by_cases c2 : x.cps.size ≤ 6
      · rw [decide_eq_true ⟨c1, c2⟩, Bool.true_and] at hx
        have r := lc_map (f := dSrc (dVar 0)) (te := e_is_word_1) (g := dgN 1) (vs := [1]) (s := [some (.str x), none]) (h := g) (h1 := g) (l := x.cps.toList) (fun c => AV.str ⟨#[c]⟩) (fun c => AV.bl (chB c)) (Sq.fix (by simp [dSrc])) (by simp; omega) fun c acc hc => ⟨[some (.str x), some (.str ⟨#[c]⟩)], rfl, by simp [e_is_word_1, inAV, inB, chB]⟩
        have r2 : (x.cps.toList.map fun c => AV.bl (chB c)) = (x.cps.toList.map chB).map .bl := by
          rw [List.map_map]
          rfl
        rw [r2] at r
        have a1 : (g ++ [AO.lst ((x.cps.toList.map chB).map .bl)])[g.length]? = some (.lst ((x.cps.toList.map chB).map .bl)) := at_last
        have al := all_bls a1
        have ha : ((x.cps.toList.map chB).all id) = false := by
          rw [List.all_map]
          exact hx
        rw [ha] at al
        have f1 : Fr [] g (g ++ [AO.lst ((x.cps.toList.map chB).map .bl)]) := Fr.app
        generalize g ++ [AO.lst ((x.cps.toList.map chB).map .bl)] = g1 at r al f1
        have h1 : (1 : Int) ≤ (x.cps.size : Int) := by omega
        have h2 : (x.cps.size : Int) ≤ 6 := by omega
        exact ⟨g1, by simp [f_is_word, dFun, dStart, p_is_word, isi_str, ln, h1, h2, r, al], f1⟩
      · have h1 : (1 : Int) ≤ (x.cps.size : Int) := by omega
        have h2 : ¬ (x.cps.size : Int) ≤ 6 := by omega
        exact ⟨g, by simp [f_is_word, dFun, dStart, p_is_word, isi_str, ln, h1, h2], Fr.refl⟩
    · have h1 : ¬ (1 : Int) ≤ (x.cps.size : Int) := by omega
      exact ⟨g, by simp [f_is_word, dFun, dStart, p_is_word, isi_str, ln, h1], Fr.refl⟩
  obtain ⟨g', e, f⟩ := wd
  exact ⟨g', by simp [f_is_item, dFun, dStart, p_is_item, e, f_is_short, p_is_short, f_is_integer, p_is_integer, hi], f⟩
theorem odd_lst {h : Hep} {n : Nat} {xs : List AV} (e : h[n]? = some (.lst xs)) : Odd h (.ref n) :=
  odd_k rfl (fun g f => by simp [isiL, isiB, twOf, f.at e (by simp), twO]; rfl) (fun g f => by simp [isiL, isiB, twOf, f.at e (by simp), twO]; rfl)
def Iv.in2 (v : Iv) : Bool := v.okB && (decide (v ≠ .s "q") && (decide (v ≠ .i 123) && decide (v ≠ .i (-7))))
abbrev ok2P (l : List (Iv × Iv)) : Prop := ∀ z ∈ l, z.1.in2 = true ∧ z.2.in2 = true
theorem litem2 {h : Hep} {s k : Nat} {y : Int} (S : Sr h s y k) (hk : k < 90000) : ∃ (v : Iv) (h' : Hep), f__law_item [.ref s] h = .ok v.av h' ∧ v.in2 = true ∧ Fr [s] h h' ∧ Sr h' s y (k + 2) := by
  have hs := S.lt
  obtain ⟨w, h1, w0, w1, e1, r1, l1, S1⟩ := draw_ok (m := 3) S (by omega) (by omega) (by omega)
  have go : ∀ (a b c d : Iv) (xs : List AV), xs = [a.av, b.av, c.av, d.av] → a.in2 = true → b.in2 = true → c.in2 = true → d.in2 = true →
      ∃ (v : Iv) (n : Nat) (g1 g2 : Hep) (j : Int), mkL xs h1 = some (.ref n, g1) ∧ f__law_draw [.ref s, .int 4] g1 = .ok (.int j) g2 ∧ idxAV (.ref n) (.int j) g2 = some (v.av, g2) ∧ v.in2 = true ∧ Fr [s] h g2 ∧ Sr g2 s y (k + 2) := fun a b c d xs ex oa ob oc od => by
    subst ex
    obtain ⟨n, g1, e2, r2, hn, el⟩ := mk_new [a.av, b.av, c.av, d.av] h1 (by simp)
    obtain ⟨j, g2, j0, j1, e3, r3, l3, S3⟩ := draw_ok (m := 4) (S1.fr r2 (Nat.le_refl _)) (by omega) (by omega) (by omega)
    have el2 := r3.at el (by simp; omega)
    have hj : j = 0 ∨ j = 1 ∨ j = 2 ∨ j = 3 := by omega
    have fr : Fr [s] h g2 := (r1.trans r2.nil).trans r3
    rcases hj with rfl | rfl | rfl | rfl
    · exact ⟨a, n, g1, g2, 0, e2, e3, idx_lst el2 rfl, oa, fr, S3⟩
    · exact ⟨b, n, g1, g2, 1, e2, e3, idx_lst el2 rfl, ob, fr, S3⟩
    · exact ⟨c, n, g1, g2, 2, e2, e3, idx_lst el2 rfl, oc, fr, S3⟩
    · exact ⟨d, n, g1, g2, 3, e2, e3, idx_lst el2 rfl, od, fr, S3⟩
  have hw : w = 0 ∨ w = 1 ∨ w = 2 := by omega
  rcases hw with rfl | rfl | rfl
  · obtain ⟨v, n, g1, g2, j, e2, e3, e4, ov, fr, S3⟩ := go (.s "a") (.s "b") (.s "ab") (.s "zzzzzz") _ rfl (by decide +kernel) (by decide +kernel) (by decide +kernel) (by decide +kernel)
    simp only [Iv.av] at e2
    exact ⟨v, g2, by simp -implicitDefEqProofs [f__law_item, dFun, dStart, p__law_item, e1, e2, e3, e4, eq_ii], ov, fr, S3⟩
  · obtain ⟨v, n, g1, g2, j, e2, e3, e4, ov, fr, S3⟩ := go (.i 0) (.i 1) (.i (-1)) (.i 7) _ rfl (by decide +kernel) (by decide +kernel) (by decide +kernel) (by decide +kernel)
    simp only [Iv.av] at e2
    exact ⟨v, g2, by simp -implicitDefEqProofs [f__law_item, dFun, dStart, p__law_item, e1, e2, e3, e4, eq_ii], ov, fr, S3⟩
  · obtain ⟨v, n, g1, g2, j, e2, e3, e4, ov, fr, S3⟩ := go (.i 999999999999) (.i (-999999999999)) (.s "c") (.i 2) _ rfl (by decide +kernel) (by decide +kernel) (by decide +kernel) (by decide +kernel)
    simp only [Iv.av] at e2
    exact ⟨v, g2, by simp -implicitDefEqProofs [f__law_item, dFun, dStart, p__law_item, e1, e2, e3, e4, eq_ii], ov, fr, S3⟩
theorem lpairs2 {h : Hep} {s k m : Nat} {y : Int} (S : Sr h s y k) (hk : k < 80000) (hm : m < 1000) :
    ∃ (l : List (Iv × Iv)) (n : Nat) (h' : Hep), f__law_pairs [.ref s, .int (m : Int)] h = .ok (.ref n) h' ∧ h'[n]? = some (.lst (l.map pav)) ∧ l.length ≤ m ∧ ok2P l ∧ Fr [s] h h' ∧ h.length ≤ n ∧ Sr h' s y (k + 1 + 4 * m) := by
  obtain ⟨w, h1, w0, w1, e1, r1, l1, S1⟩ := draw_ok (m := (m : Int) + 1) S (by omega) (by omega) (by omega)
  obtain ⟨n, rfl⟩ : ∃ n : Nat, w = n := ⟨w.toNat, by omega⟩
  have ef : dRg1 (dCons (dCallC f__law_draw 2 0 2 [0, 1] [] (dCons (dVar 0) (dCons (dOp addAV (dVar 1) (dC (.int 1))) dNil)) dNil) dNil) [some (.ref s), some (.int (m : Int)), none] h = .ok (.fix (rngL 0 n)) h1 := rg1_ok (j := n) (by simp [e1]) rfl (by omega)
  have hs := S1.lt
  obtain ⟨acc, h', e, ⟨l, ea, hl, ol, fr, S2⟩, eD⟩ := lc_fix (te := e__law_pairs_1) (g := dgN 2) (vs := [2])
    (fun i acc g => ∃ l : List (Iv × Iv), acc = l.map pav ∧ l.length = i ∧ ok2P l ∧ Fr [s] h1 g ∧ Sr g s y (k + 1 + 4 * i)) ef (by simp; omega) ⟨[], rfl, rfl, (fun v hv => by cases hv), Fr.app, S1.fr Fr.app (by omega)⟩
    (fun i acc g x hx ⟨l, ea, hl, ol, fr, S2⟩ eD => by
      have hi : i < n := by
        have := (List.getElem?_eq_some_iff.mp hx).1
        simpa using this
      obtain ⟨v, g2, e2, hv, r2, S3⟩ := litem2 S2 (by omega)
      obtain ⟨u, g3, e3, hu, r3, S4⟩ := litem2 S3 (by omega)
      have hD := lt_of eD
      have r23 := r2.trans r3
      have vn := v.nx
      have un := u.nx
      refine ⟨[some (.ref s), some (.int (m : Int)), some x], pav (v, u), g3, rfl, by simp -implicitDefEqProofs [e__law_pairs_1, e2, e3, mkT, pav], ?_, l ++ [(v, u)], by simp [ea], by simp [hl], ?_, ((fr.trans r23).set_new (Nat.le_refl _)), ?_⟩
      · rw [r23.2 _ hD (by simp; omega)]
        exact eD
      · intro q hq
        rcases List.mem_append.mp hq with z | z
        · exact ol q z
        · rw [List.mem_singleton.mp z]
          exact ⟨hv, hu⟩
      · obtain ⟨⟨x, z, e, a, b, c⟩, y0, y1⟩ := S4
        exact ⟨⟨x, z, by rw [List.getElem?_set_ne (by omega)]; exact e, a, b, by omega⟩, y0, y1⟩)
  simp only [rngL_length] at hl S2
  subst ea
  exact ⟨l, h1.length, h', by simp -implicitDefEqProofs [f__law_pairs, dFun, dStart, p__law_pairs, e], eD, by omega, ol, r1.trans fr, by omega, S2.fr Fr.refl (by omega)⟩

theorem ok2_P {l : List (Iv × Iv)} (o : ok2P l) : okP l := fun z hz => ⟨(Bool.and_eq_true_iff.mp (o z hz).1).1, (Bool.and_eq_true_iff.mp (o z hz).2).1⟩
/-! values that are no items, shown, no pairs -/
def NP (h : Hep) (v : AV) : Prop := (∀ g, Fr [] h g → isiL ct0 [v, .ty "tuple"] g = some (.bl false, g)) ∨ ∃ xs, v = .tup xs ∧ xs.length ≠ 2 ∧ xs.length ≤ 1000
structure OV (h : Hep) (v : AV) : Prop where
  od : Odd h v
  rp : ∃ x, Rp h v x
  np : NP h v
theorem NP.fr {h h' : Hep} {v : AV} (n : NP h v) (f : Fr [] h h') : NP h' v := n.imp (fun k g fg => k g (f.trans fg)) id
theorem OV.fr {h h' : Hep} {v : AV} (o : OV h v) (f : Fr [] h h') : OV h' v := ⟨o.od.fr f, let ⟨x, r⟩ := o.rp; ⟨x, r.fr f⟩, o.np.fr f⟩
theorem OV.nx {h : Hep} {v : AV} (o : OV h v) : v.nx = true := o.od.1
theorem ov_of {h : Hep} {v : AV} {d : PyData} (od : Odd h v) (e : ∀ g, Fr [] h g → toD DD g v = some d) (c : shB d = true) (np : NP h v) : OV h v := ⟨od, ⟨_, rp_of od.1 e c⟩, np⟩
theorem isi_lt {h : Hep} {n : Nat} {xs : List AV} (e : h[n]? = some (.lst xs)) (g : Hep) (f : Fr [] h g) : isiL ct0 [.ref n, .ty "tuple"] g = some (.bl false, g) := by
  have e2 := f.at e (by simp)
  simp [isiL, isiB, twOf, e2, twO, twC, TW.sub, tyNames]
theorem lodd52 {h : Hep} {s k : Nat} {y : Int} (S : Sr h s y k) (hk : k < 80000) : ∃ v h', f__law_odd [.ref s] h = .ok v h' ∧ Fr [s] h h' ∧ OV h' v ∧ Sr h' s y (k + 1) := by
  have hs := S.lt
  have pw : ∀ h, powAV (.int 10) (.int 12) h = some (.int ((10 : Int) ^ 12), h) := fun h => pow_ii (by omega) (by omega) (by decide)
  have pw2 : ∀ h, powAV (.int 10) (.int 39) h = some (.int ((10 : Int) ^ 39), h) := fun h => pow_ii (by omega) (by omega) (by decide)
  obtain ⟨n1, g1, e1, f1, hn1, a1⟩ := mk_new [] h (by simp)
  obtain ⟨n2, g2, e2, f2, hn2, a2⟩ := mk_new [.str "a"] g1 (by simp)
  obtain ⟨n3, g3, e3, f3, hn3, a3⟩ := mk_new [.non, .bl true, .bl false, .str "", .str "A", .str "a b", .str "abcdefg", .int ((10 : Int) ^ 12), .int (-(10 : Int) ^ 12), .int ((10 : Int) ^ 39), .ref n1, .tup [], .tup [.str "a"], .ref n2, .str "a1"] g2 (by simp)
  have ff := f1.trans (f2.trans f3)
  have l1 := f1.1
  have l2 := f2.1
  have l3 := f3.1
  obtain ⟨w, g7, w0, w1, e7, f7, l7, S7⟩ := draw_ok (m := 15) (S.fr ff (Nat.le_refl _)) (by omega) (by omega) (by omega)
  have b3 := f7.at a3 (by simp; omega)
  have b1 := f7.at ((f2.trans f3).at a1 (by simp)) (by simp; omega)
  have b2 := f7.at (f3.at a2 (by simp)) (by simp; omega)
  obtain ⟨v, iv, O⟩ : ∃ v, idxAV (.ref n3) (.int w) g7 = some (v, g7) ∧ OV g7 v := by
    obtain ⟨i, rfl⟩ : ∃ i : Nat, w = i := ⟨w.toNat, by omega⟩
    have hi : i < 15 := by omega
    have ix : ∀ v, [AV.non, .bl true, .bl false, .str "", .str "A", .str "a b", .str "abcdefg", .int ((10 : Int) ^ 12), .int (-(10 : Int) ^ 12), .int ((10 : Int) ^ 39), .ref n1, .tup [], .tup [.str "a"], .ref n2, .str "a1"][i]? = some v → idxAV (.ref n3) (.int (i : Nat)) g7 = some (v, g7) := fun v hv => idx_lst b3 (by
      have : L2.ixN 15 (i : Int) = some i := by
        unfold L2.ixN
        rw [if_pos (by omega), if_pos (by omega)]
        simp
      show (L2.ixN 15 (i : Int)).bind _ = _
      rw [this]
      exact hv)
    have tp : ∀ (xs : List AV) (g : Hep), isiL ct0 [.tup xs, .ty "str"] g = some (.bl false, g) ∧ isiL ct0 [.tup xs, .ty "int"] g = some (.bl false, g) := fun xs g => ⟨rfl, rfl⟩
    have st : ∀ {v : AV} {d : PyData}, Odd g7 v → (∀ g, toD DD g v = some d) → shB d = true → (∀ g, isiL ct0 [v, .ty "tuple"] g = some (.bl false, g)) → OV g7 v := fun o e c n => ov_of o (fun g _ => e g) c (.inl fun g _ => n g)
    rcases i with _ | _ | _ | _ | _ | _ | _ | _ | _ | _ | _ | _ | _ | _ | _ | i
    · exact ⟨_, ix _ rfl, st (odd_k rfl (fun _ _ => rfl) (fun _ _ => rfl)) (fun _ => rfl) (by decide +kernel) fun _ => rfl⟩
    · exact ⟨_, ix _ rfl, st (odd_bl _ _) (fun _ => rfl) (by decide +kernel) fun _ => rfl⟩
    · exact ⟨_, ix _ rfl, st (odd_bl _ _) (fun _ => rfl) (by decide +kernel) fun _ => rfl⟩
    · exact ⟨_, ix _ rfl, st (odd_str _ _ (by decide +kernel) (by decide +kernel)) (fun _ => rfl) (by decide +kernel) fun _ => rfl⟩
    · exact ⟨_, ix _ rfl, st (odd_str _ _ (by decide +kernel) (by decide +kernel)) (fun _ => rfl) (by decide +kernel) fun _ => rfl⟩
    · exact ⟨_, ix _ rfl, st (odd_str _ _ (by decide +kernel) (by decide +kernel)) (fun _ => rfl) (by decide +kernel) fun _ => rfl⟩
    · exact ⟨_, ix _ rfl, st (odd_str _ _ (by decide +kernel) (by decide +kernel)) (fun _ => rfl) (by decide +kernel) fun _ => rfl⟩
    · exact ⟨_, ix _ rfl, st (odd_int _ _ (by decide +kernel)) (fun _ => rfl) (by decide +kernel) fun _ => rfl⟩
    · exact ⟨_, ix _ rfl, st (odd_int _ _ (by decide +kernel)) (fun _ => rfl) (by decide +kernel) fun _ => rfl⟩
    · exact ⟨_, ix _ rfl, st (odd_int _ _ (by decide +kernel)) (fun _ => rfl) (by decide +kernel) fun _ => rfl⟩
    · exact ⟨_, ix _ rfl, ov_of (d := .list []) (odd_lst b1) (fun g f => by simp [toD, f.at b1 (by simp)]) (by decide +kernel) (.inl (isi_lt b1))⟩
    · exact ⟨_, ix _ rfl, ov_of (d := .tuple []) (odd_k rfl (fun g _ => (tp _ g).1) (fun g _ => (tp _ g).2)) (fun g f => rfl) (by decide +kernel) (.inr ⟨_, rfl, by simp, by simp⟩)⟩
    · exact ⟨_, ix _ rfl, ov_of (d := .tuple [.str "a"]) (odd_k rfl (fun g _ => (tp _ g).1) (fun g _ => (tp _ g).2)) (fun g f => rfl) (by decide +kernel) (.inr ⟨_, rfl, by simp, by simp⟩)⟩
    · exact ⟨_, ix _ rfl, ov_of (d := .list [.str "a"]) (odd_lst b2) (fun g f => by simp [toD, f.at b2 (by simp)]) (by decide +kernel) (.inl (isi_lt b2))⟩
    · exact ⟨_, ix _ rfl, st (odd_str _ _ (by decide +kernel) (by decide +kernel)) (fun _ => rfl) (by decide +kernel) fun _ => rfl⟩
    · omega
  have vn := O.nx
  have ln : lenL [.ref n3] g3 = some (.int 15, g3) := by simp [lenL, lenA, a3]
  refine ⟨v, g7, ?_, ff.nil.trans f7, O, S7⟩
  simp -implicitDefEqProofs [f__law_odd, dFun, dStart, p__law_odd, e1, e2, e3, e7, iv, ln, pw, pw2, mkT, SZ, vn, -Int.reducePow, -Int.reduceNeg]
/-! what the helper tells -/
theorem err_item {d : DE} {s : Sl} {h g : Hep} {v : AV} {x : Str} (r : Rp h v x) (f : Fr [] h g) (e : d s h = .exc 1 [(4, v)] g) : dLamC f__law_error d s h = .ok (.str (Str.ofString "item " ++ x)) g := by
  show f__law_error (fun g => d s g) h = _
  have nx := r.nx
  have re := r.re g f
  have ad := r.add "item " (by decide) g
  simp [f__law_error, dHlp, p__law_error, b__law_error_1, b__law_error_2, b__law_error_3, b__law_error_4, b__law_error_5, dAct, e, xt0, tyLook, nx, re, ad, fget, dIsO, isOK]
theorem err_key {d : DE} {s : Sl} {h g : Hep} {v : AV} {x : Str} (r : Rp h v x) (f : Fr [] h g) (e : d s h = .exc 3 [(4, v)] g) : dLamC f__law_error d s h = .ok (.str (Str.ofString "key " ++ x)) g := by
  show f__law_error (fun g => d s g) h = _
  have nx := r.nx
  have re := r.re g f
  have ad := r.add "key " (by decide) g
  simp [f__law_error, dHlp, p__law_error, b__law_error_1, b__law_error_2, b__law_error_3, b__law_error_4, b__law_error_5, dAct, e, xt0, tyLook, nx, re, ad, fget, dIsO, isOK]
theorem err_pairs {d : DE} {s : Sl} {h g : Hep} (e : d s h = .exc 2 [] g) : dLamC f__law_error d s h = .ok (.str "pairs") g := by
  show f__law_error (fun g => d s g) h = _
  simp [f__law_error, dHlp, p__law_error, b__law_error_1, b__law_error_2, b__law_error_3, b__law_error_4, b__law_error_5, dAct, e, xt0, tyLook, dIsO, isOK]
theorem err_empty {d : DE} {s : Sl} {h g : Hep} (e : d s h = .exc 4 [] g) : dLamC f__law_error d s h = .ok (.str "empty") g := by
  show f__law_error (fun g => d s g) h = _
  simp [f__law_error, dHlp, p__law_error, b__law_error_1, b__law_error_2, b__law_error_3, b__law_error_4, b__law_error_5, dAct, e, xt0, tyLook, dIsO, isOK]
section
variable {h : Hep} {t p q : Nat} {kv : List (L2.Key × AV)} {pl : List (L2.Key × Int)} {fp np : Int}
theorem Tc.fr0 {cl : Nat} {h h' : Hep} (T : Tc cl h t p q kv pl fp np) (f : Fr [] h h') : Tc cl h' t p q kv pl fp np := T.fr f (by simp) (by simp) (by simp)
theorem put_bad1 (T : Tb h t p q kv pl fp np) {v w : AV} (O : Odd h v) (nw : w.nx = true) : ∃ g, f_Table_put [.ref t, v, w] h = .exc 1 [(4, v)] g ∧ Fr [] h g := by
  obtain ⟨g, e, f⟩ := O.2 h Fr.refl
  have nx := O.1
  refine ⟨g, ?_, f⟩
  simp [f_Table_put, dFun, dStart, p_Table_put, b_Table_put_1, dFor, dSrc, Src.next, Src.len, dLoop, SR.loop, mkT, e, nx, nw]
theorem put_bad2 (T : Tb h t p q kv pl fp np) {k : Iv} {v : AV} (hk : k.okB = true) (O : Odd h v) : ∃ g, f_Table_put [.ref t, k.av, v] h = .exc 1 [(4, v)] g ∧ Fr [] h g := by
  obtain ⟨g0, e0, f0⟩ := item_ok k hk h
  obtain ⟨g, e, f⟩ := O.2 g0 f0
  have nx := O.1
  have kn := k.nx
  refine ⟨g, ?_, f0.trans f⟩
  simp [f_Table_put, dFun, dStart, p_Table_put, b_Table_put_1, dFor, dSrc, Src.next, Src.len, dLoop, SR.loop, mkT, e0, e, nx, kn]
theorem set_bad (T : Tb h t p q kv pl fp np) {a b : AV} {xt : Nat} {fs : List (Nat × AV)} {g : Hep} (na : a.nx = true) (nb : b.nx = true) (e : f_Table_put [.ref t, a, b] h = .exc xt fs g) : f_Table_xsetitem [.ref t, a, b] h = .exc xt fs g := by
  simp [f_Table_xsetitem, dFun, dStart, p_Table_xsetitem, methK_of T.ob, na, nb, e]
theorem store_bad (T : Tb h t p q kv pl fp np) {a b : AV} {xt : Nat} {fs : List (Nat × AV)} {g : Hep} (na : a.nx = true) (nb : b.nx = true) (e : f_Table_put [.ref t, a, b] h = .exc xt fs g) : f__law_store [.ref t, a, b] h = .exc xt fs g := by
  have z := set_bad T na nb e
  simp [f__law_store, dFun, dStart, p__law_store, isT_of T.ob, na, nb, z]
/-- a value that is not there -/
structure Ab (h : Hep) (t : Nat) (v : AV) : Prop where
  nx : v.nx = true
  rp : ∃ x, Rp h v x
  no : ∀ g, Fr [] h g → (∃ g', f_Table_xcontains [.ref t, v] g = .ok (.bl false) g' ∧ Fr [] g g') ∧ ∃ g', f_Table_xgetitem [.ref t, v] g = .exc 3 [(4, v)] g' ∧ Fr [] g g'
theorem Ab.fr {h' : Hep} {v : AV} (a : Ab h t v) (f : Fr [] h h') : Ab h' t v := ⟨a.nx, let ⟨x, r⟩ := a.rp; ⟨x, r.fr f⟩, fun g fg => a.no g (f.trans fg)⟩
theorem ab_odd (T : Tb h t p q kv pl fp np) {v : AV} (O : OV h v) : Ab h t v := by
  have nx := O.nx
  refine ⟨nx, O.rp, fun g fg => ?_⟩
  obtain ⟨g', e, f⟩ := O.od.2 g fg
  exact ⟨⟨g', by simp [f_Table_xcontains, dFun, dStart, p_Table_xcontains, e, nx], f⟩, g', by simp [f_Table_xgetitem, dFun, dStart, p_Table_xgetitem, e, nx], f⟩
theorem ab_key (T : Tb h t p q kv pl fp np) {k : Iv} (hk : k.okB = true) (no : dget kv k.ky = none) {x : Str} (r : Rp h k.av x) : Ab h t k.av := by
  refine ⟨k.nx, ⟨x, r⟩, fun g fg => ?_⟩
  obtain ⟨g1, e1, f1⟩ := contains_ok (T.fr0 fg) k hk
  rw [no] at e1
  obtain ⟨g2, e2, f2⟩ := item_ok k hk g
  have T2 := T.fr0 (fg.trans f2)
  have ni := notin_dic (k := k.ky) T2.hd
  rw [k.key_av, no] at ni
  have kn := k.nx
  exact ⟨⟨g1, e1, f1⟩, g2, by simp [f_Table_xgetitem, dFun, dStart, p_Table_xgetitem, e2, kn, ins_of T2.ob, ni], f2⟩
theorem del_no (T : Tb h t p q kv pl fp np) {v : AV} (a : Ab h t v) : ∃ g, f_Table_delete [.ref t, v] h = .exc 3 [(4, v)] g ∧ Fr [] h g := by
  obtain ⟨⟨g, e, f⟩, _⟩ := a.no h Fr.refl
  have nx := a.nx
  exact ⟨g, by simp [f_Table_delete, dFun, dStart, p_Table_delete, nx, inOK, isT_of T.ob, e], f⟩
theorem end_no (T : Tb h t p q kv pl fp np) {v w : AV} (a : Ab h t v) : ∃ g, f_Table_to_end [.ref t, v, w] h = .exc 3 [(4, v)] g ∧ Fr [] h g := by
  obtain ⟨⟨g, e, f⟩, _⟩ := a.no h Fr.refl
  have nx := a.nx
  exact ⟨g, by simp [f_Table_to_end, dFun, dStart, p_Table_to_end, nx, inOK, isT_of T.ob, e], f⟩
theorem get_no (T : Tb h t p q kv pl fp np) {v w : AV} (a : Ab h t v) (nw : w.nx = true) : ∃ g, f_Table_get [.ref t, v, w] h = .ok w g ∧ Fr [] h g := by
  obtain ⟨⟨g, e, f⟩, _⟩ := a.no h Fr.refl
  have nx := a.nx
  exact ⟨g, by simp [f_Table_get, dFun, dStart, p_Table_get, nx, nw, inOK, isT_of T.ob, e], f⟩
end
section
variable {h : Hep} {t p q : Nat} {kv : List (L2.Key × AV)} {pl : List (L2.Key × Int)} {fp np : Int}
theorem items_ok (T : Tb h t p q kv pl fp np) {v : AV} (O : OV h v) : ∃ g, f__law_items_right [.ref t, v] h = .ok (.bl true) g ∧ Fr [] h g := by
  obtain ⟨x, R⟩ := O.rp
  have nx := O.nx
  have pw : ∀ h, powAV (.int 10) (.int 20) h = some (.int ((10 : Int) ^ 20), h) := fun h => pow_ii (by omega) (by omega) (by decide)
  have A : Iv.okB (.s "a") = true := by decide +kernel
  obtain ⟨g1, e1, f1⟩ := put_bad1 T O.od (w := v) nx
  have r1 := err_item (d := dMeth 0 f_Table_put 2 0 3 [0, 1, 2] [] (dVar 0) (dCons (dVar 1) (dCons (dVar 1) dNil)) dNil) (s := [some (.ref t), some v]) R f1 (by simp [nx, methK_of T.ob, e1])
  obtain ⟨g2, e2, f2⟩ := put_bad2 (T.fr0 f1) (k := .s "a") A (O.od.fr f1)
  have e2 : f_Table_put [.ref t, .str "a", v] g1 = _ := e2
  have r2 := err_item (d := dMeth 0 f_Table_put 2 0 3 [0, 1, 2] [] (dVar 0) (dCons (dC (.str "a")) (dCons (dVar 1) dNil)) dNil) (s := [some (.ref t), some v]) (R.fr f1) f2 (by simp [nx, methK_of (T.fr0 f1).ob, e2])
  have f12 := f1.trans f2
  obtain ⟨g3, e3, f3⟩ := put_bad1 (T.fr0 f12) (O.od.fr f12) (w := .int ((10 : Int) ^ 20)) rfl
  have e3 := store_bad (T.fr0 f12) nx rfl e3
  have r3 := err_item (d := dCallC f__law_store 3 0 3 [0, 1, 2] [] (dCons (dVar 0) (dCons (dVar 1) (dCons (dOp powAV (dC (.int 10)) (dC (.int 20))) dNil))) dNil) (s := [some (.ref t), some v]) (R.fr f12) f3 (by simp [nx, pw, e3, -Int.reducePow])
  have f13 := f12.trans f3
  obtain ⟨g4, e4, f4⟩ := put_bad2 (T.fr0 f13) (k := .s "a") A (O.od.fr f13)
  have e4 := store_bad (T.fr0 f13) (Iv.nx _) nx e4
  have e4 : f__law_store [.ref t, .str "a", v] g3 = _ := e4
  have r4 := err_item (d := dCallC f__law_store 3 0 3 [0, 1, 2] [] (dCons (dVar 0) (dCons (dC (.str "a")) (dCons (dVar 1) dNil))) dNil) (s := [some (.ref t), some v]) (R.fr f13) f4 (by simp [nx, e4])
  have f14 := f13.trans f4
  have a1 := R.add "item " (by decide)
  have s1 := R.same "item "
  have q1 := R.re g1 f1
  have q2 := R.re g2 f12
  have q3 := R.re g3 f13
  have q4 := R.re g4 f14
  refine ⟨g4, ?_, f14⟩
  simp [f__law_items_right, dFun, dStart, p__law_items_right, r1, r2, r3, r4, nx, a1, s1, q1, q2, q3, q4]
theorem keys_ok (T : Tb h t p q kv pl fp np) {v : AV} (A : Ab h t v) : ∃ g, f__law_keys_right [.ref t, v] h = .ok (.bl true) g ∧ Fr [] h g := by
  obtain ⟨x, R⟩ := A.rp
  have nx := A.nx
  obtain ⟨⟨g1, e1, f1⟩, _⟩ := A.no h Fr.refl
  obtain ⟨g2, e2, f2⟩ := get_no (T.fr0 f1) (A.fr f1) (w := .non) rfl
  have f12 := f1.trans f2
  obtain ⟨g3, e3, f3⟩ := get_no (T.fr0 f12) (A.fr f12) (w := .int 3) rfl
  have f13 := f12.trans f3
  obtain ⟨_, g4, e4, f4⟩ := A.no g3 f13
  have f14 := f13.trans f4
  obtain ⟨g5, e5, f5⟩ := del_no (T.fr0 f14) (A.fr f14)
  have r4 := err_key (d := dOpX (ixOK 0 f_Table_xgetitem) (dVar 0) (dVar 1)) (s := [some (.ref t), some v, some (.str (Str.ofString "key " ++ x))]) (R.fr f13) f4 (by simp [nx, ixOK, isT_of (T.fr0 f13).ob, e4])
  have r5 := err_key (d := dMeth 0 f_Table_delete 1 0 2 [0, 1] [] (dVar 0) (dCons (dVar 1) dNil) dNil) (s := [some (.ref t), some v, some (.str (Str.ofString "key " ++ x))]) (R.fr f14) f5 (by simp [nx, methK_of (T.fr0 f14).ob, e5])
  have a1 := R.add "key " (by decide)
  have s1 := R.same "key "
  have q0 := R.re h Fr.refl
  have n1 : ∀ g, notNonAV .non .non g = some (.bl false, g) := fun g => by kernel_rfl
  have n2 : ∀ g, neAV (.int 3) (.int 3) g = some (.bl false, g) := fun g => by kernel_rfl
  have n3 : ∀ g, eqAV (.str (Str.ofString "key " ++ x)) (.str (Str.ofString "key " ++ x)) g = some (.bl true, g) := fun g => eq_st (ok_appS (ok_ofS _) R.ok) (ok_appS (ok_ofS _) R.ok) (by simp)
  refine ⟨g5, ?_, f14.trans f5⟩
  simp [f__law_keys_right, dFun, dStart, p__law_keys_right, nx, q0, a1, inOK, isT_of T.ob, e1, methK_of (T.fr0 f1).ob, e2, methK_of (T.fr0 f12).ob, e3, n1, n2, n3, r4, r5, s1]
theorem ends_ok (T : Tb h t p q kv pl fp np) {v : AV} (A : Ab h t v) : ∃ g, f__law_ends_right [.ref t, v] h = .ok (.bl true) g ∧ Fr [] h g := by
  obtain ⟨x, R⟩ := A.rp
  have nx := A.nx
  obtain ⟨g1, e1, f1⟩ := end_no T A (w := .bl true)
  obtain ⟨g2, e2, f2⟩ := end_no (T.fr0 f1) (A.fr f1) (w := .bl false)
  have r1 := err_key (d := dMeth 0 f_Table_to_end 1 0 3 [0, 1, 2] [(.bl true)] (dVar 0) (dCons (dVar 1) dNil) dNil) (s := [some (.ref t), some v, some (.str (Str.ofString "key " ++ x))]) R f1 (by simp [nx, methK_of T.ob, e1])
  have r2 := err_key (d := dMeth 0 f_Table_to_end 1 1 3 [0, 1, 2] [] (dVar 0) (dCons (dVar 1) dNil) (dCons (dC (.bl false)) dNil)) (s := [some (.ref t), some v, some (.str (Str.ofString "key " ++ x))]) (R.fr f1) f2 (by simp [nx, methK_of (T.fr0 f1).ob, e2])
  have a1 := R.add "key " (by decide)
  have s1 := R.same "key "
  have q0 := R.re h Fr.refl
  have n3 : ∀ g, eqAV (.str (Str.ofString "key " ++ x)) (.str (Str.ofString "key " ++ x)) g = some (.bl true, g) := fun g => eq_st (ok_appS (ok_ofS _) R.ok) (ok_appS (ok_ofS _) R.ok) (by simp)
  refine ⟨g2, ?_, f1.trans f2⟩
  simp [f__law_ends_right, dFun, dStart, p__law_ends_right, nx, q0, a1, n3, r1, r2, s1]
end
/-! pairs that are none -/
structure Pe (h : Hep) (x : AV) (b : Bool) : Prop where
  nx : x.nx = true
  ok : ∀ (a : Option AV) g, Fr [] h g → ∃ g', e_are_pairs_1 [a, some x] g = .ok (.bl b) g' ∧ Fr [] g g'
theorem Pe.fr {h h' : Hep} {x : AV} {b : Bool} (p : Pe h x b) (f : Fr [] h h') : Pe h' x b := ⟨p.nx, fun a g fg => p.ok a g (f.trans fg)⟩
theorem pe_np {h : Hep} {v : AV} (nx : v.nx = true) (n : NP h v) : Pe h v false := by
  refine ⟨nx, fun a g f => ⟨g, ?_, Fr.refl⟩⟩
  rcases n with k | ⟨xs, rfl, h2, hl⟩
  · have q := k g f
    simp [e_are_pairs_1, nx, q]
  · have q : isiL ct0 [.tup xs, .ty "tuple"] g = some (.bl true, g) := rfl
    have l : lenL [.tup xs] g = some (.int xs.length, g) := rfl
    have e : eqAV (.int xs.length) (.int 2) g = some (.bl false, g) := by
      rw [eq_ii]
      have : ¬ (xs.length : Int) = 2 := by omega
      simp [this]
    simp [e_are_pairs_1, q, l, e]
theorem pe_pair {k v : Iv} (hk : k.okB = true) (hv : v.okB = true) (h : Hep) : Pe h (.tup [k.av, v.av]) true := ⟨rfl, fun a g _ => pair_ok k v hk hv a g⟩
theorem pe_fst {h : Hep} {v w : AV} (O : Odd h v) : Pe h (.tup [v, w]) false := by
  refine ⟨rfl, fun a g f => ?_⟩
  obtain ⟨g', e, f'⟩ := O.2 g f
  have nx := O.1
  have i0 : idxAV (.tup [v, w]) (.int 0) g = some (v, g) := rfl
  have l1 : lenL [.tup [v, w]] g = some (.int 2, g) := rfl
  have q1 : eqAV (.int 2) (.int 2) g = some (.bl true, g) := rfl
  exact ⟨g', by simp [e_are_pairs_1, isi_tup, l1, q1, i0, e, nx], f'⟩
theorem pe_snd {h : Hep} {k : Iv} {v : AV} (hk : k.okB = true) (O : Odd h v) : Pe h (.tup [k.av, v]) false := by
  refine ⟨rfl, fun a g f => ?_⟩
  obtain ⟨g1, e1, f1⟩ := item_ok k hk g
  obtain ⟨g2, e2, f2⟩ := O.2 g1 (f.trans f1)
  have i0 : idxAV (.tup [k.av, v]) (.int 0) g = some (k.av, g) := rfl
  have i1 : idxAV (.tup [k.av, v]) (.int 1) g1 = some (v, g1) := rfl
  have l1 : lenL [.tup [k.av, v]] g = some (.int 2, g) := rfl
  have q1 : eqAV (.int 2) (.int 2) g = some (.bl true, g) := rfl
  exact ⟨g2, by simp [e_are_pairs_1, isi_tup, l1, q1, i0, i1, e1, e2], f1.trans f2⟩
inductive PeL (h : Hep) : List AV → List Bool → Prop
  | nil : PeL h [] []
  | cons {x : AV} {b : Bool} {xs : List AV} {bs : List Bool} : Pe h x b → PeL h xs bs → PeL h (x :: xs) (b :: bs)
theorem PeL.at {h : Hep} : ∀ {xs : List AV} {bs : List Bool}, PeL h xs bs → ∀ (i : Nat) (x : AV), xs[i]? = some x → ∃ b, bs[i]? = some b ∧ Pe h x b
  | _, _, .nil, i, x, e => by simp at e
  | _, _, .cons p q, i, x, e => by
    cases i with
    | zero =>
      simp at e
      subst e
      exact ⟨_, rfl, p⟩
    | succ i => exact q.at i x (by simpa using e)
theorem PeL.len {h : Hep} : ∀ {xs : List AV} {bs : List Bool}, PeL h xs bs → bs.length = xs.length
  | _, _, .nil => rfl
  | _, _, .cons _ q => by simp [q.len]
theorem PeL.fr {h h' : Hep} (f : Fr [] h h') : ∀ {xs : List AV} {bs : List Bool}, PeL h xs bs → PeL h' xs bs
  | _, _, .nil => .nil
  | _, _, .cons p q => .cons (p.fr f) (PeL.fr f q)
theorem all_ok {h : Hep} {a : AV} {src : Src} {xs : List AV} {bs : List Bool} (P : PeL h xs bs) (hl : xs.length ≤ 1000) (es : dSrc (dVar 0) [some a, none] h = .ok src h) (ln : src.len h = xs.length) (nx : ∀ i g, Fr [] h g → src.next i g = some xs[i]?) :
    ∃ g, dCB allL (dCons (dLc (dSrc (dVar 0)) (dgN 1) dYes e_are_pairs_1 [1]) dNil) [some a, none] h = .ok (.bl (bs.all id)) g ∧ Fr [] h g := by
  obtain ⟨acc, g, e1, fr, at_, _⟩ := lc_if (f := dSrc (dVar 0)) (src := src) (g := dgN 1) (tt := dYes) (te := e_are_pairs_1) (vs := [1]) (s := [some a, none]) (h := h) (h1 := h) (xs := xs)
    (fun i acc g => Fr [] h g ∧ acc = (bs.take i).map .bl) es ln (by omega) (fun i acc g hi => nx i g hi.1) ⟨Fr.app, rfl⟩
    (fun i acc g x hx ⟨fr, ea⟩ hD => by
      obtain ⟨b, eb, p⟩ := P.at i x hx
      obtain ⟨g2, e2, f2⟩ := p.ok (some a) g fr
      refine ⟨_, rfl, .inr ⟨g, _, g2, rfl, e2, f2.at hD (by simp), (fr.trans f2).set_new (Nat.le_refl _), ?_⟩⟩
      rw [ea, List.take_add_one, eb]
      simp)
  obtain ⟨fr, ea⟩ := fr
  rw [← P.len, List.take_length] at ea
  subst ea
  have al := all_bls at_
  exact ⟨g, by simp [e1, al], fr⟩
/-- a thing that pairs_of refuses -/
structure BP (h : Hep) (v : AV) : Prop where
  nx : v.nx = true
  ex : ∀ g, Fr [] h g → ∃ g', f_pairs_of [v] g = .exc 2 [] g' ∧ Fr [] g g'
theorem BP.fr {h h' : Hep} {v : AV} (b : BP h v) (f : Fr [] h h') : BP h' v := ⟨b.nx, fun g fg => b.ex g (f.trans fg)⟩
theorem bp_of {h : Hep} {v : AV} (nx : v.nx = true) (i1 : ∀ g, Fr [] h g → isiL ct0 [v, .cls 0] g = some (.bl false, g)) (i2 : ∀ g, Fr [] h g → isiL ct0 [v, .ty "dict"] g = some (.bl false, g)) (ap : ∀ g, Fr [] h g → ∃ g', f_are_pairs [v] g = .ok (.bl false) g' ∧ Fr [] g g') : BP h v :=
  ⟨nx, fun g f => by
    obtain ⟨g', e, f'⟩ := ap g f
    have q1 := i1 g f
    have q2 := i2 g f
    exact ⟨g', by simp [f_pairs_of, dFun, dStart, p_pairs_of, nx, q1, q2, e], f'⟩⟩
theorem bp_flat {h : Hep} {v : AV} (f : flatA v = true) : BP h v := by
  have nx : v.nx = true := by cases v <;> first | rfl | cases f
  refine bp_of nx (fun g _ => by cases v <;> first | rfl | cases f) (fun g _ => by cases v <;> first | rfl | cases f) fun g _ => ⟨g, ?_, Fr.refl⟩
  have z : dIsLT ct0 "list" "tuple" (dVar 0) [some v, none] g = .ok (.bl false) g := by cases v <;> first | rfl | cases f
  simp [f_are_pairs, dFun, dStart, p_are_pairs, z]
theorem bp_tup {h : Hep} {xs : List AV} {bs : List Bool} (P : PeL h xs bs) (hl : xs.length ≤ 1000) (hb : bs.all id = false) : BP h (.tup xs) := by
  refine bp_of rfl (fun g _ => rfl) (fun g _ => rfl) fun g f => ?_
  obtain ⟨g', e, f'⟩ := all_ok (a := .tup xs) (src := .fix xs) (P.fr f) hl (by simp [dSrc]) rfl (fun i g _ => rfl)
  rw [hb] at e
  have z : dIsLT ct0 "list" "tuple" (dVar 0) [some (.tup xs), none] g = .ok (.bl true) g := rfl
  exact ⟨g', by simp -implicitDefEqProofs [f_are_pairs, dFun, dStart, p_are_pairs, z, e, -xCB], f'⟩
theorem bp_lst {h : Hep} {n : Nat} {xs : List AV} {bs : List Bool} (en : h[n]? = some (.lst xs)) (P : PeL h xs bs) (hl : xs.length ≤ 1000) (hb : bs.all id = false) : BP h (.ref n) := by
  refine bp_of rfl (fun g f => isi_lst (f.at en (by simp)) rfl) (fun g f => by simp [isiL, isiB, twOf, f.at en (by simp), twO]; rfl) fun g f => ?_
  have eg := f.at en (by simp)
  obtain ⟨g', e, f'⟩ := all_ok (a := .ref n) (src := .at n) (P.fr f) hl (src_ref (n := n) rfl eg) (len_at eg) (fun i g fg => next_at (fg.at eg (by simp)))
  rw [hb] at e
  have z : dIsLT ct0 "list" "tuple" (dVar 0) [some (.ref n), none] g = .ok (.bl true) g := by
    simp [dIsLT, twOf, eg, twO, isTK, TW.sub]
  exact ⟨g', by simp -implicitDefEqProofs [f_are_pairs, dFun, dStart, p_are_pairs, z, e, -xCB], f'⟩
theorem upd_bad {h : Hep} {t p q : Nat} {kv : List (L2.Key × AV)} {pl : List (L2.Key × Int)} {fp np : Int} (T : Tb h t p q kv pl fp np) {v : AV} (B : BP h v) : ∃ g, f_Table_update [.ref t, v] h = .exc 2 [] g ∧ Fr [] h g := by
  obtain ⟨g, e, f⟩ := B.ex h Fr.refl
  have nx := B.nx
  exact ⟨g, by simp [f_Table_update, dFun, dStart, p_Table_update, dFor, dSrc, nx, e], f⟩
theorem make_bad {h : Hep} {v : AV} (B : BP h v) : ∃ g, f_Table_xinit [.ref h.length, v] (h ++ [.ins 0 []]) = .exc 2 [] g ∧ Fr [] h g := by
  have f0 : Fr [] h (h ++ [AO.ins 0 []]) := Fr.app
  obtain ⟨g, e, f⟩ := B.ex _ f0
  have nx := B.nx
  have ob : (h ++ [AO.ins 0 []])[h.length]? = some (.ins 0 []) := at_last
  have ip : f_Table_is_plain [.ref h.length] (h ++ [AO.ins 0 []]) = .ok (.bl true) (h ++ [AO.ins 0 []]) := rfl
  exact ⟨g, by simp [f_Table_xinit, dFun, dStart, p_Table_xinit, nx, methK_of ob, ip, e], f0.trans f⟩
theorem walk_list {L : List AV} {n : Nat} {fl : DE} {g0 : DG} {body : DS} {s : Sl} {h h1 : Hep} (J : Sl → Prop) (e : fl s h = .ok (.ref n) h1) (a : h1[n]? = some (.lst L)) (j0 : J s)
    (step : ∀ v ∈ L, ∀ s g, Fr [] h1 g → J s → ∃ s1 s2 g2, g0 v s = some s1 ∧ body s1 g = .nx s2 g2 ∧ Fr [] g g2 ∧ J s2) : ∃ s' h', dFor (dSrc fl) g0 body s h = .nx s' h' ∧ Fr [] h1 h' ∧ J s' := by
  rcases for_ret (f := dSrc fl) (g := g0) (body := body) (s := s) (h := h) (h1 := h1) (xs := L) (fun i s g => Fr [] h1 g ∧ J s) (fun _ _ _ => False) (src_ref e a) (len_at a) (fun i s g' hi => next_at (hi.1.at a (by simp))) ⟨Fr.refl, j0⟩
    (fun i s g x hx ⟨fr, hj⟩ => by
      obtain ⟨s1, s2, g2, q1, q2, q3, q4⟩ := step x (List.mem_of_getElem? hx) s g fr hj
      exact ⟨s1, q1, .inl ⟨s2, g2, .inl q2, fr.trans q3, q4⟩⟩) with ⟨s', h', e', fr, hj⟩ | ⟨_, _, _, _, z, _⟩
  · exact ⟨s', h', e', fr, hj⟩
  · exact z.elim
section
variable {h : Hep} {t p q : Nat} {kv : List (L2.Key × AV)} {pl : List (L2.Key × Int)} {fp np : Int}
theorem pr1_ok (T : Tb h t p q kv pl fp np) {w : AV} (B : BP h w) (u1 u2 : Option AV) : ∃ g, b__law_pairs_right_1 [some (.ref t), u1, u2, some w] h = .nx [some (.ref t), u1, u2, some w] g ∧ Fr [] h g := by
  have nx := B.nx
  obtain ⟨g1, e1, f1⟩ := upd_bad T B
  have r1 := err_pairs (d := dMeth 0 f_Table_update 1 0 2 [0, 1] [] (dVar 0) (dCons (dVar 3) dNil) dNil) (s := [some (.ref t), u1, u2, some w]) (h := h) (g := g1) (by simp [nx, methK_of T.ob, e1])
  obtain ⟨g2, e2, f2⟩ := make_bad (B.fr f1)
  have r2 := err_pairs (d := dMake 0 f_Table_xinit 1 0 2 [0, 1] [(.tup [])] (dCons (dVar 3) dNil) dNil) (s := [some (.ref t), u1, u2, some w]) (h := g1) (g := g2) (by simp [nx, e2])
  have n1 : ∀ g, neAV (.str "pairs") (.str "pairs") g = some (.bl false, g) := fun g => by kernel_rfl
  refine ⟨g2, ?_, f1.trans f2⟩
  simp [b__law_pairs_right_1, r1, r2, n1]
theorem np_tup (xs : List AV) (h : Hep) (h2 : xs.length ≠ 2) (hl : xs.length ≤ 1000) : NP h (.tup xs) := .inr ⟨xs, rfl, h2, hl⟩
theorem np_flat {v : AV} (h : Hep) (f : flatA v = true) : NP h v := .inl fun g _ => by cases v <;> first | rfl | cases f
theorem pairs_bad_ok (T : Tb h t p q kv pl fp np) {v : AV} (O : OV h v) : ∃ g, f__law_pairs_right [.ref t, v] h = .ok (.bl true) g ∧ Fr [] h g := by
  have nx := O.nx
  have oA : Iv.okB (.s "a") = true := by decide +kernel
  have oB : Iv.okB (.s "b") = true := by decide +kernel
  have o1 : Iv.okB (.i 1) = true := by decide +kernel
  have o2 : Iv.okB (.i 2) = true := by decide +kernel
  obtain ⟨n1, g1, e1, f1, _, a1⟩ := mk_new [v] h (by simp)
  obtain ⟨n2, g2, e2, f2, _, a2⟩ := mk_new [.str "a", .int 1] g1 (by simp)
  obtain ⟨n3, g3, e3, f3, _, a3⟩ := mk_new [.tup [.str "a", .int 1, .int 2]] g2 (by simp)
  obtain ⟨n4, g4, e4, f4, _, a4⟩ := mk_new [.tup [.str "a"]] g3 (by simp)
  obtain ⟨n5, g5, e5, f5, _, a5⟩ := mk_new [.str "a", .int 1] g4 (by simp)
  obtain ⟨n6, g6, e6, f6, _, a6⟩ := mk_new [.ref n5] g5 (by simp)
  obtain ⟨n7, g7, e7, f7, _, a7⟩ := mk_new [.tup [.str "a", v]] g6 (by simp)
  obtain ⟨n8, g8, e8, f8, _, a8⟩ := mk_new [.non, .int 5, .bl true, .str "ab", .str "", .ref n1, .tup [.str "a", .int 1], .ref n2, .ref n3, .ref n4, .ref n6, .ref n7] g7 (by simp)
  obtain ⟨m1, k1, d1, c1, _, b1⟩ := mk_new [.tup [v, .str "a"]] g8 (by simp)
  obtain ⟨m2, k2, d2, c2, _, b2⟩ := mk_new [.tup [.str "a", .int 1], .tup [v, v]] k1 (by simp)
  obtain ⟨m3, k3, d3, c3, _, b3⟩ := mk_new [.tup [.str "b", .int 2], .tup [.str "c"]] k2 (by simp)
  obtain ⟨m4, k4, d4, c4, _, b4⟩ := mk_new [.ref m1, .ref m2, .tup [.tup [.str "b", .int 2], v], .ref m3] k3 (by simp)
  have F84 := c1.trans (c2.trans (c3.trans c4))
  obtain ⟨m5, k5, d5, c5, _, b5⟩ := add_ll (F84.at a8 (by simp)) b4 (by simp)
  have F85 := F84.trans c5
  have F7 := f8.trans F85
  have F6 := f7.trans F7
  have F5 := f6.trans F6
  have F4 := f5.trans F5
  have F3 := f4.trans F4
  have F2 := f3.trans F3
  have F1 := f2.trans F2
  have F0 := f1.trans F1
  have G1 := c2.trans (c3.trans (c4.trans c5))
  have G2 := c3.trans (c4.trans c5)
  have G3 := c4.trans c5
  have T5 := T.fr0 F0
  have O5 := O.fr F0
  have pv : Pe k5 v false := pe_np nx O5.np
  have bad : ∀ w ∈ [AV.non, .int 5, .bl true, .str "ab", .str "", .ref n1, .tup [.str "a", .int 1], .ref n2, .ref n3, .ref n4, .ref n6, .ref n7] ++ [.ref m1, .ref m2, .tup [.tup [.str "b", .int 2], v], .ref m3], BP k5 w := by
    intro w hw
    simp only [List.cons_append, List.nil_append, List.mem_cons, List.not_mem_nil, or_false] at hw
    rcases hw with rfl | rfl | rfl | rfl | rfl | rfl | rfl | rfl | rfl | rfl | rfl | rfl | rfl | rfl | rfl | rfl
    · exact bp_flat rfl
    · exact bp_flat rfl
    · exact bp_flat rfl
    · exact bp_flat rfl
    · exact bp_flat rfl
    · exact bp_lst (F1.at a1 (by simp)) (.cons pv .nil) (by simp) rfl
    · exact bp_tup (.cons (pe_np rfl (np_flat _ rfl)) (.cons (pe_np rfl (np_flat _ rfl)) .nil)) (by simp) rfl
    · exact bp_lst (F2.at a2 (by simp)) (.cons (pe_np rfl (np_flat _ rfl)) (.cons (pe_np rfl (np_flat _ rfl)) .nil)) (by simp) rfl
    · exact bp_lst (F3.at a3 (by simp)) (.cons (pe_np rfl (np_tup _ _ (by simp) (by simp))) .nil) (by simp) rfl
    · exact bp_lst (F4.at a4 (by simp)) (.cons (pe_np rfl (np_tup _ _ (by simp) (by simp))) .nil) (by simp) rfl
    · exact bp_lst (F6.at a6 (by simp)) (.cons (pe_np rfl (.inl (isi_lt (F5.at a5 (by simp))))) .nil) (by simp) rfl
    · exact bp_lst (F7.at a7 (by simp)) (.cons (pe_snd (k := .s "a") oA O5.od) .nil) (by simp) rfl
    · exact bp_lst (G1.at b1 (by simp)) (.cons (pe_fst O5.od) .nil) (by simp) rfl
    · exact bp_lst (G2.at b2 (by simp)) (.cons (pe_pair (k := .s "a") (v := .i 1) oA o1 _) (.cons (pe_fst O5.od) .nil)) (by simp) rfl
    · exact bp_tup (.cons (pe_pair (k := .s "b") (v := .i 2) oB o2 _) (.cons pv .nil)) (by simp) rfl
    · exact bp_lst (G3.at b3 (by simp)) (.cons (pe_pair (k := .s "b") (v := .i 2) oB o2 _) (.cons (pe_np rfl (np_tup _ _ (by simp) (by simp))) .nil)) (by simp) rfl
  let L2' : DE := (dOp addAV (dVar 2) (dLst (dCons (dLst (dCons (dTup (dCons (dVar 1) (dCons (dC (.str "a")) dNil))) dNil)) (dCons (dLst (dCons (dTup (dCons (dC (.str "a")) (dCons (dC (.int 1)) dNil))) (dCons (dTup (dCons (dVar 1) (dCons (dVar 1) dNil))) dNil))) (dCons (dTup (dCons (dTup (dCons (dC (.str "b")) (dCons (dC (.int 2)) dNil))) (dCons (dVar 1) dNil))) (dCons (dLst (dCons (dTup (dCons (dC (.str "b")) (dCons (dC (.int 2)) dNil))) (dCons (dTup (dCons (dC (.str "c")) dNil)) dNil))) dNil))))))
  have eL : L2' [some (.ref t), some v, some (.ref n8), none] g8 = .ok (.ref m5) k5 := by
    simp -implicitDefEqProofs [L2', nx, mkT, d1, d2, d3, d4, d5]
  obtain ⟨s6, k6, e6', f6', u3, rfl⟩ := walk_list (g0 := dgN 3) (body := b__law_pairs_right_1) (fun s => ∃ u, s = [some (.ref t), some v, some (.ref n8), u]) eL b5 ⟨none, rfl⟩ fun w hw s g fr ⟨u, es⟩ => by
    subst es
    obtain ⟨g', e', f'⟩ := pr1_ok (T5.fr0 fr) ((bad w hw).fr fr) (some v) (some (.ref n8))
    exact ⟨_, _, g', rfl, e', f', _, rfl⟩
  refine ⟨k6, ?_, F0.trans f6'⟩
  simp only [L2'] at e6'
  simp -implicitDefEqProofs [f__law_pairs_right, dFun, dStart, p__law_pairs_right, nx, mkT, e1, e2, e3, e4, e5, e6, e7, e8, e6']
end
theorem put_keys {l : List (Iv × Iv)} {k v : Iv} {z : Iv × Iv} (h : z ∈ putI l k v) : z.1 = k ∨ z.1 ∈ l.map (·.1) := by
  unfold putI at h
  split at h
  · obtain ⟨w, hw, e⟩ := List.mem_map.mp h
    right
    refine List.mem_map.mpr ⟨w, hw, ?_⟩
    split at e
    · rw [← e]
    · rw [e]
  · rcases List.mem_append.mp h with q | q
    · exact .inr (List.mem_map.mpr ⟨z, q, rfl⟩)
    · rw [List.mem_singleton.mp q]
      exact .inl rfl
theorem puts_keys : ∀ (r acc : List (Iv × Iv)) (z : Iv × Iv), z ∈ r.foldl (fun acc z => putI acc z.1 z.2) acc → z.1 ∈ acc.map (·.1) ∨ z.1 ∈ r.map (·.1)
  | [], acc, z, h => .inl (List.mem_map.mpr ⟨z, h, rfl⟩)
  | w :: r, acc, z, h => by
    rcases puts_keys r _ z h with q | q
    · obtain ⟨u, hu, e⟩ := List.mem_map.mp q
      rcases put_keys hu with e2 | e2
      · right
        rw [← e, e2]
        simp
      · left
        rw [← e]
        exact e2
    · right
      rw [List.map_cons]
      exact List.mem_cons_of_mem _ q
theorem mdl_keys {l : List (Iv × Iv)} {z : Iv × Iv} (h : z ∈ mdl l) : z.1 ∈ l.map (·.1) := (puts_keys l [] z h).resolve_left (by simp)
theorem okP_fold : ∀ (r acc : List (Iv × Iv)), okP acc → okP r → okP (r.foldl (fun acc z => putI acc z.1 z.2) acc)
  | [], _, h, _ => h
  | z :: r, acc, h, o => okP_fold r _ (okP_put h (o z (by simp)).1 (o z (by simp)).2) fun w hw => o w (by simp [hw])
theorem okP_mdl {l : List (Iv × Iv)} (o : okP l) : okP (mdl l) := okP_fold l [] (fun z hz => by cases hz) o
theorem no_key {l : List (Iv × Iv)} (o : ok2P l) {k : Iv} (hk : k.in2 = false) : dget (kvI (mdl l)) k.ky = none := by
  refine dget_no fun m => ?_
  obtain ⟨z, hz, e⟩ := List.mem_map.mp m
  obtain ⟨w, hw, rfl⟩ := List.mem_map.mp hz
  have e2 : w.1 = k := ky_inj e
  obtain ⟨u, hu, e3⟩ := List.mem_map.mp (mdl_keys hw)
  have := (o u hu).1
  rw [e3, e2, hk] at this
  cases this
section
variable {h : Hep} {t p q : Nat} {kv : List (L2.Key × AV)} {pl : List (L2.Key × Int)} {fp np : Int} {s k : Nat} {y : Int} {m : Nat} {L : List (Iv × Iv)}
/-- the pairs are those that were kept -/
theorem kept_ok (T : Tb h t p q kv pl fp np) (e : h[m]? = some (.lst (L.map pav))) (o : okP L) (ep : prs kv pl = L.map pav) : ∃ n g, f_Table_pairs [.ref t] h = .ok (.ref n) g ∧ Fr [] h g ∧ neAV (.ref n) (.ref m) g = some (.bl false, g) := by
  obtain ⟨n, g, e1, f1, _, a1⟩ := pairs_ok T
  rw [ep] at a1
  have q := neRow a1 (f1.at e (by simp)) o o
  exact ⟨n, g, e1, f1, by simpa using q⟩
theorem turn_ok (S : Sr h s y k) (hk : k < 50000) (T : Tb h t p q kv pl fp np) (ts : t ≠ s) (ps : p ≠ s) (qs : q ≠ s) (ms : m ≠ s) (e : h[m]? = some (.lst (L.map pav))) (o : okP L) (ep : prs kv pl = L.map pav) (u0 u1 u5 u6 u7 u8 : Option AV) :
    ∃ c6 g, b_law_1 [u0, u1, some (.ref s), some (.ref t), some (.ref m), u5, u6, u7, u8] h = .nx [u0, u1, some (.ref s), some (.ref t), some (.ref m), u5, c6, u7, u8] g ∧ Fr [s] h g ∧ Sr g s y (k + 1) := by
  obtain ⟨v, g1, e1, f1, O1, S1⟩ := lodd52 S (by omega)
  have T1 : Tb g1 t p q kv pl fp np := T.fr f1 (by simpa using ts) (by simpa using ps) (by simpa using qs)
  have m1 := f1.at e (by simpa using ms)
  have nx := O1.nx
  obtain ⟨g2, e2, f2⟩ := items_ok T1 O1
  obtain ⟨g3, e3, f3⟩ := keys_ok (T1.fr0 f2) ((ab_odd T1 O1).fr f2)
  have f23 := f2.trans f3
  obtain ⟨g4, e4, f4⟩ := ends_ok (T1.fr0 f23) ((ab_odd T1 O1).fr f23)
  have f24 := f23.trans f4
  obtain ⟨g5, e5, f5⟩ := pairs_bad_ok (T1.fr0 f24) (O1.fr f24)
  have f25 := f24.trans f5
  obtain ⟨n, g6, e6, f6, q6⟩ := kept_ok (T1.fr0 f25) (f25.at m1 (by simp)) o ep
  have f26 := f25.trans f6
  refine ⟨some v, g6, ?_, f1.trans f26.nil, S1.fr f26 (Nat.le_refl _)⟩
  simp -implicitDefEqProofs [b_law_1, e1, nx, e2, e3, e4, e5, methK_of (T1.fr0 f25).ob, e6, q6]
theorem absent_ok (T : Tb h t p q kv pl fp np) {v : AV} (A : Ab h t v) (u0 u1 u2 u4 u5 u6 u8 : Option AV) :
    ∃ g, b_law_2 [u0, u1, u2, some (.ref t), u4, u5, u6, some v, u8] h = .nx [u0, u1, u2, some (.ref t), u4, u5, u6, some v, u8] g ∧ Fr [] h g := by
  have nx := A.nx
  obtain ⟨g3, e3, f3⟩ := keys_ok T A
  obtain ⟨g4, e4, f4⟩ := ends_ok (T.fr0 f3) (A.fr f3)
  exact ⟨g4, by simp -implicitDefEqProofs [b_law_2, nx, e3, e4], f3.trans f4⟩
theorem pop_none (T : Tb h t p q [] [] fp np) (i : Int) : f_Table_pop_at [.ref t, .int i] h = .exc 4 [] (h ++ [.dK []]) := by
  have hd := T.hd
  have z : eqDA (.ref p) (.ref h.length) (h ++ [.dK []]) = some (.bl true, h ++ [.dK []]) := by
    have d1 : dicAt (h ++ [AO.dK []]) (.ref p) = some (p, []) := by simp only [dicAt, app_at hd]
    have d2 : dicAt (h ++ [AO.dK []]) (.ref h.length) = some (h.length, []) := by simp only [dicAt, at_last]
    simp only [eqDA, eqDB, d1, d2]
    rfl
  simp [f_Table_pop_at, dFun, dStart, p_Table_pop_at, ins_of T.ob, dD0, z]
end
theorem place_ok52 (ns : List Int) (pl : Nat) (hp : pl < 3) (h : Hep) (u2 u3 u4 u5 u6 u7 u8 : Option AV) :
    ∃ c2 c3 c4 c5 c6 c7 c8 h', b_law_3 [some (.rol (ns.map .int)), some (.int pl), u2, u3, u4, u5, u6, u7, u8] h = .nx [some (.rol (ns.map .int)), some (.int pl), c2, c3, c4, c5, c6, c7, c8] h' := by
  obtain ⟨s, g1, r1, f1, y, S1⟩ := source_ok ns pl (by omega) h
  obtain ⟨l, n, g2, e2, a2, ll, o2, f2, ln, S2⟩ := lpairs2 S1 (by omega) (m := 5) (by omega)
  have e2 : f__law_pairs [.ref s, .int 5] g1 = .ok (.ref n) g2 := e2
  have ol := ok2_P o2
  have ls := S2.lt
  obtain ⟨m', g3, e3, f3, _, a3⟩ := pairs_of_lst (h := g2 ++ [.ins 0 []]) (app_at a2) ol (by omega)
  obtain ⟨g4, p, q, e4, f4, lp, lq, T4⟩ := make_ok (h := g2) (ps := kvI l) rfl e3 f3 (by rw [prD_kvI]; exact a3) (kvI_nx l) (by simp [kvI]; omega)
  rw [← mdl_kv] at T4
  have oL := okP_mdl ol
  obtain ⟨m, g5, e5, f5, hm, a5⟩ := pairs_ok T4
  have ep : prs (kvI (mdl l)) (plN 0 (kvI (mdl l))) = (mdl l).map pav := by rw [prs_new T4.n1, prD_kvI]
  rw [ep] at a5
  have S5 := (S2.fr f4 (Nat.le_refl _)).fr f5 (Nat.le_refl _)
  have T5 := T4.fr0 f5
  have l4 := f4.1
  have no : ∀ k : Iv, k.okB = true → k.in2 = false → ∀ {x : Str} {g : Hep}, Tb g g2.length p q (kvI (mdl l)) (plN 0 (kvI (mdl l))) 0 ((kvI (mdl l)).length : Nat) → Rp g k.av x → Ab g g2.length k.av := fun k ok hk x g T r => ab_key T ok (no_key o2 hk) r
  generalize hkv : kvI (mdl l) = kv at *
  generalize hpl : plN 0 kv = pl' at *
  generalize hL : mdl l = L at *
  generalize ht : g2.length = t at *
  have ef : dRg1 (dCons (dC (.int 8)) dNil) [some (.rol (ns.map .int)), some (.int pl), some (.ref s), some (.ref t), some (.ref m), u5, u6, u7, u8] g5 = .ok (.fix (rngL 0 8)) g5 := rg1_ok (j := 8) rfl rfl (by omega)
  obtain ⟨s', g6, e6, ⟨c5, c6, es⟩, S6, T6, a6⟩ := for_fix (body := b_law_1) (g := dgN 5) (fun i s' g => (∃ c5 c6, s' = [some (.rol (ns.map .int)), some (.int pl), some (.ref s), some (.ref t), some (.ref m), c5, c6, u7, u8]) ∧ Sr g s y (0 + 1 + 4 * 5 + 1 * i) ∧ Tb g t p q kv pl' 0 (kv.length : Nat) ∧ g[m]? = some (.lst (L.map pav))) ef ⟨⟨u5, u6, rfl⟩, S5, T5, a5⟩
    (fun i s' g x hx ⟨⟨c5, c6, es⟩, S, T, a⟩ => by
      have hi : i < 8 := by
        have := (List.getElem?_eq_some_iff.mp hx).1
        simpa using this
      subst es
      obtain ⟨d6, g', r2, f', S'⟩ := turn_ok (m := m) (L := L) S (by omega) T (by omega) (by omega) (by omega) (by omega) a oL ep (some (.rol (ns.map .int))) (some (.int pl)) (some x) c6 u7 u8
      exact ⟨_, _, g', rfl, .inl r2, ⟨_, _, rfl⟩, S'.fr Fr.refl (by omega), T.fr f' (by simp; omega) (by simp; omega) (by simp; omega), f'.at a (by simp; omega)⟩)
  subst es
  obtain ⟨m7, g7, e7, f7, _, a7⟩ := mk_new [.str "q", .int 123, .int (-7)] g6 (by simp)
  have T7 := T6.fr0 f7
  let L1 : DE := dLst (dCons (dC (.str "q")) (dCons (dC (.int 123)) (dCons (dUn negAV (dC (.int 7))) dNil)))
  have eL : L1 [some (.rol (ns.map .int)), some (.int pl), some (.ref s), some (.ref t), some (.ref m), c5, c6, u7, u8] g6 = .ok (.ref m7) g7 := by simp [L1, e7]
  obtain ⟨s8, g8, e8, f8, c7, rfl⟩ := walk_list (g0 := dgN 7) (body := b_law_2) (fun z => ∃ c7, z = [some (.rol (ns.map .int)), some (.int pl), some (.ref s), some (.ref t), some (.ref m), c5, c6, c7, u8]) eL a7 ⟨u7, rfl⟩ fun v hv z g fr ⟨c7, es⟩ => by
    subst es
    have Tg := T7.fr0 fr
    have go : ∀ k : Iv, v = k.av → k.okB = true → k.in2 = false → shB k.pd = true → (∀ g, toD DD g k.av = some k.pd) → ∃ s1 s2 g2, dgN 7 v [some (.rol (ns.map .int)), some (.int pl), some (.ref s), some (.ref t), some (.ref m), c5, c6, c7, u8] = some s1 ∧ b_law_2 s1 g = .nx s2 g2 ∧ Fr [] g g2 ∧ ∃ c7, s2 = [some (.rol (ns.map .int)), some (.int pl), some (.ref s), some (.ref t), some (.ref m), c5, c6, c7, u8] := fun k ev ok hk sh td => by
      subst ev
      obtain ⟨g', e', f'⟩ := absent_ok Tg (no k ok hk Tg (rp_pure g k.nx td sh)) (some (.rol (ns.map .int))) (some (.int pl)) (some (.ref s)) (some (.ref m)) c5 c6 u8
      exact ⟨_, _, g', rfl, e', f', _, rfl⟩
    simp only [List.mem_cons, List.not_mem_nil, or_false] at hv
    rcases hv with e | e | e
    · exact go (.s "q") e (by decide +kernel) (by decide +kernel) (by decide +kernel) fun _ => rfl
    · exact go (.i 123) e (by decide +kernel) (by decide +kernel) (by decide +kernel) fun _ => rfl
    · exact go (.i (-7)) e (by decide +kernel) (by decide +kernel) (by decide +kernel) fun _ => rfl
  have f68 := f7.trans f8
  obtain ⟨g9, p9, q9, e9, f9, _, _, T9⟩ := make_nil g8
  have x9 := f68.trans f9
  have e10 := pop_none T9 (-1)
  have f10 : Fr [] g9 (g9 ++ [.dK []]) := Fr.app
  have r10 := err_empty (d := dMeth 0 f_Table_pop_last 0 0 1 [0] [] (dVar 8) dNil dNil) (s := [some (.rol (ns.map .int)), some (.int pl), some (.ref s), some (.ref t), some (.ref m), c5, c6, c7, some (.ref g8.length)]) (h := g9) (g := g9 ++ [.dK []]) (by simp [methK_of T9.ob, f_Table_pop_last, dFun, dStart, p_Table_pop_last, e10])
  have T10 := T9.fr0 f10
  generalize g9 ++ [AO.dK []] = g10 at *
  obtain ⟨n11, g11, e11, f11, _, a11⟩ := pairs_ok T10
  obtain ⟨n12, g12, e12, f12, _, a12⟩ := mk_new [] g11 (by simp)
  have z11 : prs [] [] = [] := by simp [prs, ord, srt]
  rw [z11] at a11
  have b11 : g12[n11]? = some (.lst (([] : List (Iv × Iv)).map pav)) := f12.at a11 (by simp)
  have q12 := neRow b11 (k := []) a12 (fun z hz => by cases hz) (fun z hz => by cases hz)
  have q12 : neAV (.ref n11) (.ref n12) g12 = some (.bl false, g12) := q12
  have f912 := f10.trans (f11.trans f12)
  have T12 := T9.fr0 f912
  have e13 := pop_none T12 0
  have f13 : Fr [] g12 (g12 ++ [.dK []]) := Fr.app
  have r13 := err_empty (d := dMeth 0 f_Table_pop_first 0 0 1 [0] [] (dVar 8) dNil dNil) (s := [some (.rol (ns.map .int)), some (.int pl), some (.ref s), some (.ref t), some (.ref m), c5, c6, c7, some (.ref g8.length)]) (h := g12) (g := g12 ++ [.dK []]) (by simp [methK_of T12.ob, f_Table_pop_first, dFun, dStart, p_Table_pop_first, e13])
  generalize g12 ++ [AO.dK []] = g13 at *
  have F := x9.trans (f912.trans f13)
  obtain ⟨n14, g14, e14, f14, q14⟩ := kept_ok (T6.fr0 F) (F.at a6 (by simp)) oL ep
  have nr : ∀ g, neAV (.str "empty") (.str "empty") g = some (.bl false, g) := fun g => by kernel_rfl
  refine ⟨some (.ref s), some (.ref t), some (.ref m), c5, c6, c7, some (.ref g8.length), g14, ?_⟩
  simp only [L1] at e8
  simp -implicitDefEqProofs [b_law_3, r1, e2, ht, e4, makK, methK_of T4.ob, e5, e6, e8, e9, r10, methK_of T10.ob, e11, e12, q12, nr, r13, methK_of (T6.fr0 F).ob, e14, q14]
theorem law_true (ns : List Int) (hn : ns.length ≤ 63) : ∃ h, f_law [.rol (ns.map .int)] [] = .ok (.bl true) h := by
  have ef : dRg1 (dCons (dCB maxL (dCons (dC (.int 2)) (dCons (dCB minL (dCons (dC (.int 3)) (dCons (dCB lenL (dCons (dVar 0) dNil)) dNil))) dNil))) dNil) [some (.rol (ns.map .int)), none, none, none, none, none, none, none, none] [] = .ok (.fix (rngL 0 (max 2 (min 3 ns.length)))) [] := rg1_ok (j := ((max 2 (min 3 ns.length) : Nat) : Int)) (by
    simp -implicitDefEqProofs [lenL, lenA, maxL, minL]
    omega) rfl (by omega)
  obtain ⟨s', h', e, c1, c2, c3, c4, c5, c6, c7, c8, es⟩ := for_fix (body := b_law_3) (g := dgN 1) (fun i s' g => ∃ c1 c2 c3 c4 c5 c6 c7 c8, s' = [some (.rol (ns.map .int)), c1, c2, c3, c4, c5, c6, c7, c8]) ef ⟨none, none, none, none, none, none, none, none, rfl⟩
    (fun i s' g x hx ⟨c1, c2, c3, c4, c5, c6, c7, c8, es⟩ => by
      have hi : i < max 2 (min 3 ns.length) := by
        have := (List.getElem?_eq_some_iff.mp hx).1
        simpa using this
      have xi : x = .int (i : Nat) := by
        unfold rngL at hx
        rw [List.getElem?_map, List.getElem?_range hi] at hx
        simpa using hx.symm
      subst xi
      obtain ⟨d2, d3, d4, d5, d6, d7, d8, g2, r2⟩ := place_ok52 ns i (by omega) g c2 c3 c4 c5 c6 c7 c8
      subst es
      exact ⟨_, _, g2, rfl, .inl r2, _, _, _, _, _, _, _, _, rfl⟩)
  subst es
  refine ⟨h', ?_⟩
  simp -implicitDefEqProofs [f_law, dFun, dStart, p_law, e]
end Q
namespace Q
open PySem PySem.Spec PyProof.Rows L2 Dn
set_option maxHeartbeats 0
abbrev FnP (W : Wd) (st : Stmt) (x q : Str) (dvs : List V) (kws : List (Str × V)) (f : Addr) (fd : FuncData) : Prop := FunD W.K x q (defArgs st) (defBody st) (defScope st) dvs kws f fd
theorem sc__law_source : FnScope ["_law_script", "_law_place", "_law_cell", "_law_far"] ["_law_script", "_law_place"] (defScope (top 19)) := ⟨rfl, rfl, rfl, by decide +kernel, rfl, by decide +kernel, by decide +kernel⟩
theorem ok__law_source {P : Program} {w : World} {mg : Str → Option Value} {base : Heap} {W : Wd} {f : Addr} {fd : FuncData} (hW : W.ct = ct0) (hN : W.fn = fn0) (F : FnP W (top 19) "_law_source" "_law_source" [] [] f fd) (b_len : mg "len" = none) (b_abs : mg "abs" = none) (b_int : mg "int" = none) : FnB P w mg base W 2 f fd ["_law_script", "_law_place"] 2 f__law_source [(2, [], [0, 1], [])] := by
  have nd : (["_law_script", "_law_place", "_law_cell", "_law_far"] : List Str).Nodup := sc__law_source.nd
  refine ⟨F.kp, fnD F sc__law_source rfl fun cdv A outer s H E hr tk => ?_, fun b hb => ?_⟩
  · exact (ssC (sSet nd (i := 2) rfl (by first | exact .inl rfl | exact .inr rfl) iD trivial) (ssC (sIf (cmT oLt (vv 1) (bD (cLen rfl) b_len bt_len (aD (vv 0) nD)) (nomark _))
  (ss1 (sSet nd (i := 2) rfl (by first | exact .inl rfl | exact .inr rfl) (ixD (xIdx rfl (ru1 hr)) (vv 0) (vv 1) fun _ _ => rfl) trivial))
  ss0) (ssC (sSet nd (i := 3) rfl (by first | exact .inl rfl | exact .inr rfl) (bD cAbs b_abs bt_abs (aD (vv 2) nD)) trivial) (ss1 (sRet (lstD (aD (opD (oMul rfl) (vv 3) (yD cInt b_int bt_int (aD (cmD oGe (vv 3) (opD oPow iD iD) (nomark _)) nD))) (aD (opD (oAdd rfl) (opD (oAdd rfl) (opD (oAdd rfl) (opD oMod (vv 2) iD) (opD (oMul rfl) (opD (oMul rfl) iD (vv 1)) (vv 1))) (opD (oMul rfl) iD (vv 1))) iD) (aD iD nD)))))))))
  · simp only [List.mem_cons, List.not_mem_nil, or_false] at hb
    rcases hb with rfl
    · exact bnN F 2 [] [0, 1] fun _ _ _ _ _ _ us ws h1 h2 => match us, h1, ws, h2 with | [_, _], _, [], _ => rfl
theorem sc_Table_is_plain : FnScope ["self"] ["self"] (defScope (clsStmt (top 17) 9)) := ⟨rfl, rfl, rfl, by decide +kernel, rfl, by decide +kernel, by decide +kernel⟩
theorem ok_Table_is_plain {P : Program} {w : World} {mg : Str → Option Value} {base : Heap} {W : Wd} {f : Addr} {fd : FuncData} (hW : W.ct = ct0) (hN : W.fn = fn0) (F : FnP W (clsStmt (top 17) 9) "is_plain" "Table.is_plain" [] [] f fd)  : FnB P w mg base W 2 f fd ["self"] 1 f_Table_is_plain [(1, [], [0], [])] := by
  have nd : (["self"] : List Str).Nodup := sc_Table_is_plain.nd
  refine ⟨F.kp, fnD F sc_Table_is_plain rfl fun cdv A outer s H E hr tk => ?_, fun b hb => ?_⟩
  · exact (ss1 (sRet bD0))
  · simp only [List.mem_cons, List.not_mem_nil, or_false] at hb
    rcases hb with rfl
    · exact bnN F 1 [] [0] fun _ _ _ _ _ _ us ws h1 h2 => match us, h1, ws, h2 with | [_], _, [], _ => rfl
theorem sc_Table_ordered : FnScope ["self", "found", "key", "place"] ["self"] (defScope (clsStmt (top 17) 12)) := ⟨rfl, rfl, rfl, by decide +kernel, rfl, by decide +kernel, by decide +kernel⟩
theorem ok_Table_ordered {P : Program} {w : World} {mg : Str → Option Value} {base : Heap} {W : Wd} {f : Addr} {fd : FuncData} (hW : W.ct = ct0) (hN : W.fn = fn0) (F : FnP W (clsStmt (top 17) 12) "ordered" "Table.ordered" [] [] f fd) (b_sorted : mg "sorted" = none) (b_int : mg "int" = none) : FnB P w mg base W 2 f fd ["self"] 1 f_Table_ordered [(1, [], [0], [])] := by
  have nd : (["self", "found", "key", "place"] : List Str).Nodup := sc_Table_ordered.nd
  refine ⟨F.kp, fnD F sc_Table_ordered rfl fun cdv A outer s H E hr tk => ?_, fun b hb => ?_⟩
  · exact (ssC (sSet nd (i := 1) rfl (by first | exact .inl rfl | exact .inr rfl) (lkD (dcD (own := [("key", 2), ("place", 3)]) rfl nd (dkItems (fldD rfl (fnx hN (i := 1) rfl) (vv 0))) (blkOk (by kernel_rfl)) (fun _ _ _ _ _ => (gT rfl rfl (gsC (wipC_ok _) (gN nd rfl (by first | exact .inl rfl | exact .inr rfl) trivial (fun σ v => wipe_set σ (by decide))) (gsC (wipC_ok _) (gN nd rfl (by first | exact .inl rfl | exact .inr rfl) trivial (fun σ v => wipe_set σ (by decide))) (gs0 (wipC_ok _)))) (dgC_len (dgC_len dg0_len)))) (fun _ _ _ _ _ => yesD) (fun _ _ _ _ _ => (vv 3)) (fun _ _ _ _ _ => (vv 2)) (fun _ _ => trivial))) trivial) (ss1 (sRet (lcD (own := [("place", 3)]) rfl nd (srcD rfl (bD (cSorted rfl) b_sorted bt_sorted (aD (lkD (lcD (own := [("place", 3)]) rfl nd (dkKeys (vv 1)) (blkOk (by kernel_rfl)) (fun _ _ _ _ _ => (gN nd rfl (by first | exact .inl rfl | exact .inr rfl) trivial (fun σ v => wipe_set σ (by decide)))) (fun _ _ _ _ _ => yesD) (fun _ _ _ _ _ => (yD cInt b_int bt_int (aD (vv 3) nD))) (fun _ _ => trivial))) nD))) (blkOk (by kernel_rfl)) (fun _ _ _ _ _ => (gN nd rfl (by first | exact .inl rfl | exact .inr rfl) trivial (fun σ v => wipe_set σ (by decide)))) (fun _ _ _ _ _ => yesD) (fun _ _ _ _ _ => (ixD (xIdx rfl (ru1 hr)) (vv 1) (vv 3) fun _ _ => rfl)) (fun _ _ => trivial)))))
  · simp only [List.mem_cons, List.not_mem_nil, or_false] at hb
    rcases hb with rfl
    · exact bnN F 1 [] [0] fun _ _ _ _ _ _ us ws h1 h2 => match us, h1, ws, h2 with | [_], _, [], _ => rfl
theorem sc_Table_pairs : FnScope ["self", "key"] ["self"] (defScope (clsStmt (top 17) 23)) := ⟨rfl, rfl, rfl, by decide +kernel, rfl, by decide +kernel, by decide +kernel⟩
theorem ok_Table_pairs {P : Program} {w : World} {mg : Str → Option Value} {base : Heap} {W : Wd} {f : Addr} {fd : FuncData} (hW : W.ct = ct0) (hN : W.fn = fn0) (F : FnP W (clsStmt (top 17) 23) "pairs" "Table.pairs" [] [] f fd) (M_Table_Table_ordered : HasM P w mg base W 2 0 "ordered" ["self"] 1 f_Table_ordered [(1, [], [0], [])]) : FnB P w mg base W 4 f fd ["self"] 1 f_Table_pairs [(1, [], [0], [])] := by
  have nd : (["self", "key"] : List Str).Nodup := sc_Table_pairs.nd
  refine ⟨F.kp, fnD F sc_Table_pairs rfl fun cdv A outer s H E hr tk => ?_, fun b hb => ?_⟩
  · exact (ss1 (sRet (lcD (own := [("key", 1)]) rfl nd (srcD rfl (methD0 M_Table_Table_ordered 0 rfl rfl hr (by decide) rfl (fnn hN (by decide)) tk (vv 0) kNil)) (blkOk (by kernel_rfl)) (fun _ _ _ _ _ => (gN nd rfl (by first | exact .inl rfl | exact .inr rfl) trivial (fun σ v => wipe_set σ (by decide)))) (fun _ _ _ _ _ => yesD) (fun _ _ _ _ _ => (tupD (aD (vv 1) (aD (ixD (xIdx rfl (ru1 hr)) (fldD rfl (fnx hN (i := 0) rfl) (vv 0)) (vv 1) fun _ _ => rfl) nD)))) (fun _ _ => trivial))))
  · simp only [List.mem_cons, List.not_mem_nil, or_false] at hb
    rcases hb with rfl
    · exact bnN F 1 [] [0] fun _ _ _ _ _ _ us ws h1 h2 => match us, h1, ws, h2 with | [_], _, [], _ => rfl
theorem sc_is_word : FnScope ["thing", "sign"] ["thing"] (defScope (top 11)) := ⟨rfl, rfl, rfl, by decide +kernel, rfl, by decide +kernel, by decide +kernel⟩
theorem ok_is_word {P : Program} {w : World} {mg : Str → Option Value} {base : Heap} {W : Wd} {f : Addr} {fd : FuncData} (hW : W.ct = ct0) (hN : W.fn = fn0) (F : FnP W (top 11) "is_word" "is_word" [] [] f fd) (b_isinstance : mg "isinstance" = none) (b_str : mg "str" = none) (b_len : mg "len" = none) (c_MOST_LETTERS : ∃ t, mg "MOST_LETTERS" = some (.int 6 t)) (b_all : mg "all" = none) (c_LETTERS : ∃ t, mg "LETTERS" = some (.str "abcdefghijklmnopqrstuvwxyz" t)) : FnB P w mg base W 2 f fd ["thing"] 1 f_is_word [(1, [], [0], [])] := by
  have nd : (["thing", "sign"] : List Str).Nodup := sc_is_word.nd
  refine ⟨F.kp, fnD F sc_is_word rfl fun cdv A outer s H E hr tk => ?_, fun b hb => ?_⟩
  · exact (ss1 (sRet (andVD (bD (cIsiE rfl hW) b_isinstance bt_isinstance (aD (vv 0) (aD (tyD b_str bt_str) nD))) (andVD (chnD oLe oLe iD (bD (cLen rfl) b_len bt_len (aD (vv 0) nD)) (gcD c_MOST_LETTERS.choose_spec (y := (.int 6)) ⟨_, rfl⟩ fun _ _ => .int _)) (oneVD (bD (cAll rfl rfl) b_all bt_all (aD (lcD (own := [("sign", 1)]) rfl nd (srcD rfl (vv 0)) (blkOk (by kernel_rfl)) (fun _ _ _ _ _ => (gN nd rfl (by first | exact .inl rfl | exact .inr rfl) trivial (fun σ v => wipe_set σ (by decide)))) (fun _ _ _ _ _ => yesD) (fun _ _ _ _ _ => (cmD (oIn rfl (ru5 hr)) (vv 1) (gcD c_LETTERS.choose_spec (y := (.str "abcdefghijklmnopqrstuvwxyz")) ⟨_, rfl⟩ fun _ _ => .str _) rfl)) (fun _ _ => trivial)) nD)))))))
  · simp only [List.mem_cons, List.not_mem_nil, or_false] at hb
    rcases hb with rfl
    · exact bnN F 1 [] [0] fun _ _ _ _ _ _ us ws h1 h2 => match us, h1, ws, h2 with | [_], _, [], _ => rfl
theorem sc_is_integer : FnScope ["thing"] ["thing"] (defScope (top 10)) := ⟨rfl, rfl, rfl, by decide +kernel, rfl, by decide +kernel, by decide +kernel⟩
theorem ok_is_integer {P : Program} {w : World} {mg : Str → Option Value} {base : Heap} {W : Wd} {f : Addr} {fd : FuncData} (hW : W.ct = ct0) (hN : W.fn = fn0) (F : FnP W (top 10) "is_integer" "is_integer" [] [] f fd) (b_isinstance : mg "isinstance" = none) (b_int : mg "int" = none) (b_bool : mg "bool" = none) : FnB P w mg base W 2 f fd ["thing"] 1 f_is_integer [(1, [], [0], [])] := by
  have nd : (["thing"] : List Str).Nodup := sc_is_integer.nd
  refine ⟨F.kp, fnD F sc_is_integer rfl fun cdv A outer s H E hr tk => ?_, fun b hb => ?_⟩
  · exact (ss1 (sRet (andVD (bD (cIsiE rfl hW) b_isinstance bt_isinstance (aD (vv 0) (aD (tyD b_int bt_int) nD))) (oneVD (notVD (bD (cIsiE rfl hW) b_isinstance bt_isinstance (aD (vv 0) (aD (tyD b_bool bt_bool) nD))))))))
  · simp only [List.mem_cons, List.not_mem_nil, or_false] at hb
    rcases hb with rfl
    · exact bnN F 1 [] [0] fun _ _ _ _ _ _ us ws h1 h2 => match us, h1, ws, h2 with | [_], _, [], _ => rfl
theorem sc_is_short : FnScope ["thing"] ["thing"] (defScope (top 12)) := ⟨rfl, rfl, rfl, by decide +kernel, rfl, by decide +kernel, by decide +kernel⟩
theorem ok_is_short {P : Program} {w : World} {mg : Str → Option Value} {base : Heap} {W : Wd} {f : Addr} {fd : FuncData} (hW : W.ct = ct0) (hN : W.fn = fn0) (F : FnP W (top 12) "is_short" "is_short" [] [] f fd) (b_abs : mg "abs" = none) (H_is_integer : Has P w mg base W 2 "is_integer" ["thing"] 1 f_is_integer [(1, [], [0], [])]) : FnB P w mg base W 4 f fd ["thing"] 1 f_is_short [(1, [], [0], [])] := by
  have nd : (["thing"] : List Str).Nodup := sc_is_short.nd
  refine ⟨F.kp, fnD F sc_is_short rfl fun cdv A outer s H E hr tk => ?_, fun b hb => ?_⟩
  · exact (ss1 (sRet (andVD (callH H_is_integer 0 rfl rfl hr (by decide) rfl tk (aD (vv 0) nD) kNil) (oneVD (cmD oLt (bD cAbs b_abs bt_abs (aD (vv 0) nD)) (opD oPow iD iD) (nomark _))))))
  · simp only [List.mem_cons, List.not_mem_nil, or_false] at hb
    rcases hb with rfl
    · exact bnN F 1 [] [0] fun _ _ _ _ _ _ us ws h1 h2 => match us, h1, ws, h2 with | [_], _, [], _ => rfl
theorem sc_is_item : FnScope ["thing"] ["thing"] (defScope (top 13)) := ⟨rfl, rfl, rfl, by decide +kernel, rfl, by decide +kernel, by decide +kernel⟩
theorem ok_is_item {P : Program} {w : World} {mg : Str → Option Value} {base : Heap} {W : Wd} {f : Addr} {fd : FuncData} (hW : W.ct = ct0) (hN : W.fn = fn0) (F : FnP W (top 13) "is_item" "is_item" [] [] f fd) (H_is_word : Has P w mg base W 2 "is_word" ["thing"] 1 f_is_word [(1, [], [0], [])]) (H_is_short : Has P w mg base W 4 "is_short" ["thing"] 1 f_is_short [(1, [], [0], [])]) : FnB P w mg base W 6 f fd ["thing"] 1 f_is_item [(1, [], [0], [])] := by
  have nd : (["thing"] : List Str).Nodup := sc_is_item.nd
  refine ⟨F.kp, fnD F sc_is_item rfl fun cdv A outer s H E hr tk => ?_, fun b hb => ?_⟩
  · exact (ss1 (sRet (orVD (callH H_is_word 0 rfl rfl hr (by decide) rfl tk (aD (vv 0) nD) kNil) (oneVD (callH H_is_short 0 rfl rfl hr (by decide) rfl tk (aD (vv 0) nD) kNil)))))
  · simp only [List.mem_cons, List.not_mem_nil, or_false] at hb
    rcases hb with rfl
    · exact bnN F 1 [] [0] fun _ _ _ _ _ _ us ws h1 h2 => match us, h1, ws, h2 with | [_], _, [], _ => rfl
theorem sc_are_pairs : FnScope ["thing", "pair"] ["thing"] (defScope (top 15)) := ⟨rfl, rfl, rfl, by decide +kernel, rfl, by decide +kernel, by decide +kernel⟩
theorem ok_are_pairs {P : Program} {w : World} {mg : Str → Option Value} {base : Heap} {W : Wd} {f : Addr} {fd : FuncData} (hW : W.ct = ct0) (hN : W.fn = fn0) (F : FnP W (top 15) "are_pairs" "are_pairs" [] [] f fd) (b_list : mg "list" = none) (b_tuple : mg "tuple" = none) (b_isinstance : mg "isinstance" = none) (b_all : mg "all" = none) (b_len : mg "len" = none) (H_is_item : Has P w mg base W 6 "is_item" ["thing"] 1 f_is_item [(1, [], [0], [])]) : FnB P w mg base W 8 f fd ["thing"] 1 f_are_pairs [(1, [], [0], [])] := by
  have nd : (["thing", "pair"] : List Str).Nodup := sc_are_pairs.nd
  refine ⟨F.kp, fnD F sc_are_pairs rfl fun cdv A outer s H E hr tk => ?_, fun b hb => ?_⟩
  · exact (ssC (sIf (notD (tstD (isLTD rfl hW b_isinstance (vv 0) b_list bt_list b_tuple bt_tuple)))
  (ss1 (sRet bD0))
  ss0) (ss1 (sRet (bD (cAll rfl rfl) b_all bt_all (aD (lcD (own := [("pair", 1)]) rfl nd (srcD rfl (vv 0)) (blkOk (by kernel_rfl)) (fun _ _ _ _ _ => (gN nd rfl (by first | exact .inl rfl | exact .inr rfl) trivial (fun σ v => wipe_set σ (by decide)))) (fun _ _ _ _ _ => yesD) (fun _ _ _ _ _ => (andVD (bD (cIsiE rfl hW) b_isinstance bt_isinstance (aD (vv 1) (aD (tyD b_tuple bt_tuple) nD))) (andVD (cmD (oEq rfl (ru hr)) (bD (cLen rfl) b_len bt_len (aD (vv 1) nD)) iD (nomark _)) (andVD (callH H_is_item 0 rfl rfl hr (by decide) rfl tkE0 (aD (ixD (xIdx rfl (ru1 hr)) (vv 1) iD fun _ _ => rfl) nD) kNil) (oneVD (callH H_is_item 0 rfl rfl hr (by decide) rfl tkE0 (aD (ixD (xIdx rfl (ru1 hr)) (vv 1) iD fun _ _ => rfl) nD) kNil)))))) (fun _ _ => trivial)) nD)))))
  · simp only [List.mem_cons, List.not_mem_nil, or_false] at hb
    rcases hb with rfl
    · exact bnN F 1 [] [0] fun _ _ _ _ _ _ us ws h1 h2 => match us, h1, ws, h2 with | [_], _, [], _ => rfl
theorem sc_pairs_of : FnScope ["thing"] ["thing"] (defScope (top 16)) := ⟨rfl, rfl, rfl, by decide +kernel, rfl, by decide +kernel, by decide +kernel⟩
theorem ok_pairs_of {P : Program} {w : World} {mg : Str → Option Value} {base : Heap} {W : Wd} {f : Addr} {fd : FuncData} (hW : W.ct = ct0) (hN : W.fn = fn0) (F : FnP W (top 16) "pairs_of" "pairs_of" [] [] f fd) (b_isinstance : mg "isinstance" = none) (k_Table : mg "Table" = some (.ref (W.cl 0))) (b_dict : mg "dict" = none) (b_list : mg "list" = none) (M_Table_Table_pairs : HasM P w mg base W 4 0 "pairs" ["self"] 1 f_Table_pairs [(1, [], [0], [])]) (H_are_pairs : Has P w mg base W 8 "are_pairs" ["thing"] 1 f_are_pairs [(1, [], [0], [])]) (X0_BadPairs : HasX0 mg W 2 "BadPairs") : FnB P w mg base W 10 f fd ["thing"] 1 f_pairs_of [(1, [], [0], [])] := by
  have nd : (["thing"] : List Str).Nodup := sc_pairs_of.nd
  refine ⟨F.kp, fnD F sc_pairs_of rfl fun cdv A outer s H E hr tk => ?_, fun b hb => ?_⟩
  · exact (ssC (sIf (tstD (bD (cIsiE rfl hW) b_isinstance bt_isinstance (aD (vv 0) (aD (clD rfl k_Table) nD))))
  (ss1 (sRet (methD0 M_Table_Table_pairs 0 rfl rfl hr (by decide) rfl (fnn hN (by decide)) tk (vv 0) kNil)))
  ss0) (ssC (sIf (tstD (bD (cIsiE rfl hW) b_isinstance bt_isinstance (aD (vv 0) (aD (tyD b_dict bt_dict) nD))))
  (ss1 (sRet (liD rfl b_list bt_list (vv 0))))
  ss0) (ssC (sIf (notD (tstD (callH H_are_pairs 0 rfl rfl hr (by decide) rfl tk (aD (vv 0) nD) kNil)))
  (ss1 (sRaise0 X0_BadPairs rfl rfl tk))
  ss0) (ss1 (sRet (yD (cList rfl rfl) b_list bt_list (aD (vv 0) nD)))))))
  · simp only [List.mem_cons, List.not_mem_nil, or_false] at hb
    rcases hb with rfl
    · exact bnN F 1 [] [0] fun _ _ _ _ _ _ us ws h1 h2 => match us, h1, ws, h2 with | [_], _, [], _ => rfl
theorem sc_Table_xinit : FnScope ["self", "pairs", "some", "key", "worth", "place"] ["self", "pairs"] (defScope (clsStmt (top 17) 0)) := ⟨rfl, rfl, rfl, by decide +kernel, rfl, by decide +kernel, by decide +kernel⟩
theorem ok_Table_xinit {P : Program} {w : World} {mg : Str → Option Value} {base : Heap} {W : Wd} {f : Addr} {fd : FuncData} {e0 : Addr} (he0 : ∀ H, SqT W.K H e0 []) (hW : W.ct = ct0) (hN : W.fn = fn0) (F : FnP W (clsStmt (top 17) 0) "__init__" "Table.__init__" [.ref e0] [] f fd) (b_list : mg "list" = none) (b_enumerate : mg "enumerate" = none) (b_len : mg "len" = none) (M_Table_Table_is_plain : HasM P w mg base W 2 0 "is_plain" ["self"] 1 f_Table_is_plain [(1, [], [0], [])]) (H_pairs_of : Has P w mg base W 10 "pairs_of" ["thing"] 1 f_pairs_of [(1, [], [0], [])]) : FnB P w mg base W 12 f fd ["self", "pairs"] 2 f_Table_xinit [(2, [], [0, 1], [(.tup [])]), (1, [], [0, 1], [(.tup [])])] := by
  have nd : (["self", "pairs", "some", "key", "worth", "place"] : List Str).Nodup := sc_Table_xinit.nd
  refine ⟨F.kp, fnD F sc_Table_xinit rfl fun cdv A outer s H E hr tk => ?_, fun b hb => ?_⟩
  · exact (ssC (sSet nd (i := 2) rfl (by first | exact .inl rfl | exact .inr rfl) (ifD (tstD (methD0 M_Table_Table_is_plain 0 rfl rfl hr (by decide) rfl (fnn hN (by decide)) tk (vv 0) kNil)) (callH H_pairs_of 0 rfl rfl hr (by decide) rfl tk (aD (vv 1) nD) kNil) (yD (cList rfl rfl) b_list bt_list (aD (vv 1) nD))) trivial) (ssC (sSetF rfl (fnx hN (i := 0) rfl) (vv 0) (dcD (own := [("key", 3), ("worth", 4)]) rfl nd (srcD rfl (vv 2)) (blkOk (by kernel_rfl)) (fun _ _ _ _ _ => (gT rfl rfl (gsC (wipC_ok _) (gN nd rfl (by first | exact .inl rfl | exact .inr rfl) trivial (fun σ v => wipe_set σ (by decide))) (gsC (wipC_ok _) (gN nd rfl (by first | exact .inl rfl | exact .inr rfl) trivial (fun σ v => wipe_set σ (by decide))) (gs0 (wipC_ok _)))) (dgC_len (dgC_len dg0_len)))) (fun _ _ _ _ _ => yesD) (fun _ _ _ _ _ => (vv 3)) (fun _ _ _ _ _ => (vv 4)) (fun _ _ => trivial))) (ssC (sSetF rfl (fnx hN (i := 1) rfl) (vv 0) (lkD (dcD (own := [("place", 5), ("key", 3)]) rfl nd (enkD rfl (fldD rfl (fnx hN (i := 0) rfl) (vv 0)) b_enumerate) (blkOk (by kernel_rfl)) (fun _ _ _ _ _ => (gT rfl rfl (gsC (wipC_ok _) (gN nd rfl (by first | exact .inl rfl | exact .inr rfl) trivial (fun σ v => wipe_set σ (by decide))) (gsC (wipC_ok _) (gN nd rfl (by first | exact .inl rfl | exact .inr rfl) trivial (fun σ v => wipe_set σ (by decide))) (gs0 (wipC_ok _)))) (dgC_len (dgC_len dg0_len)))) (fun _ _ _ _ _ => yesD) (fun _ _ _ _ _ => (vv 3)) (fun _ _ _ _ _ => (vv 5)) (fun _ _ => trivial)))) (ssC (sSetF rfl (fnx hN (i := 2) rfl) (vv 0) iD) (ss1 (sSetF rfl (fnx hN (i := 3) rfl) (vv 0) (bD (cLen rfl) b_len bt_len (aD (fldD rfl (fnx hN (i := 0) rfl) (vv 0)) nD))))))))
  · simp only [List.mem_cons, List.not_mem_nil, or_false] at hb
    rcases hb with rfl | rfl
    · exact bnP F 2 [] [0, 1] (by simp) (fun io H => .cons (.tup (he0 H) .nil) (.nil)) fun _ _ _ _ _ _ _ us its ws h1 h2 h3 => match us, h1, its, h2, ws, h3 with | [_, _], _, [_], _, [], _ => ⟨_, rfl, rfl⟩
    · exact bnP F 1 [] [0, 1] (by simp) (fun io H => .cons (.tup (he0 H) .nil) (.nil)) fun _ _ _ _ _ _ _ us its ws h1 h2 h3 => match us, h1, its, h2, ws, h3 with | [_], _, [_], _, [], _ => ⟨_, rfl, rfl⟩
theorem sc__law_draw : FnScope ["_law_source_here", "_law_often", "_law_digit", "_law_primes", "_law_turn", "_law_base", "_law_found"] ["_law_source_here", "_law_often"] (defScope (top 20)) := ⟨rfl, rfl, rfl, by decide +kernel, rfl, by decide +kernel, by decide +kernel⟩
theorem ok__law_draw {P : Program} {w : World} {mg : Str → Option Value} {base : Heap} {W : Wd} {f : Addr} {fd : FuncData} (hW : W.ct = ct0) (hN : W.fn = fn0) (F : FnP W (top 20) "_law_draw" "_law_draw" [] [] f fd)  : FnB P w mg base W 2 f fd ["_law_source_here", "_law_often"] 2 f__law_draw [(2, [], [0, 1], [])] := by
  have nd : (["_law_source_here", "_law_often", "_law_digit", "_law_primes", "_law_turn", "_law_base", "_law_found"] : List Str).Nodup := sc__law_draw.nd
  refine ⟨F.kp, fnD F sc__law_draw rfl fun cdv A outer s H E hr tk => ?_, fun b hb => ?_⟩
  · exact (ssC (sIf (cmT oGt (ixD (xIdx rfl (ru1 hr)) (vv 0) iD fun _ _ => rfl) iD (nomark _))
  (ssC (sSet nd (i := 2) rfl (by first | exact .inl rfl | exact .inr rfl) (opD oMod (ixD (xIdx rfl (ru1 hr)) (vv 0) iD fun _ _ => rfl) (vv 1)) trivial) (ssC (sPut hr (vv 0) iD (opD oFdiv (ixD (xIdx rfl (ru1 hr)) (vv 0) iD fun _ _ => rfl) (vv 1))) (ss1 (sRet (vv 2)))))
  ss0) (ssC (sSet nd (i := 3) rfl (by first | exact .inl rfl | exact .inr rfl) (tupD (aD iD (aD iD (aD iD (aD iD (aD iD (aD iD (aD iD (aD iD nD))))))))) trivial) (ssC (sPut hr (vv 0) iD (opD (oAdd rfl) (ixD (xIdx rfl (ru1 hr)) (vv 0) iD fun _ _ => rfl) iD)) (ssC (sSet nd (i := 4) rfl (by first | exact .inl rfl | exact .inr rfl) (ixD (xIdx rfl (ru1 hr)) (vv 0) iD fun _ _ => rfl) trivial) (ssC (sSet nd (i := 5) rfl (by first | exact .inl rfl | exact .inr rfl) (opD (oAdd rfl) (opD (oAdd rfl) (opD (oMul rfl) (ixD (xIdx rfl (ru1 hr)) (vv 0) iD fun _ _ => rfl) (opD (oAdd rfl) (opD (oMul rfl) iD (vv 4)) iD)) (opD (oMul rfl) (opD (oMul rfl) iD (vv 4)) (vv 4))) iD) trivial) (ssC (sSet nd (i := 6) rfl (by first | exact .inl rfl | exact .inr rfl) (opD oMod (opD oPow (vv 5) iD) (ixD (xIdx rfl (ru1 hr)) (vv 3) (opD oMod (vv 4) iD) fun _ _ => rfl)) trivial) (ss1 (sRet (opD oMod (opD oFdiv (opD oMod (opD (oMul rfl) (vv 6) (opD (oAdd rfl) (opD oFdiv (vv 6) iD) iD)) (ixD (xIdx rfl (ru1 hr)) (vv 3) (opD oMod (opD (oAdd rfl) (vv 4) iD) iD) fun _ _ => rfl)) iD) (vv 1))))))))))
  · simp only [List.mem_cons, List.not_mem_nil, or_false] at hb
    rcases hb with rfl
    · exact bnN F 2 [] [0, 1] fun _ _ _ _ _ _ us ws h1 h2 => match us, h1, ws, h2 with | [_, _], _, [], _ => rfl
theorem sc__law_item : FnScope ["_law_source_here", "_law_way"] ["_law_source_here"] (defScope (top 21)) := ⟨rfl, rfl, rfl, by decide +kernel, rfl, by decide +kernel, by decide +kernel⟩
theorem ok__law_item {P : Program} {w : World} {mg : Str → Option Value} {base : Heap} {W : Wd} {f : Addr} {fd : FuncData} (hW : W.ct = ct0) (hN : W.fn = fn0) (F : FnP W (top 21) "_law_item" "_law_item" [] [] f fd) (H__law_draw : Has P w mg base W 2 "_law_draw" ["_law_source_here", "_law_often"] 2 f__law_draw [(2, [], [0, 1], [])]) : FnB P w mg base W 4 f fd ["_law_source_here"] 1 f__law_item [(1, [], [0], [])] := by
  have nd : (["_law_source_here", "_law_way"] : List Str).Nodup := sc__law_item.nd
  refine ⟨F.kp, fnD F sc__law_item rfl fun cdv A outer s H E hr tk => ?_, fun b hb => ?_⟩
  · exact (ssC (sSet nd (i := 1) rfl (by first | exact .inl rfl | exact .inr rfl) (callH H__law_draw 0 rfl rfl hr (by decide) rfl tk (aD (vv 0) (aD iD nD)) kNil) trivial) (ssC (sIf (cmT (oEq rfl (ru hr)) (vv 1) iD (nomark _))
  (ss1 (sRet (ixD (xIdx rfl (ru1 hr)) (lstD (aD sD (aD sD (aD sD (aD sD nD))))) (callH H__law_draw 0 rfl rfl hr (by decide) rfl tk (aD (vv 0) (aD iD nD)) kNil) fun _ _ => rfl)))
  ss0) (ssC (sIf (cmT (oEq rfl (ru hr)) (vv 1) iD (nomark _))
  (ss1 (sRet (ixD (xIdx rfl (ru1 hr)) (lstD (aD iD (aD iD (aD (unD uNeg iD) (aD iD nD))))) (callH H__law_draw 0 rfl rfl hr (by decide) rfl tk (aD (vv 0) (aD iD nD)) kNil) fun _ _ => rfl)))
  ss0) (ss1 (sRet (ixD (xIdx rfl (ru1 hr)) (lstD (aD iD (aD (unD uNeg iD) (aD sD (aD iD nD))))) (callH H__law_draw 0 rfl rfl hr (by decide) rfl tk (aD (vv 0) (aD iD nD)) kNil) fun _ _ => rfl))))))
  · simp only [List.mem_cons, List.not_mem_nil, or_false] at hb
    rcases hb with rfl
    · exact bnN F 1 [] [0] fun _ _ _ _ _ _ us ws h1 h2 => match us, h1, ws, h2 with | [_], _, [], _ => rfl
theorem sc__law_pairs : FnScope ["_law_source_here", "_law_most", "_law_k"] ["_law_source_here", "_law_most"] (defScope (top 22)) := ⟨rfl, rfl, rfl, by decide +kernel, rfl, by decide +kernel, by decide +kernel⟩
theorem ok__law_pairs {P : Program} {w : World} {mg : Str → Option Value} {base : Heap} {W : Wd} {f : Addr} {fd : FuncData} (hW : W.ct = ct0) (hN : W.fn = fn0) (F : FnP W (top 22) "_law_pairs" "_law_pairs" [] [] f fd) (b_range : mg "range" = none) (H__law_draw : Has P w mg base W 2 "_law_draw" ["_law_source_here", "_law_often"] 2 f__law_draw [(2, [], [0, 1], [])]) (H__law_item : Has P w mg base W 4 "_law_item" ["_law_source_here"] 1 f__law_item [(1, [], [0], [])]) : FnB P w mg base W 6 f fd ["_law_source_here", "_law_most"] 2 f__law_pairs [(2, [], [0, 1], [])] := by
  have nd : (["_law_source_here", "_law_most", "_law_k"] : List Str).Nodup := sc__law_pairs.nd
  refine ⟨F.kp, fnD F sc__law_pairs rfl fun cdv A outer s H E hr tk => ?_, fun b hb => ?_⟩
  · exact (ss1 (sRet (lcD (own := [("_law_k", 2)]) rfl nd (rg1D rfl b_range (aD (callH H__law_draw 0 rfl rfl hr (by decide) rfl tk (aD (vv 0) (aD (opD (oAdd rfl) (vv 1) iD) nD)) kNil) nD)) (blkOk (by kernel_rfl)) (fun _ _ _ _ _ => (gN nd rfl (by first | exact .inl rfl | exact .inr rfl) trivial (fun σ v => wipe_set σ (by decide)))) (fun _ _ _ _ _ => yesD) (fun _ _ _ _ _ => (tupD (aD (callH H__law_item 0 rfl rfl hr (by decide) rfl tkE0 (aD (vv 0) nD) kNil) (aD (callH H__law_item 0 rfl rfl hr (by decide) rfl tkE0 (aD (vv 0) nD) kNil) nD)))) (fun _ _ => trivial))))
  · simp only [List.mem_cons, List.not_mem_nil, or_false] at hb
    rcases hb with rfl
    · exact bnN F 2 [] [0, 1] fun _ _ _ _ _ _ us ws h1 h2 => match us, h1, ws, h2 with | [_, _], _, [], _ => rfl
theorem sc__law_odd : FnScope ["_law_source_here", "_law_odd_here"] ["_law_source_here"] (defScope (top 23)) := ⟨rfl, rfl, rfl, by decide +kernel, rfl, by decide +kernel, by decide +kernel⟩
theorem ok__law_odd {P : Program} {w : World} {mg : Str → Option Value} {base : Heap} {W : Wd} {f : Addr} {fd : FuncData} (hW : W.ct = ct0) (hN : W.fn = fn0) (F : FnP W (top 23) "_law_odd" "_law_odd" [] [] f fd) (b_len : mg "len" = none) (H__law_draw : Has P w mg base W 2 "_law_draw" ["_law_source_here", "_law_often"] 2 f__law_draw [(2, [], [0, 1], [])]) : FnB P w mg base W 4 f fd ["_law_source_here"] 1 f__law_odd [(1, [], [0], [])] := by
  have nd : (["_law_source_here", "_law_odd_here"] : List Str).Nodup := sc__law_odd.nd
  refine ⟨F.kp, fnD F sc__law_odd rfl fun cdv A outer s H E hr tk => ?_, fun b hb => ?_⟩
  · exact (ssC (sSet nd (i := 1) rfl (by first | exact .inl rfl | exact .inr rfl) (lstD (aD nD0 (aD bD0 (aD bD0 (aD sD (aD sD (aD sD (aD sD (aD (opD oPow iD iD) (aD (opD oSub iD (opD oPow iD iD)) (aD (opD oPow iD iD) (aD (lstD nD) (aD (tupD nD) (aD (tupD (aD sD nD)) (aD (lstD (aD sD nD)) (aD sD nD)))))))))))))))) trivial) (ss1 (sRet (ixD (xIdx rfl (ru1 hr)) (vv 1) (callH H__law_draw 0 rfl rfl hr (by decide) rfl tk (aD (vv 0) (aD (bD (cLen rfl) b_len bt_len (aD (vv 1) nD)) nD)) kNil) fun _ _ => rfl))))
  · simp only [List.mem_cons, List.not_mem_nil, or_false] at hb
    rcases hb with rfl
    · exact bnN F 1 [] [0] fun _ _ _ _ _ _ us ws h1 h2 => match us, h1, ws, h2 with | [_], _, [], _ => rfl
theorem sc__law_error : FnScope ["_law_call", "e"] ["_law_call"] (defScope (top 24)) := ⟨rfl, rfl, rfl, by decide +kernel, rfl, by decide +kernel, by decide +kernel⟩
theorem ok__law_error {P : Program} {w : World} {mg : Str → Option Value} {base : Heap} {W : Wd} {f : Addr} {fd : FuncData} (hW : W.ct = ct0) (hN : W.fn = fn0) (F : FnP W (top 24) "_law_error" "_law_error" [] [] f fd) (mgf : mg "_law_error" = some (.ref f)) (k_Empty : mg "Empty" = some (.ref (W.cl 4))) (b_isinstance : mg "isinstance" = none) (b_IndexError : mg "IndexError" = none) (k_NoKey : mg "NoKey" = some (.ref (W.cl 3))) (b_KeyError : mg "KeyError" = none) (b_repr : mg "repr" = none) (k_BadPairs : mg "BadPairs" = some (.ref (W.cl 2))) (k_CountError : mg "CountError" = some (.ref (W.cl 5))) (k_BadItem : mg "BadItem" = some (.ref (W.cl 1))) (b_ValueError : mg "ValueError" = none) (XW : XWd W xt0) (XO_CountError : XOk W xt0 5) : HasL P w mg base W 2 "_law_error" true f__law_error := by
  have nd : (["_law_call", "e"] : List Str).Nodup := sc__law_error.nd
  refine ⟨f, fd, _, _, _, ["_law_call", "e"], "_law_call", p__law_error, mgf, F, fun s us _ hl => ?_, sc__law_error, rfl, Or.inl rfl, by decide, by decide, rfl, fun cdv A outer s H E hgl hr tk fL cL qL io0 H0 act tl AP AS => ?_⟩
  · rw [List.append_nil] at hl ⊢
    exact FunD.bindsA (ps := ["_law_call"]) F (fun _ _ _ _ _ _ us hl => match us, hl with | [_], _ => rfl) s us hl
  · have hgd := hgl rfl
    exact (ssC (sTryG ml_mz XW rfl rfl rfl tk (fun E1 pn xe tkt pxt =>
  (ss1 (sExpr (actD AP AS tkt)))) (.as ⟨rfl, by decide, .inl k_BadItem⟩ (by decide) (by decide) (by show _ ≠ 0; decide) nd rfl rfl (fun a oe pn t fs d t1 t2 z1 z2 => (ss1 (sRet (ifD (ptW (andD (tstD (isOD XO_CountError XW rfl t1 t2 z1 z2 b_isinstance (vt 1) k_CountError)) (and1D (tstD (isXDG XW rfl t1 t2 z1 z2 b_isinstance (vt 1) b_ValueError bt_ValueError))))) (opD (oAdd rfl) sD (bD (cRepr rfl hgd (ruH hr)) b_repr bt_repr (aD (xfDG XW rfl t1 t2 z1 z2 (fnx hN (i := 4) rfl) (vt 1)) nD))) sD)))) (.as ⟨rfl, by decide, .inl k_BadPairs⟩ (by decide) (by decide) (by show _ ≠ 0; decide) nd rfl rfl (fun a oe pn t fs d t1 t2 z1 z2 => (ss1 (sRet (ifD (tstD (isOD XO_CountError XW rfl t1 t2 z1 z2 b_isinstance (vt 1) k_CountError)) sD sD)))) (.as ⟨rfl, by decide, .inl k_NoKey⟩ (by decide) (by decide) (by show _ ≠ 0; decide) nd rfl rfl (fun a oe pn t fs d t1 t2 z1 z2 => (ss1 (sRet (ifD (tstD (isXDG XW rfl t1 t2 z1 z2 b_isinstance (vt 1) b_KeyError bt_KeyError)) (opD (oAdd rfl) sD (bD (cRepr rfl hgd (ruH hr)) b_repr bt_repr (aD (xfDG XW rfl t1 t2 z1 z2 (fnx hN (i := 4) rfl) (vt 1)) nD))) sD)))) (.as ⟨rfl, by decide, .inl k_Empty⟩ (by decide) (by decide) (by show _ ≠ 0; decide) nd rfl rfl (fun a oe pn t fs d t1 t2 z1 z2 => (ss1 (sRet (ifD (tstD (isXDG XW rfl t1 t2 z1 z2 b_isinstance (vt 1) b_IndexError bt_IndexError)) sD sD)))) .nil))))) (ss1 (sRet sD)))
theorem sc_Table_enter : FnScope ["self", "key", "value"] ["self", "key", "value"] (defScope (clsStmt (top 17) 10)) := ⟨rfl, rfl, rfl, by decide +kernel, rfl, by decide +kernel, by decide +kernel⟩
theorem ok_Table_enter {P : Program} {w : World} {mg : Str → Option Value} {base : Heap} {W : Wd} {f : Addr} {fd : FuncData} (hW : W.ct = ct0) (hN : W.fn = fn0) (F : FnP W (clsStmt (top 17) 10) "enter" "Table.enter" [] [] f fd)  : FnB P w mg base W 2 f fd ["self", "key", "value"] 3 f_Table_enter [(3, [], [0, 1, 2], [])] := by
  have nd : (["self", "key", "value"] : List Str).Nodup := sc_Table_enter.nd
  refine ⟨F.kp, fnD F sc_Table_enter rfl fun cdv A outer s H E hr tk => ?_, fun b hb => ?_⟩
  · exact (ssC (sIf (cmT (oNotIn rfl (ru5 hr)) (vv 1) (fldD rfl (fnx hN (i := 0) rfl) (vv 0)) rfl)
  (ssC (sPut hr (fldD rfl (fnx hN (i := 1) rfl) (vv 0)) (vv 1) (fldD rfl (fnx hN (i := 3) rfl) (vv 0))) (ss1 (sAugF inAdd rfl (fnx hN (i := 3) rfl) (vv 0) iD)))
  ss0) (ss1 (sPut hr (fldD rfl (fnx hN (i := 0) rfl) (vv 0)) (vv 1) (vv 2))))
  · simp only [List.mem_cons, List.not_mem_nil, or_false] at hb
    rcases hb with rfl
    · exact bnN F 3 [] [0, 1, 2] fun _ _ _ _ _ _ us ws h1 h2 => match us, h1, ws, h2 with | [_, _, _], _, [], _ => rfl
theorem sc_Table_put : FnScope ["self", "key", "value", "thing"] ["self", "key", "value"] (defScope (clsStmt (top 17) 13)) := ⟨rfl, rfl, rfl, by decide +kernel, rfl, by decide +kernel, by decide +kernel⟩
theorem ok_Table_put {P : Program} {w : World} {mg : Str → Option Value} {base : Heap} {W : Wd} {f : Addr} {fd : FuncData} (hW : W.ct = ct0) (hN : W.fn = fn0) (F : FnP W (clsStmt (top 17) 13) "put" "Table.put" [] [] f fd) (H_is_item : Has P w mg base W 6 "is_item" ["thing"] 1 f_is_item [(1, [], [0], [])]) (XI_BadItem : HasXI P w mg base W 1 4 "BadItem") (M_Table_Table_enter : HasM P w mg base W 2 0 "enter" ["self", "key", "value"] 3 f_Table_enter [(3, [], [0, 1, 2], [])]) : FnB P w mg base W 8 f fd ["self", "key", "value"] 3 f_Table_put [(3, [], [0, 1, 2], [])] := by
  have nd : (["self", "key", "value", "thing"] : List Str).Nodup := sc_Table_put.nd
  refine ⟨F.kp, fnD F sc_Table_put rfl fun cdv A outer s H E hr tk => ?_, fun b hb => ?_⟩
  · exact (ssC (sFor (passes_of rfl) rfl (srcD rfl (tupD (aD (vv 1) (aD (vv 2) nD)))) (gN nd rfl (by first | exact .inl rfl | exact .inr rfl) trivial (fun _ _ => trivial))
  (ss1 (sIf (notD (tstD (callH H_is_item 0 rfl rfl hr (by decide) rfl tk (aD (vv 3) nD) kNil)))
  (ss1 (sRaiseI XI_BadItem hr (by decide) rfl rfl tk (vv 3)))
  ss0))) (ss1 (sExpr (methD M_Table_Table_enter 0 rfl rfl hr (by decide) rfl (fnn hN (by decide)) tk (vv 0) (aD (vv 1) (aD (vv 2) nD)) kNil))))
  · simp only [List.mem_cons, List.not_mem_nil, or_false] at hb
    rcases hb with rfl
    · exact bnN F 3 [] [0, 1, 2] fun _ _ _ _ _ _ us ws h1 h2 => match us, h1, ws, h2 with | [_, _, _], _, [], _ => rfl
theorem sc_Table_xsetitem : FnScope ["self", "key", "value"] ["self", "key", "value"] (defScope (clsStmt (top 17) 4)) := ⟨rfl, rfl, rfl, by decide +kernel, rfl, by decide +kernel, by decide +kernel⟩
theorem ok_Table_xsetitem {P : Program} {w : World} {mg : Str → Option Value} {base : Heap} {W : Wd} {f : Addr} {fd : FuncData} (hW : W.ct = ct0) (hN : W.fn = fn0) (F : FnP W (clsStmt (top 17) 4) "__setitem__" "Table.__setitem__" [] [] f fd) (M_Table_Table_put : HasM P w mg base W 8 0 "put" ["self", "key", "value"] 3 f_Table_put [(3, [], [0, 1, 2], [])]) : FnB P w mg base W 10 f fd ["self", "key", "value"] 3 f_Table_xsetitem [(3, [], [0, 1, 2], [])] := by
  have nd : (["self", "key", "value"] : List Str).Nodup := sc_Table_xsetitem.nd
  refine ⟨F.kp, fnD F sc_Table_xsetitem rfl fun cdv A outer s H E hr tk => ?_, fun b hb => ?_⟩
  · exact (ss1 (sExpr (methD M_Table_Table_put 0 rfl rfl hr (by decide) rfl (fnn hN (by decide)) tk (vv 0) (aD (vv 1) (aD (vv 2) nD)) kNil)))
  · simp only [List.mem_cons, List.not_mem_nil, or_false] at hb
    rcases hb with rfl
    · exact bnN F 3 [] [0, 1, 2] fun _ _ _ _ _ _ us ws h1 h2 => match us, h1, ws, h2 with | [_, _, _], _, [], _ => rfl
theorem sc__law_store : FnScope ["_law_table", "_law_key", "_law_thing"] ["_law_table", "_law_key", "_law_thing"] (defScope (top 25)) := ⟨rfl, rfl, rfl, by decide +kernel, rfl, by decide +kernel, by decide +kernel⟩
theorem ok__law_store {P : Program} {w : World} {mg : Str → Option Value} {base : Heap} {W : Wd} {f : Addr} {fd : FuncData} (hW : W.ct = ct0) (hN : W.fn = fn0) (F : FnP W (top 25) "_law_store" "_law_store" [] [] f fd) (O_Table_Table_xsetitem : HasO P w mg base W 10 0 "__setitem__" ["self", "key", "value"] 3 f_Table_xsetitem) : FnB P w mg base W 12 f fd ["_law_table", "_law_key", "_law_thing"] 3 f__law_store [(3, [], [0, 1, 2], [])] := by
  have nd : (["_law_table", "_law_key", "_law_thing"] : List Str).Nodup := sc__law_store.nd
  refine ⟨F.kp, fnD F sc__law_store rfl fun cdv A outer s H E hr tk => ?_, fun b hb => ?_⟩
  · exact (ss1 (putOD O_Table_Table_xsetitem hr (by decide) rfl tk (vv 0) (vv 1) (vv 2)))
  · simp only [List.mem_cons, List.not_mem_nil, or_false] at hb
    rcases hb with rfl
    · exact bnN F 3 [] [0, 1, 2] fun _ _ _ _ _ _ us ws h1 h2 => match us, h1, ws, h2 with | [_, _, _], _, [], _ => rfl
theorem sc__law_items_right : FnScope ["_law_table", "_law_odd_here"] ["_law_table", "_law_odd_here"] (defScope (top 26)) := ⟨rfl, rfl, rfl, by decide +kernel, rfl, by decide +kernel, by decide +kernel⟩
theorem ok__law_items_right {P : Program} {w : World} {mg : Str → Option Value} {base : Heap} {W : Wd} {f : Addr} {fd : FuncData} {cL pL : Addr} (TB : LamX.TabB base mg cL pL) (hcd : fd.code = .ref cL) (hmT : (pL, (("_law_items_right" : Str) ++ (".<locals>." : Str) ++ ("<lambda>" : Str))) ∈ W.T) (hu : ∀ p ∈ W.T, p.1 = pL → p.2 = (("_law_items_right" : Str) ++ (".<locals>." : Str) ++ ("<lambda>" : Str))) (hW : W.ct = ct0) (hN : W.fn = fn0) (F : FnP W (top 26) "_law_items_right" "_law_items_right" [] [] f fd) (b_repr : mg "repr" = none) (L__law_error : HasL P w mg base W 2 "_law_error" true f__law_error) (M_Table_Table_put : HasM P w mg base W 8 0 "put" ["self", "key", "value"] 3 f_Table_put [(3, [], [0, 1, 2], [])]) (H__law_store : Has P w mg base W 12 "_law_store" ["_law_table", "_law_key", "_law_thing"] 3 f__law_store [(3, [], [0, 1, 2], [])]) : FnBG P w mg base W 17 f fd ["_law_table", "_law_odd_here"] 2 f__law_items_right [(2, [], [0, 1], [])] := by
  have nd : (["_law_table", "_law_odd_here"] : List Str).Nodup := sc__law_items_right.nd
  refine ⟨F.kp, fnDLG F sc__law_items_right rfl hcd fun A outer s H E hgd hr tk => ?_, fun b hb => ?_⟩
  · exact (ssC (sIf (cmT (oNe rfl (ru hr)) (lamD (kb := 9) L__law_error (fun _ => hgd) rfl rfl tk TB rfl hmT hu hr (by decide) (by decide) (LamX.lamS_by (by rfl)) rfl (fun _ _ _ _ _ => rfl) (fun A2 o2 s2 H2 E2 f2 c2 hr tkL => (methD M_Table_Table_put 0 rfl rfl hr (by decide) rfl (fnn hN (by decide)) tkL (vv 0) (aD (vv 1) (aD (vv 1) nD)) kNil))) (opD (oAdd rfl) sD (bD (cRepr rfl hgd (ru5 hr)) b_repr bt_repr (aD (vv 1) nD))) (nomark _))
  (ss1 (sRet bD0))
  ss0) (ssC (sIf (cmT (oNe rfl (ru hr)) (lamD (kb := 9) L__law_error (fun _ => hgd) rfl rfl tk TB rfl hmT hu hr (by decide) (by decide) (LamX.lamS_by (by rfl)) rfl (fun _ _ _ _ _ => rfl) (fun A2 o2 s2 H2 E2 f2 c2 hr tkL => (methD M_Table_Table_put 0 rfl rfl hr (by decide) rfl (fnn hN (by decide)) tkL (vv 0) (aD sD (aD (vv 1) nD)) kNil))) (opD (oAdd rfl) sD (bD (cRepr rfl hgd (ru5 hr)) b_repr bt_repr (aD (vv 1) nD))) (nomark _))
  (ss1 (sRet bD0))
  ss0) (ssC (sIf (cmT (oNe rfl (ru hr)) (lamD (kb := 13) L__law_error (fun _ => hgd) rfl rfl tk TB rfl hmT hu hr (by decide) (by decide) (LamX.lamS_by (by rfl)) rfl (fun _ _ _ _ _ => rfl) (fun A2 o2 s2 H2 E2 f2 c2 hr tkL => (callH H__law_store 0 rfl rfl hr (by decide) rfl tkL (aD (vv 0) (aD (vv 1) (aD (opD oPow iD iD) nD))) kNil))) (opD (oAdd rfl) sD (bD (cRepr rfl hgd (ru5 hr)) b_repr bt_repr (aD (vv 1) nD))) (nomark _))
  (ss1 (sRet bD0))
  ss0) (ssC (sIf (cmT (oNe rfl (ru hr)) (lamD (kb := 13) L__law_error (fun _ => hgd) rfl rfl tk TB rfl hmT hu hr (by decide) (by decide) (LamX.lamS_by (by rfl)) rfl (fun _ _ _ _ _ => rfl) (fun A2 o2 s2 H2 E2 f2 c2 hr tkL => (callH H__law_store 0 rfl rfl hr (by decide) rfl tkL (aD (vv 0) (aD sD (aD (vv 1) nD))) kNil))) (opD (oAdd rfl) sD (bD (cRepr rfl hgd (ru5 hr)) b_repr bt_repr (aD (vv 1) nD))) (nomark _))
  (ss1 (sRet bD0))
  ss0) (ss1 (sRet bD0))))))
  · simp only [List.mem_cons, List.not_mem_nil, or_false] at hb
    rcases hb with rfl
    · exact bnN F 2 [] [0, 1] fun _ _ _ _ _ _ us ws h1 h2 => match us, h1, ws, h2 with | [_, _], _, [], _ => rfl
theorem sc_Table_xcontains : FnScope ["self", "key"] ["self", "key"] (defScope (clsStmt (top 17) 2)) := ⟨rfl, rfl, rfl, by decide +kernel, rfl, by decide +kernel, by decide +kernel⟩
theorem ok_Table_xcontains {P : Program} {w : World} {mg : Str → Option Value} {base : Heap} {W : Wd} {f : Addr} {fd : FuncData} (hW : W.ct = ct0) (hN : W.fn = fn0) (F : FnP W (clsStmt (top 17) 2) "__contains__" "Table.__contains__" [] [] f fd) (H_is_item : Has P w mg base W 6 "is_item" ["thing"] 1 f_is_item [(1, [], [0], [])]) : FnB P w mg base W 8 f fd ["self", "key"] 2 f_Table_xcontains [(2, [], [0, 1], [])] := by
  have nd : (["self", "key"] : List Str).Nodup := sc_Table_xcontains.nd
  refine ⟨F.kp, fnD F sc_Table_xcontains rfl fun cdv A outer s H E hr tk => ?_, fun b hb => ?_⟩
  · exact (ss1 (sRet (andVD (callH H_is_item 0 rfl rfl hr (by decide) rfl tk (aD (vv 1) nD) kNil) (oneVD (cmD (oIn rfl (ru5 hr)) (vv 1) (fldD rfl (fnx hN (i := 0) rfl) (vv 0)) rfl)))))
  · simp only [List.mem_cons, List.not_mem_nil, or_false] at hb
    rcases hb with rfl
    · exact bnN F 2 [] [0, 1] fun _ _ _ _ _ _ us ws h1 h2 => match us, h1, ws, h2 with | [_, _], _, [], _ => rfl
theorem sc_Table_get : FnScope ["self", "key", "default"] ["self", "key", "default"] (defScope (clsStmt (top 17) 14)) := ⟨rfl, rfl, rfl, by decide +kernel, rfl, by decide +kernel, by decide +kernel⟩
theorem ok_Table_get {P : Program} {w : World} {mg : Str → Option Value} {base : Heap} {W : Wd} {f : Addr} {fd : FuncData} (hW : W.ct = ct0) (hN : W.fn = fn0) (F : FnP W (clsStmt (top 17) 14) "get" "Table.get" [.non] [] f fd) (O_Table_Table_xcontains : HasO P w mg base W 8 0 "__contains__" ["self", "key"] 2 f_Table_xcontains) : FnB P w mg base W 10 f fd ["self", "key", "default"] 3 f_Table_get [(2, [], [0, 1, 2], [.non]), (3, [], [0, 1, 2], [.non])] := by
  have nd : (["self", "key", "default"] : List Str).Nodup := sc_Table_get.nd
  refine ⟨F.kp, fnD F sc_Table_get rfl fun cdv A outer s H E hr tk => ?_, fun b hb => ?_⟩
  · exact (ss1 (sRet (ifD (cmpXT (inX O_Table_Table_xcontains hr (by decide) rfl tk) (vv 1) (vv 0) rfl) (ixD (xIdx rfl (ru1 hr)) (fldD rfl (fnx hN (i := 0) rfl) (vv 0)) (vv 1) fun _ _ => rfl) (vv 2))))
  · simp only [List.mem_cons, List.not_mem_nil, or_false] at hb
    rcases hb with rfl | rfl
    · exact bnP F 2 [] [0, 1, 2] (by simp) (fun io H => .cons (.non) (.nil)) fun _ _ _ _ _ _ _ us its ws h1 h2 h3 => match us, h1, its, h2, ws, h3 with | [_, _], _, [_], _, [], _ => ⟨_, rfl, rfl⟩
    · exact bnP F 3 [] [0, 1, 2] (by simp) (fun io H => .cons (.non) (.nil)) fun _ _ _ _ _ _ _ us its ws h1 h2 h3 => match us, h1, its, h2, ws, h3 with | [_, _, _], _, [_], _, [], _ => ⟨_, rfl, rfl⟩
theorem sc_Table_xgetitem : FnScope ["self", "key"] ["self", "key"] (defScope (clsStmt (top 17) 3)) := ⟨rfl, rfl, rfl, by decide +kernel, rfl, by decide +kernel, by decide +kernel⟩
theorem ok_Table_xgetitem {P : Program} {w : World} {mg : Str → Option Value} {base : Heap} {W : Wd} {f : Addr} {fd : FuncData} (hW : W.ct = ct0) (hN : W.fn = fn0) (F : FnP W (clsStmt (top 17) 3) "__getitem__" "Table.__getitem__" [] [] f fd) (H_is_item : Has P w mg base W 6 "is_item" ["thing"] 1 f_is_item [(1, [], [0], [])]) (XI_NoKey : HasXI P w mg base W 3 4 "NoKey") : FnB P w mg base W 8 f fd ["self", "key"] 2 f_Table_xgetitem [(2, [], [0, 1], [])] := by
  have nd : (["self", "key"] : List Str).Nodup := sc_Table_xgetitem.nd
  refine ⟨F.kp, fnD F sc_Table_xgetitem rfl fun cdv A outer s H E hr tk => ?_, fun b hb => ?_⟩
  · exact (ssC (sIf (ptW (orD (notD (tstD (callH H_is_item 0 rfl rfl hr (by decide) rfl tk (aD (vv 1) nD) kNil))) (or1D (cmT (oNotIn rfl (ru5 hr)) (vv 1) (fldD rfl (fnx hN (i := 0) rfl) (vv 0)) rfl))))
  (ss1 (sRaiseI XI_NoKey hr (by decide) rfl rfl tk (vv 1)))
  ss0) (ss1 (sRet (ixD (xIdx rfl (ru1 hr)) (fldD rfl (fnx hN (i := 0) rfl) (vv 0)) (vv 1) fun _ _ => rfl))))
  · simp only [List.mem_cons, List.not_mem_nil, or_false] at hb
    rcases hb with rfl
    · exact bnN F 2 [] [0, 1] fun _ _ _ _ _ _ us ws h1 h2 => match us, h1, ws, h2 with | [_, _], _, [], _ => rfl
theorem sc_Table_drop : FnScope ["self", "key"] ["self", "key"] (defScope (clsStmt (top 17) 11)) := ⟨rfl, rfl, rfl, by decide +kernel, rfl, by decide +kernel, by decide +kernel⟩
theorem ok_Table_drop {P : Program} {w : World} {mg : Str → Option Value} {base : Heap} {W : Wd} {f : Addr} {fd : FuncData} (hW : W.ct = ct0) (hN : W.fn = fn0) (F : FnP W (clsStmt (top 17) 11) "drop" "Table.drop" [] [] f fd)  : FnB P w mg base W 2 f fd ["self", "key"] 2 f_Table_drop [(2, [], [0, 1], [])] := by
  have nd : (["self", "key"] : List Str).Nodup := sc_Table_drop.nd
  refine ⟨F.kp, fnD F sc_Table_drop rfl fun cdv A outer s H E hr tk => ?_, fun b hb => ?_⟩
  · exact (ssC (sExpr (pop1D (fldD rfl (fnx hN (i := 1) rfl) (vv 0)) (vv 1))) (ss1 (sRet (pop1D (fldD rfl (fnx hN (i := 0) rfl) (vv 0)) (vv 1)))))
  · simp only [List.mem_cons, List.not_mem_nil, or_false] at hb
    rcases hb with rfl
    · exact bnN F 2 [] [0, 1] fun _ _ _ _ _ _ us ws h1 h2 => match us, h1, ws, h2 with | [_, _], _, [], _ => rfl
theorem sc_Table_delete : FnScope ["self", "key"] ["self", "key"] (defScope (clsStmt (top 17) 15)) := ⟨rfl, rfl, rfl, by decide +kernel, rfl, by decide +kernel, by decide +kernel⟩
theorem ok_Table_delete {P : Program} {w : World} {mg : Str → Option Value} {base : Heap} {W : Wd} {f : Addr} {fd : FuncData} (hW : W.ct = ct0) (hN : W.fn = fn0) (F : FnP W (clsStmt (top 17) 15) "delete" "Table.delete" [] [] f fd) (O_Table_Table_xcontains : HasO P w mg base W 8 0 "__contains__" ["self", "key"] 2 f_Table_xcontains) (XI_NoKey : HasXI P w mg base W 3 4 "NoKey") (M_Table_Table_drop : HasM P w mg base W 2 0 "drop" ["self", "key"] 2 f_Table_drop [(2, [], [0, 1], [])]) : FnB P w mg base W 10 f fd ["self", "key"] 2 f_Table_delete [(2, [], [0, 1], [])] := by
  have nd : (["self", "key"] : List Str).Nodup := sc_Table_delete.nd
  refine ⟨F.kp, fnD F sc_Table_delete rfl fun cdv A outer s H E hr tk => ?_, fun b hb => ?_⟩
  · exact (ssC (sIf (cmpXT (ninX O_Table_Table_xcontains hr (by decide) rfl tk) (vv 1) (vv 0) rfl)
  (ss1 (sRaiseI XI_NoKey hr (by decide) rfl rfl tk (vv 1)))
  ss0) (ss1 (sRet (methD M_Table_Table_drop 0 rfl rfl hr (by decide) rfl (fnn hN (by decide)) tk (vv 0) (aD (vv 1) nD) kNil))))
  · simp only [List.mem_cons, List.not_mem_nil, or_false] at hb
    rcases hb with rfl
    · exact bnN F 2 [] [0, 1] fun _ _ _ _ _ _ us ws h1 h2 => match us, h1, ws, h2 with | [_, _], _, [], _ => rfl
theorem sc__law_keys_right : FnScope ["_law_table", "_law_odd_here", "_law_due"] ["_law_table", "_law_odd_here"] (defScope (top 27)) := ⟨rfl, rfl, rfl, by decide +kernel, rfl, by decide +kernel, by decide +kernel⟩
theorem ok__law_keys_right {P : Program} {w : World} {mg : Str → Option Value} {base : Heap} {W : Wd} {f : Addr} {fd : FuncData} {cL pL : Addr} (TB : LamX.TabB base mg cL pL) (hcd : fd.code = .ref cL) (hmT : (pL, (("_law_keys_right" : Str) ++ (".<locals>." : Str) ++ ("<lambda>" : Str))) ∈ W.T) (hu : ∀ p ∈ W.T, p.1 = pL → p.2 = (("_law_keys_right" : Str) ++ (".<locals>." : Str) ++ ("<lambda>" : Str))) (hW : W.ct = ct0) (hN : W.fn = fn0) (F : FnP W (top 27) "_law_keys_right" "_law_keys_right" [] [] f fd) (b_repr : mg "repr" = none) (O_Table_Table_xcontains : HasO P w mg base W 8 0 "__contains__" ["self", "key"] 2 f_Table_xcontains) (M_Table_Table_get : HasM P w mg base W 10 0 "get" ["self", "key", "default"] 3 f_Table_get [(2, [], [0, 1, 2], [.non]), (3, [], [0, 1, 2], [.non])]) (L__law_error : HasL P w mg base W 2 "_law_error" true f__law_error) (O_Table_Table_xgetitem : HasO P w mg base W 8 0 "__getitem__" ["self", "key"] 2 f_Table_xgetitem) (M_Table_Table_delete : HasM P w mg base W 10 0 "delete" ["self", "key"] 2 f_Table_delete [(2, [], [0, 1], [])]) : FnBG P w mg base W 15 f fd ["_law_table", "_law_odd_here"] 2 f__law_keys_right [(2, [], [0, 1], [])] := by
  have nd : (["_law_table", "_law_odd_here", "_law_due"] : List Str).Nodup := sc__law_keys_right.nd
  refine ⟨F.kp, fnDLG F sc__law_keys_right rfl hcd fun A outer s H E hgd hr tk => ?_, fun b hb => ?_⟩
  · exact (ssC (sSet nd (i := 2) rfl (by first | exact .inl rfl | exact .inr rfl) (opD (oAdd rfl) sD (bD (cRepr rfl hgd (ru5 hr)) b_repr bt_repr (aD (vv 1) nD))) trivial) (ssC (sIf (ptW (orD (cmpXT (inX O_Table_Table_xcontains hr (by decide) rfl tk) (vv 1) (vv 0) rfl) (orD (cmT oIsNot (methD M_Table_Table_get 0 rfl rfl hr (by decide) rfl (fnn hN (by decide)) tk (vv 0) (aD (vv 1) nD) kNil) nD0 (nomark _)) (or1D (cmT (oNe rfl (ru hr)) (methD M_Table_Table_get 1 rfl rfl hr (by decide) rfl (fnn hN (by decide)) tk (vv 0) (aD (vv 1) (aD iD nD)) kNil) iD (nomark _))))))
  (ss1 (sRet bD0))
  ss0) (ssC (sIf (cmT (oNe rfl (ru hr)) (lamD (kb := 9) L__law_error (fun _ => hgd) rfl rfl tk TB rfl hmT hu hr (by decide) (by decide) (LamX.lamS_by (by rfl)) rfl (fun _ _ _ _ _ => rfl) (fun A2 o2 s2 H2 E2 f2 c2 hr tkL => (ixXD (ixX O_Table_Table_xgetitem hr (by decide) rfl tkL) (vv 0) (vv 1)))) (vv 2) (nomark _))
  (ss1 (sRet bD0))
  ss0) (ss1 (sRet (cmD (oEq rfl (ru hr)) (lamD (kb := 11) L__law_error (fun _ => hgd) rfl rfl tk TB rfl hmT hu hr (by decide) (by decide) (LamX.lamS_by (by rfl)) rfl (fun _ _ _ _ _ => rfl) (fun A2 o2 s2 H2 E2 f2 c2 hr tkL => (methD M_Table_Table_delete 0 rfl rfl hr (by decide) rfl (fnn hN (by decide)) tkL (vv 0) (aD (vv 1) nD) kNil))) (vv 2) (nomark _)))))))
  · simp only [List.mem_cons, List.not_mem_nil, or_false] at hb
    rcases hb with rfl
    · exact bnN F 2 [] [0, 1] fun _ _ _ _ _ _ us ws h1 h2 => match us, h1, ws, h2 with | [_, _], _, [], _ => rfl
theorem sc_Table_to_end : FnScope ["self", "key", "last"] ["self", "key", "last"] (defScope (clsStmt (top 17) 19)) := ⟨rfl, rfl, rfl, by decide +kernel, rfl, by decide +kernel, by decide +kernel⟩
theorem ok_Table_to_end {P : Program} {w : World} {mg : Str → Option Value} {base : Heap} {W : Wd} {f : Addr} {fd : FuncData} (hW : W.ct = ct0) (hN : W.fn = fn0) (F : FnP W (clsStmt (top 17) 19) "to_end" "Table.to_end" [] [("last", (.bl true))] f fd) (O_Table_Table_xcontains : HasO P w mg base W 8 0 "__contains__" ["self", "key"] 2 f_Table_xcontains) (XI_NoKey : HasXI P w mg base W 3 4 "NoKey") : FnB P w mg base W 10 f fd ["self", "key", "last"] 3 f_Table_to_end [(2, [], [0, 1, 2], [(.bl true)]), (2, ["last"], [0, 1, 2], [])] := by
  have nd : (["self", "key", "last"] : List Str).Nodup := sc_Table_to_end.nd
  refine ⟨F.kp, fnD F sc_Table_to_end rfl fun cdv A outer s H E hr tk => ?_, fun b hb => ?_⟩
  · exact (ssC (sIf (cmpXT (ninX O_Table_Table_xcontains hr (by decide) rfl tk) (vv 1) (vv 0) rfl)
  (ss1 (sRaiseI XI_NoKey hr (by decide) rfl rfl tk (vv 1)))
  ss0) (ss1 (sIf (tstD (vv 2))
  (ssC (sPut hr (fldD rfl (fnx hN (i := 1) rfl) (vv 0)) (vv 1) (fldD rfl (fnx hN (i := 3) rfl) (vv 0))) (ss1 (sAugF inAdd rfl (fnx hN (i := 3) rfl) (vv 0) iD)))
  (ssC (sAugF inSub rfl (fnx hN (i := 2) rfl) (vv 0) iD) (ss1 (sPut hr (fldD rfl (fnx hN (i := 1) rfl) (vv 0)) (vv 1) (fldD rfl (fnx hN (i := 2) rfl) (vv 0))))))))
  · simp only [List.mem_cons, List.not_mem_nil, or_false] at hb
    rcases hb with rfl | rfl
    · exact bnK F 2 [] [("last", (.bl true))] [0, 1, 2] (by simp) (by simp) (fun io H => .cons (.bl _) (.nil)) fun _ _ _ _ _ _ us mv ws h1 h2 h3 => match us, h1, mv, h2, ws, h3 with | [_, _], _, [_], _, [], _ => ⟨_, _, _, _, _, _, rfl, rfl, rfl⟩
    · exact bnN F 2 ["last"] [0, 1, 2] fun _ _ _ _ _ _ us ws h1 h2 => match us, h1, ws, h2 with | [_, _], _, [_], _ => rfl
theorem sc__law_ends_right : FnScope ["_law_table", "_law_odd_here", "_law_due"] ["_law_table", "_law_odd_here"] (defScope (top 28)) := ⟨rfl, rfl, rfl, by decide +kernel, rfl, by decide +kernel, by decide +kernel⟩
theorem ok__law_ends_right {P : Program} {w : World} {mg : Str → Option Value} {base : Heap} {W : Wd} {f : Addr} {fd : FuncData} {cL pL : Addr} (TB : LamX.TabB base mg cL pL) (hcd : fd.code = .ref cL) (hmT : (pL, (("_law_ends_right" : Str) ++ (".<locals>." : Str) ++ ("<lambda>" : Str))) ∈ W.T) (hu : ∀ p ∈ W.T, p.1 = pL → p.2 = (("_law_ends_right" : Str) ++ (".<locals>." : Str) ++ ("<lambda>" : Str))) (hW : W.ct = ct0) (hN : W.fn = fn0) (F : FnP W (top 28) "_law_ends_right" "_law_ends_right" [] [] f fd) (b_repr : mg "repr" = none) (L__law_error : HasL P w mg base W 2 "_law_error" true f__law_error) (M_Table_Table_to_end : HasM P w mg base W 10 0 "to_end" ["self", "key", "last"] 3 f_Table_to_end [(2, [], [0, 1, 2], [(.bl true)]), (2, ["last"], [0, 1, 2], [])]) : FnBG P w mg base W 15 f fd ["_law_table", "_law_odd_here"] 2 f__law_ends_right [(2, [], [0, 1], [])] := by
  have nd : (["_law_table", "_law_odd_here", "_law_due"] : List Str).Nodup := sc__law_ends_right.nd
  refine ⟨F.kp, fnDLG F sc__law_ends_right rfl hcd fun A outer s H E hgd hr tk => ?_, fun b hb => ?_⟩
  · exact (ssC (sSet nd (i := 2) rfl (by first | exact .inl rfl | exact .inr rfl) (opD (oAdd rfl) sD (bD (cRepr rfl hgd (ru5 hr)) b_repr bt_repr (aD (vv 1) nD))) trivial) (ssC (sIf (cmT (oNe rfl (ru hr)) (lamD (kb := 11) L__law_error (fun _ => hgd) rfl rfl tk TB rfl hmT hu hr (by decide) (by decide) (LamX.lamS_by (by rfl)) rfl (fun _ _ _ _ _ => rfl) (fun A2 o2 s2 H2 E2 f2 c2 hr tkL => (methD M_Table_Table_to_end 0 rfl rfl hr (by decide) rfl (fnn hN (by decide)) tkL (vv 0) (aD (vv 1) nD) kNil))) (vv 2) (nomark _))
  (ss1 (sRet bD0))
  ss0) (ss1 (sRet (cmD (oEq rfl (ru hr)) (lamD (kb := 11) L__law_error (fun _ => hgd) rfl rfl tk TB rfl hmT hu hr (by decide) (by decide) (LamX.lamS_by (by rfl)) rfl (fun _ _ _ _ _ => rfl) (fun A2 o2 s2 H2 E2 f2 c2 hr tkL => (methD M_Table_Table_to_end 1 rfl rfl hr (by decide) rfl (fnn hN (by decide)) tkL (vv 0) (aD (vv 1) nD) (kCons bD0 kNil)))) (vv 2) (nomark _))))))
  · simp only [List.mem_cons, List.not_mem_nil, or_false] at hb
    rcases hb with rfl
    · exact bnN F 2 [] [0, 1] fun _ _ _ _ _ _ us ws h1 h2 => match us, h1, ws, h2 with | [_, _], _, [], _ => rfl
theorem sc_Table_update : FnScope ["self", "pairs", "key", "value"] ["self", "pairs"] (defScope (clsStmt (top 17) 20)) := ⟨rfl, rfl, rfl, by decide +kernel, rfl, by decide +kernel, by decide +kernel⟩
theorem ok_Table_update {P : Program} {w : World} {mg : Str → Option Value} {base : Heap} {W : Wd} {f : Addr} {fd : FuncData} (hW : W.ct = ct0) (hN : W.fn = fn0) (F : FnP W (clsStmt (top 17) 20) "update" "Table.update" [] [] f fd) (H_pairs_of : Has P w mg base W 10 "pairs_of" ["thing"] 1 f_pairs_of [(1, [], [0], [])]) (M_Table_Table_enter : HasM P w mg base W 2 0 "enter" ["self", "key", "value"] 3 f_Table_enter [(3, [], [0, 1, 2], [])]) : FnB P w mg base W 12 f fd ["self", "pairs"] 2 f_Table_update [(2, [], [0, 1], [])] := by
  have nd : (["self", "pairs", "key", "value"] : List Str).Nodup := sc_Table_update.nd
  refine ⟨F.kp, fnD F sc_Table_update rfl fun cdv A outer s H E hr tk => ?_, fun b hb => ?_⟩
  · exact (ss1 (sFor (passes_of rfl) rfl (srcD rfl (callH H_pairs_of 0 rfl rfl hr (by decide) rfl tk (aD (vv 1) nD) kNil)) (gT rfl rfl (gsC anyC_ok (gN nd rfl (by first | exact .inl rfl | exact .inr rfl) trivial (fun _ _ => trivial)) (gsC anyC_ok (gN nd rfl (by first | exact .inl rfl | exact .inr rfl) trivial (fun _ _ => trivial)) (gs0 anyC_ok))) (dgC_len (dgC_len dg0_len)))
  (ss1 (sExpr (methD M_Table_Table_enter 0 rfl rfl hr (by decide) rfl (fnn hN (by decide)) tk (vv 0) (aD (vv 2) (aD (vv 3) nD)) kNil)))))
  · simp only [List.mem_cons, List.not_mem_nil, or_false] at hb
    rcases hb with rfl
    · exact bnN F 2 [] [0, 1] fun _ _ _ _ _ _ us ws h1 h2 => match us, h1, ws, h2 with | [_, _], _, [], _ => rfl
theorem sc__law_pairs_right : FnScope ["_law_table", "_law_odd_here", "_law_some", "_law_thing"] ["_law_table", "_law_odd_here"] (defScope (top 29)) := ⟨rfl, rfl, rfl, by decide +kernel, rfl, by decide +kernel, by decide +kernel⟩
theorem ok__law_pairs_right {P : Program} {w : World} {mg : Str → Option Value} {base : Heap} {W : Wd} {f : Addr} {fd : FuncData} {cL pL : Addr} (TB : LamX.TabB base mg cL pL) (hcd : fd.code = .ref cL) (hmT : (pL, (("_law_pairs_right" : Str) ++ (".<locals>." : Str) ++ ("<lambda>" : Str))) ∈ W.T) (hu : ∀ p ∈ W.T, p.1 = pL → p.2 = (("_law_pairs_right" : Str) ++ (".<locals>." : Str) ++ ("<lambda>" : Str))) (hW : W.ct = ct0) (hN : W.fn = fn0) (F : FnP W (top 29) "_law_pairs_right" "_law_pairs_right" [] [] f fd) (L__law_error : HasL P w mg base W 2 "_law_error" true f__law_error) (M_Table_Table_update : HasM P w mg base W 12 0 "update" ["self", "pairs"] 2 f_Table_update [(2, [], [0, 1], [])]) (C_Table : HasC P w mg base W 12 0 "Table" ["self", "pairs"] 2 f_Table_xinit [(2, [], [0, 1], [(.tup [])]), (1, [], [0, 1], [(.tup [])])]) : FnBG P w mg base W 17 f fd ["_law_table", "_law_odd_here"] 2 f__law_pairs_right [(2, [], [0, 1], [])] := by
  have nd : (["_law_table", "_law_odd_here", "_law_some", "_law_thing"] : List Str).Nodup := sc__law_pairs_right.nd
  refine ⟨F.kp, fnDLG F sc__law_pairs_right rfl hcd fun A outer s H E hgd hr tk => ?_, fun b hb => ?_⟩
  · exact (ssC (sSet nd (i := 2) rfl (by first | exact .inl rfl | exact .inr rfl) (lstD (aD nD0 (aD iD (aD bD0 (aD sD (aD sD (aD (lstD (aD (vv 1) nD)) (aD (tupD (aD sD (aD iD nD))) (aD (lstD (aD sD (aD iD nD))) (aD (lstD (aD (tupD (aD sD (aD iD (aD iD nD)))) nD)) (aD (lstD (aD (tupD (aD sD nD)) nD)) (aD (lstD (aD (lstD (aD sD (aD iD nD))) nD)) (aD (lstD (aD (tupD (aD sD (aD (vv 1) nD))) nD)) nD))))))))))))) trivial) (ssC (sFor (passes_of rfl) rfl (srcD rfl (opD (oAdd rfl) (vv 2) (lstD (aD (lstD (aD (tupD (aD (vv 1) (aD sD nD))) nD)) (aD (lstD (aD (tupD (aD sD (aD iD nD))) (aD (tupD (aD (vv 1) (aD (vv 1) nD))) nD))) (aD (tupD (aD (tupD (aD sD (aD iD nD))) (aD (vv 1) nD))) (aD (lstD (aD (tupD (aD sD (aD iD nD))) (aD (tupD (aD sD nD)) nD))) nD))))))) (gN nd rfl (by first | exact .inl rfl | exact .inr rfl) trivial (fun _ _ => trivial))
  (ssC (sIf (cmT (oNe rfl (ru hr)) (lamD (kb := 13) L__law_error (fun _ => hgd) rfl rfl tk TB rfl hmT hu hr (by decide) (by decide) (LamX.lamS_by (by rfl)) rfl (fun _ _ _ _ _ => rfl) (fun A2 o2 s2 H2 E2 f2 c2 hr tkL => (methD M_Table_Table_update 0 rfl rfl hr (by decide) rfl (fnn hN (by decide)) tkL (vv 0) (aD (vv 3) nD) kNil))) sD (nomark _))
  (ss1 (sRet bD0))
  ss0) (ss1 (sIf (cmT (oNe rfl (ru hr)) (lamD (kb := 13) L__law_error (fun _ => hgd) rfl rfl tk TB rfl hmT hu hr (by decide) (by decide) (LamX.lamS_by (by rfl)) rfl (fun _ _ _ _ _ => rfl) (fun A2 o2 s2 H2 E2 f2 c2 hr tkL => (makeC C_Table 0 rfl rfl hr (by decide) rfl tkL (aD (vv 3) nD) kNil))) sD (nomark _))
  (ss1 (sRet bD0))
  ss0)))) (ss1 (sRet bD0))))
  · simp only [List.mem_cons, List.not_mem_nil, or_false] at hb
    rcases hb with rfl
    · exact bnN F 2 [] [0, 1] fun _ _ _ _ _ _ us ws h1 h2 => match us, h1, ws, h2 with | [_, _], _, [], _ => rfl
theorem sc_Table_pop_at : FnScope ["self", "index", "key"] ["self", "index"] (defScope (clsStmt (top 17) 16)) := ⟨rfl, rfl, rfl, by decide +kernel, rfl, by decide +kernel, by decide +kernel⟩
theorem ok_Table_pop_at {P : Program} {w : World} {mg : Str → Option Value} {base : Heap} {W : Wd} {f : Addr} {fd : FuncData} (hW : W.ct = ct0) (hN : W.fn = fn0) (F : FnP W (clsStmt (top 17) 16) "pop_at" "Table.pop_at" [] [] f fd) (X0_Empty : HasX0 mg W 4 "Empty") (M_Table_Table_ordered : HasM P w mg base W 2 0 "ordered" ["self"] 1 f_Table_ordered [(1, [], [0], [])]) (M_Table_Table_drop : HasM P w mg base W 2 0 "drop" ["self", "key"] 2 f_Table_drop [(2, [], [0, 1], [])]) : FnB P w mg base W 4 f fd ["self", "index"] 2 f_Table_pop_at [(2, [], [0, 1], [])] := by
  have nd : (["self", "index", "key"] : List Str).Nodup := sc_Table_pop_at.nd
  refine ⟨F.kp, fnD F sc_Table_pop_at rfl fun cdv A outer s H E hr tk => ?_, fun b hb => ?_⟩
  · exact (ssC (sIf (cmT (oEqD (Nat.lt_of_succ_lt (ru1 hr))) (fldD rfl (fnx hN (i := 0) rfl) (vv 0)) d0D (nomark _))
  (ss1 (sRaise0 X0_Empty rfl rfl tk))
  ss0) (ssC (sSet nd (i := 2) rfl (by first | exact .inl rfl | exact .inr rfl) (ixD (xIdx rfl (ru1 hr)) (methD0 M_Table_Table_ordered 0 rfl rfl hr (by decide) rfl (fnn hN (by decide)) tk (vv 0) kNil) (vv 1) fun _ _ => rfl) trivial) (ss1 (sRet (tupD (aD (vv 2) (aD (methD M_Table_Table_drop 0 rfl rfl hr (by decide) rfl (fnn hN (by decide)) tk (vv 0) (aD (vv 2) nD) kNil) nD)))))))
  · simp only [List.mem_cons, List.not_mem_nil, or_false] at hb
    rcases hb with rfl
    · exact bnN F 2 [] [0, 1] fun _ _ _ _ _ _ us ws h1 h2 => match us, h1, ws, h2 with | [_, _], _, [], _ => rfl
theorem sc_Table_pop_last : FnScope ["self"] ["self"] (defScope (clsStmt (top 17) 17)) := ⟨rfl, rfl, rfl, by decide +kernel, rfl, by decide +kernel, by decide +kernel⟩
theorem ok_Table_pop_last {P : Program} {w : World} {mg : Str → Option Value} {base : Heap} {W : Wd} {f : Addr} {fd : FuncData} (hW : W.ct = ct0) (hN : W.fn = fn0) (F : FnP W (clsStmt (top 17) 17) "pop_last" "Table.pop_last" [] [] f fd) (M_Table_Table_pop_at : HasM P w mg base W 4 0 "pop_at" ["self", "index"] 2 f_Table_pop_at [(2, [], [0, 1], [])]) : FnB P w mg base W 6 f fd ["self"] 1 f_Table_pop_last [(1, [], [0], [])] := by
  have nd : (["self"] : List Str).Nodup := sc_Table_pop_last.nd
  refine ⟨F.kp, fnD F sc_Table_pop_last rfl fun cdv A outer s H E hr tk => ?_, fun b hb => ?_⟩
  · exact (ss1 (sRet (methD M_Table_Table_pop_at 0 rfl rfl hr (by decide) rfl (fnn hN (by decide)) tk (vv 0) (aD (unD uNeg iD) nD) kNil)))
  · simp only [List.mem_cons, List.not_mem_nil, or_false] at hb
    rcases hb with rfl
    · exact bnN F 1 [] [0] fun _ _ _ _ _ _ us ws h1 h2 => match us, h1, ws, h2 with | [_], _, [], _ => rfl
theorem sc_Table_pop_first : FnScope ["self"] ["self"] (defScope (clsStmt (top 17) 18)) := ⟨rfl, rfl, rfl, by decide +kernel, rfl, by decide +kernel, by decide +kernel⟩
theorem ok_Table_pop_first {P : Program} {w : World} {mg : Str → Option Value} {base : Heap} {W : Wd} {f : Addr} {fd : FuncData} (hW : W.ct = ct0) (hN : W.fn = fn0) (F : FnP W (clsStmt (top 17) 18) "pop_first" "Table.pop_first" [] [] f fd) (M_Table_Table_pop_at : HasM P w mg base W 4 0 "pop_at" ["self", "index"] 2 f_Table_pop_at [(2, [], [0, 1], [])]) : FnB P w mg base W 6 f fd ["self"] 1 f_Table_pop_first [(1, [], [0], [])] := by
  have nd : (["self"] : List Str).Nodup := sc_Table_pop_first.nd
  refine ⟨F.kp, fnD F sc_Table_pop_first rfl fun cdv A outer s H E hr tk => ?_, fun b hb => ?_⟩
  · exact (ss1 (sRet (methD M_Table_Table_pop_at 0 rfl rfl hr (by decide) rfl (fnn hN (by decide)) tk (vv 0) (aD iD nD) kNil)))
  · simp only [List.mem_cons, List.not_mem_nil, or_false] at hb
    rcases hb with rfl
    · exact bnN F 1 [] [0] fun _ _ _ _ _ _ us ws h1 h2 => match us, h1, ws, h2 with | [_], _, [], _ => rfl
theorem sc_law : FnScope ["_law_script", "_law_place", "_law_source_here", "_law_table", "_law_kept", "_law_turn", "_law_odd_here", "_law_absent", "_law_bare"] ["_law_script"] (defScope (top 30)) := ⟨rfl, rfl, rfl, by decide +kernel, rfl, by decide +kernel, by decide +kernel⟩
theorem ok_law {P : Program} {w : World} {mg : Str → Option Value} {base : Heap} {W : Wd} {f : Addr} {fd : FuncData} {cL pL : Addr} (TB : LamX.TabB base mg cL pL) (hcd : fd.code = .ref cL) (hmT : (pL, (("law" : Str) ++ (".<locals>." : Str) ++ ("<lambda>" : Str))) ∈ W.T) (hu : ∀ p ∈ W.T, p.1 = pL → p.2 = (("law" : Str) ++ (".<locals>." : Str) ++ ("<lambda>" : Str))) (hW : W.ct = ct0) (hN : W.fn = fn0) (F : FnP W (top 30) "law" "law" [] [] f fd) (b_range : mg "range" = none) (b_max : mg "max" = none) (b_min : mg "min" = none) (b_len : mg "len" = none) (H__law_source : Has P w mg base W 2 "_law_source" ["_law_script", "_law_place"] 2 f__law_source [(2, [], [0, 1], [])]) (C_Table : HasC P w mg base W 12 0 "Table" ["self", "pairs"] 2 f_Table_xinit [(2, [], [0, 1], [(.tup [])]), (1, [], [0, 1], [(.tup [])])]) (H__law_pairs : Has P w mg base W 6 "_law_pairs" ["_law_source_here", "_law_most"] 2 f__law_pairs [(2, [], [0, 1], [])]) (M_Table_Table_pairs : HasM P w mg base W 4 0 "pairs" ["self"] 1 f_Table_pairs [(1, [], [0], [])]) (H__law_odd : Has P w mg base W 4 "_law_odd" ["_law_source_here"] 1 f__law_odd [(1, [], [0], [])]) (H__law_items_right : HasG P w mg base W 17 "_law_items_right" ["_law_table", "_law_odd_here"] 2 f__law_items_right [(2, [], [0, 1], [])]) (H__law_keys_right : HasG P w mg base W 15 "_law_keys_right" ["_law_table", "_law_odd_here"] 2 f__law_keys_right [(2, [], [0, 1], [])]) (H__law_ends_right : HasG P w mg base W 15 "_law_ends_right" ["_law_table", "_law_odd_here"] 2 f__law_ends_right [(2, [], [0, 1], [])]) (H__law_pairs_right : HasG P w mg base W 17 "_law_pairs_right" ["_law_table", "_law_odd_here"] 2 f__law_pairs_right [(2, [], [0, 1], [])]) (L__law_error : HasL P w mg base W 2 "_law_error" true f__law_error) (M_Table_Table_pop_last : HasM P w mg base W 6 0 "pop_last" ["self"] 1 f_Table_pop_last [(1, [], [0], [])]) (M_Table_Table_pop_first : HasM P w mg base W 6 0 "pop_first" ["self"] 1 f_Table_pop_first [(1, [], [0], [])]) : FnG P w W.K mg base (L2.CX P w) 19 f fd ["_law_script"] (spD W 1 f_law) := by
  have nd : (["_law_script", "_law_place", "_law_source_here", "_law_table", "_law_kept", "_law_turn", "_law_odd_here", "_law_absent", "_law_bare"] : List Str).Nodup := sc_law.nd
  refine fnDLG F sc_law rfl hcd fun A outer s H E hgd hr tk => ?_
  exact (ssC (sFor (passes_of rfl) rfl (rg1D rfl b_range (aD (bD (cMax rfl) b_max bt_max (aD iD (aD (bD (cMin rfl) b_min bt_min (aD iD (aD (bD (cLen rfl) b_len bt_len (aD (vv 0) nD)) nD))) nD))) nD)) (gN nd rfl (by first | exact .inl rfl | exact .inr rfl) trivial (fun _ _ => trivial))
  (ssC (sSet nd (i := 2) rfl (by first | exact .inl rfl | exact .inr rfl) (callH H__law_source 0 rfl rfl hr (by decide) rfl tk (aD (vv 0) (aD (vv 1) nD)) kNil) trivial) (ssC (sSet nd (i := 3) rfl (by first | exact .inl rfl | exact .inr rfl) (makeC C_Table 0 rfl rfl hr (by decide) rfl tk (aD (callH H__law_pairs 0 rfl rfl hr (by decide) rfl tk (aD (vv 2) (aD iD nD)) kNil) nD) kNil) trivial) (ssC (sSet nd (i := 4) rfl (by first | exact .inl rfl | exact .inr rfl) (methD0 M_Table_Table_pairs 0 rfl rfl hr (by decide) rfl (fnn hN (by decide)) tk (vv 3) kNil) trivial) (ssC (sFor (passes_of rfl) rfl (rg1D rfl b_range (aD iD nD)) (gN nd rfl (by first | exact .inl rfl | exact .inr rfl) trivial (fun _ _ => trivial))
  (ssC (sSet nd (i := 6) rfl (by first | exact .inl rfl | exact .inr rfl) (callH H__law_odd 0 rfl rfl hr (by decide) rfl tk (aD (vv 2) nD) kNil) trivial) (ssC (sIf (ptW (orD (notD (tstD (callHG H__law_items_right hgd 0 rfl rfl hr (by decide) rfl tk (aD (vv 3) (aD (vv 6) nD)) kNil))) (or1D (notD (tstD (callHG H__law_keys_right hgd 0 rfl rfl hr (by decide) rfl tk (aD (vv 3) (aD (vv 6) nD)) kNil))))))
  (ss1 (sRet bD0))
  ss0) (ss1 (sIf (ptW (orD (notD (tstD (callHG H__law_ends_right hgd 0 rfl rfl hr (by decide) rfl tk (aD (vv 3) (aD (vv 6) nD)) kNil))) (orD (notD (tstD (callHG H__law_pairs_right hgd 0 rfl rfl hr (by decide) rfl tk (aD (vv 3) (aD (vv 6) nD)) kNil))) (or1D (cmT (oNe rfl (ru hr)) (methD0 M_Table_Table_pairs 0 rfl rfl hr (by decide) rfl (fnn hN (by decide)) tk (vv 3) kNil) (vv 4) (nomark _))))))
  (ss1 (sRet bD0))
  ss0))))) (ssC (sFor (passes_of rfl) rfl (srcD rfl (lstD (aD sD (aD iD (aD (unD uNeg iD) nD))))) (gN nd rfl (by first | exact .inl rfl | exact .inr rfl) trivial (fun _ _ => trivial))
  (ss1 (sIf (ptW (orD (notD (tstD (callHG H__law_keys_right hgd 0 rfl rfl hr (by decide) rfl tk (aD (vv 3) (aD (vv 7) nD)) kNil))) (or1D (notD (tstD (callHG H__law_ends_right hgd 0 rfl rfl hr (by decide) rfl tk (aD (vv 3) (aD (vv 7) nD)) kNil))))))
  (ss1 (sRet bD0))
  ss0))) (ssC (sSet nd (i := 8) rfl (by first | exact .inl rfl | exact .inr rfl) (makeC0 C_Table 1 rfl rfl hr (by decide) rfl tk kNil) trivial) (ssC (sIf (ptW (orD (cmT (oNe rfl (ru hr)) (lamD (kb := 7) L__law_error (fun _ => hgd) rfl rfl tk TB rfl hmT hu hr (by decide) (by decide) (LamX.lamS_by (by rfl)) rfl (fun _ _ _ _ _ => rfl) (fun A2 o2 s2 H2 E2 f2 c2 hr tkL => (methD0 M_Table_Table_pop_last 0 rfl rfl hr (by decide) rfl (fnn hN (by decide)) tkL (vv 8) kNil))) sD (nomark _)) (or1D (cmT (oNe rfl (ru hr)) (methD0 M_Table_Table_pairs 0 rfl rfl hr (by decide) rfl (fnn hN (by decide)) tk (vv 8) kNil) (lstD nD) (nomark _)))))
  (ss1 (sRet bD0))
  ss0) (ss1 (sIf (ptW (orD (cmT (oNe rfl (ru hr)) (lamD (kb := 7) L__law_error (fun _ => hgd) rfl rfl tk TB rfl hmT hu hr (by decide) (by decide) (LamX.lamS_by (by rfl)) rfl (fun _ _ _ _ _ => rfl) (fun A2 o2 s2 H2 E2 f2 c2 hr tkL => (methD0 M_Table_Table_pop_first 0 rfl rfl hr (by decide) rfl (fnn hN (by decide)) tkL (vv 8) kNil))) sD (nomark _)) (or1D (cmT (oNe rfl (ru hr)) (methD0 M_Table_Table_pairs 0 rfl rfl hr (by decide) rfl (fnn hN (by decide)) tk (vv 3) kNil) (vv 4) (nomark _)))))
  (ss1 (sRet bD0))
  ss0)))))))))) (ss1 (sRet bD0)))
theorem facts {P : Program} {w : World} {K : PySem.W.Frag} {h : Heap} {mg : Str → Option Value} {f : Addr} (X : K.In h) (G : h.Ns mainGlobals mg) (hfa : mg "law" = some (.ref f)) (c : SaysF fa fn xt K) (hl : ∀ l ∈ ls, LamAt K h (l K)) :
    ∃ fd : FuncData, (∀ (s : Shared) (v : Value), BindsTo s fd ⟨[v], []⟩ [("_law_script", v)]) ∧ ∀ base : Heap, K.In base → base.Ns mainGlobals mg → (∀ p ∈ csOf ls K, LamX.TabB base mg p.1 p.2) → FnG P w K mg base (L2.CX P w) 19 f fd ["_law_script"] (spLT (csOf ls K) K) := by
  obtain ⟨fd_I_BadItem, F_I_BadItem⟩ := c.def_ 35 (d := d_I_BadItem) rfl
  obtain ⟨fd_I_NoKey, F_I_NoKey⟩ := c.def_ 36 (d := d_I_NoKey) rfl
  obtain ⟨fd__law_source, F__law_source⟩ := c.def_ 0 (d := d__law_source) rfl
  obtain ⟨fd_Table_is_plain, F_Table_is_plain⟩ := c.def_ 1 (d := d_Table_is_plain) rfl
  obtain ⟨fd_Table_ordered, F_Table_ordered⟩ := c.def_ 2 (d := d_Table_ordered) rfl
  obtain ⟨fd_Table_pairs, F_Table_pairs⟩ := c.def_ 3 (d := d_Table_pairs) rfl
  obtain ⟨fd_is_word, F_is_word⟩ := c.def_ 4 (d := d_is_word) rfl
  obtain ⟨fd_is_integer, F_is_integer⟩ := c.def_ 5 (d := d_is_integer) rfl
  obtain ⟨fd_is_short, F_is_short⟩ := c.def_ 6 (d := d_is_short) rfl
  obtain ⟨fd_is_item, F_is_item⟩ := c.def_ 7 (d := d_is_item) rfl
  obtain ⟨fd_are_pairs, F_are_pairs⟩ := c.def_ 8 (d := d_are_pairs) rfl
  obtain ⟨fd_pairs_of, F_pairs_of⟩ := c.def_ 9 (d := d_pairs_of) rfl
  obtain ⟨fd_Table_xinit, F_Table_xinit⟩ := c.def_ 10 (d := d_Table_xinit) rfl
  obtain ⟨fd__law_draw, F__law_draw⟩ := c.def_ 11 (d := d__law_draw) rfl
  obtain ⟨fd__law_item, F__law_item⟩ := c.def_ 12 (d := d__law_item) rfl
  obtain ⟨fd__law_pairs, F__law_pairs⟩ := c.def_ 13 (d := d__law_pairs) rfl
  obtain ⟨fd__law_odd, F__law_odd⟩ := c.def_ 14 (d := d__law_odd) rfl
  obtain ⟨fd__law_error, F__law_error⟩ := c.def_ 15 (d := d__law_error) rfl
  obtain ⟨fd_Table_enter, F_Table_enter⟩ := c.def_ 16 (d := d_Table_enter) rfl
  obtain ⟨fd_Table_put, F_Table_put⟩ := c.def_ 17 (d := d_Table_put) rfl
  obtain ⟨fd_Table_xsetitem, F_Table_xsetitem⟩ := c.def_ 18 (d := d_Table_xsetitem) rfl
  obtain ⟨fd__law_store, F__law_store⟩ := c.def_ 19 (d := d__law_store) rfl
  obtain ⟨fd__law_items_right, F__law_items_right⟩ := c.def_ 20 (d := d__law_items_right) rfl
  obtain ⟨fd_Table_xcontains, F_Table_xcontains⟩ := c.def_ 21 (d := d_Table_xcontains) rfl
  obtain ⟨fd_Table_get, F_Table_get⟩ := c.def_ 22 (d := d_Table_get) rfl
  obtain ⟨fd_Table_xgetitem, F_Table_xgetitem⟩ := c.def_ 23 (d := d_Table_xgetitem) rfl
  obtain ⟨fd_Table_drop, F_Table_drop⟩ := c.def_ 24 (d := d_Table_drop) rfl
  obtain ⟨fd_Table_delete, F_Table_delete⟩ := c.def_ 25 (d := d_Table_delete) rfl
  obtain ⟨fd__law_keys_right, F__law_keys_right⟩ := c.def_ 26 (d := d__law_keys_right) rfl
  obtain ⟨fd_Table_to_end, F_Table_to_end⟩ := c.def_ 27 (d := d_Table_to_end) rfl
  obtain ⟨fd__law_ends_right, F__law_ends_right⟩ := c.def_ 28 (d := d__law_ends_right) rfl
  obtain ⟨fd_Table_update, F_Table_update⟩ := c.def_ 29 (d := d_Table_update) rfl
  obtain ⟨fd__law_pairs_right, F__law_pairs_right⟩ := c.def_ 30 (d := d__law_pairs_right) rfl
  obtain ⟨fd_Table_pop_at, F_Table_pop_at⟩ := c.def_ 31 (d := d_Table_pop_at) rfl
  obtain ⟨fd_Table_pop_last, F_Table_pop_last⟩ := c.def_ 32 (d := d_Table_pop_last) rfl
  obtain ⟨fd_Table_pop_first, F_Table_pop_first⟩ := c.def_ 33 (d := d_Table_pop_first) rfl
  obtain ⟨fd_law, F_law⟩ := c.def_ 34 (d := d_law) rfl
  have e := hfa.symm.trans (He.glo_ok X G (c.fact 0 (f := .glo "law") rfl))
  cases e
  have bl := FunD.bindsA (ps := ["_law_script"]) F_law fun _ _ _ _ _ _ us hl => match us, hl with | [_], _ => rfl
  refine ⟨fd_law, fun s v => bl s [v] rfl, fun base _ _ hTB => ?_⟩
  obtain ⟨W, hWe⟩ : ∃ W : Wd, W = ({ (mkWX K cs0 xs0 fn0 subs0 (by decide) (c.x 2 (f := wdXB cs0 xs0 fn0 subs0) rfl) (cdB_ok (c.x 0 (f := cdB) rfl)) (ckB_ok (c.x 1 (f := ckB) rfl))) with T := [(tabF K (codF K ((pDef "_law_items_right") K)), (("_law_items_right" : Str) ++ (".<locals>." : Str) ++ ("<lambda>" : Str))), (tabF K (codF K ((pDef "_law_keys_right") K)), (("_law_keys_right" : Str) ++ (".<locals>." : Str) ++ ("<lambda>" : Str))), (tabF K (codF K ((pDef "_law_ends_right") K)), (("_law_ends_right" : Str) ++ (".<locals>." : Str) ++ ("<lambda>" : Str))), (tabF K (codF K ((pDef "_law_pairs_right") K)), (("_law_pairs_right" : Str) ++ (".<locals>." : Str) ++ ("<lambda>" : Str))), (tabF K (codF K ((pDef "law") K)), (("law" : Str) ++ (".<locals>." : Str) ++ ("<lambda>" : Str)))] } : Wd) := ⟨_, rfl⟩
  have hW : W.ct = ct0 := by rw [hWe] <;> rfl
  have hN : W.fn = fn0 := by rw [hWe] <;> rfl
  have hKW : W.K = K := by rw [hWe] <;> rfl
  have hWT : W.T = [(tabF K (codF K ((pDef "_law_items_right") K)), (("_law_items_right" : Str) ++ (".<locals>." : Str) ++ ("<lambda>" : Str))), (tabF K (codF K ((pDef "_law_keys_right") K)), (("_law_keys_right" : Str) ++ (".<locals>." : Str) ++ ("<lambda>" : Str))), (tabF K (codF K ((pDef "_law_ends_right") K)), (("_law_ends_right" : Str) ++ (".<locals>." : Str) ++ ("<lambda>" : Str))), (tabF K (codF K ((pDef "_law_pairs_right") K)), (("_law_pairs_right" : Str) ++ (".<locals>." : Str) ++ ("<lambda>" : Str))), (tabF K (codF K ((pDef "law") K)), (("law" : Str) ++ (".<locals>." : Str) ++ ("<lambda>" : Str)))] := by rw [hWe] <;> rfl
  have hc_Table : W.cl 0 = He.ga K "Table" := by rw [hWe] <;> rfl
  have hc_BadItem : W.cl 1 = He.ga K "BadItem" := by rw [hWe] <;> rfl
  have hc_BadPairs : W.cl 2 = He.ga K "BadPairs" := by rw [hWe] <;> rfl
  have hc_NoKey : W.cl 3 = He.ga K "NoKey" := by rw [hWe] <;> rfl
  have hc_Empty : W.cl 4 = He.ga K "Empty" := by rw [hWe] <;> rfl
  have hc_CountError : W.cl 5 = He.ga K "CountError" := by rw [hWe] <;> rfl
  have hcl : W.cl = clOf K (cs0 ++ xs0) := by rw [hWe] <;> rfl
  clear hWe
  subst hKW
  have ndT : ([(tabF W.K (codF W.K ((pDef "_law_items_right") W.K)), (("_law_items_right" : Str) ++ (".<locals>." : Str) ++ ("<lambda>" : Str))), (tabF W.K (codF W.K ((pDef "_law_keys_right") W.K)), (("_law_keys_right" : Str) ++ (".<locals>." : Str) ++ ("<lambda>" : Str))), (tabF W.K (codF W.K ((pDef "_law_ends_right") W.K)), (("_law_ends_right" : Str) ++ (".<locals>." : Str) ++ ("<lambda>" : Str))), (tabF W.K (codF W.K ((pDef "_law_pairs_right") W.K)), (("_law_pairs_right" : Str) ++ (".<locals>." : Str) ++ ("<lambda>" : Str))), (tabF W.K (codF W.K ((pDef "law") W.K)), (("law" : Str) ++ (".<locals>." : Str) ++ ("<lambda>" : Str)))].map (·.1)).Nodup := of_decide_eq_true (show decide _ = true from (c.x 3 (f := fun K => decide (([(tabF K (codF K ((pDef "_law_items_right") K)), (("_law_items_right" : Str) ++ (".<locals>." : Str) ++ ("<lambda>" : Str))), (tabF K (codF K ((pDef "_law_keys_right") K)), (("_law_keys_right" : Str) ++ (".<locals>." : Str) ++ ("<lambda>" : Str))), (tabF K (codF K ((pDef "_law_ends_right") K)), (("_law_ends_right" : Str) ++ (".<locals>." : Str) ++ ("<lambda>" : Str))), (tabF K (codF K ((pDef "_law_pairs_right") K)), (("_law_pairs_right" : Str) ++ (".<locals>." : Str) ++ ("<lambda>" : Str))), (tabF K (codF K ((pDef "law") K)), (("law" : Str) ++ (".<locals>." : Str) ++ ("<lambda>" : Str)))].map (·.1)).Nodup)) rfl))
  have XW : XWd W xt0 := xwB_ok hcl (by rw [hN]; exact (c.x 4 (f := xwB (cs0 ++ xs0) fn0 xt0) rfl))
  have X0_BadPairs : HasX0 mg W 2 "BadPairs" := x0B_ok PySem.F.excBase_ValueError hc_BadPairs (He.glo_ok X G (c.fact 1 (f := .glo "BadPairs") rfl)) (c.x 5 (f := x0B "BadPairs" [.type "ValueError", .type "Exception", .type "BaseException", .type "object"] "ValueError.__new__") rfl)
  have X0_Empty : HasX0 mg W 4 "Empty" := x0B_ok PySem.F.excBase_IndexError hc_Empty (He.glo_ok X G (c.fact 2 (f := .glo "Empty") rfl)) (c.x 6 (f := x0B "Empty" [.type "IndexError", .type "LookupError", .type "Exception", .type "BaseException", .type "object"] "IndexError.__new__") rfl)
  have XI_BadItem : HasXI P w mg base W 1 4 "BadItem" := xiB_ok PySem.DX.newF_ValueError hc_BadItem (He.glo_ok X G (c.fact 3 (f := .glo "BadItem") rfl)) (fnx hN rfl) (c.x 7 (f := xiB "BadItem" "given" (pMeth "BadItem" "__init__") [.type "ValueError", .type "Exception", .type "BaseException", .type "object"] "ValueError.__new__") rfl) (xi_init PySem.F.store_ValueError F_I_BadItem sc_I_BadItem (fun cdv A outer s H E => ps_xiS PySem.F.store_ValueError (vt 0) (vt 1))) (FunD.bindsA (ps := ["self", "given"]) F_I_BadItem fun _ _ _ _ _ _ us hl => match us, hl with | [_, _], _ => rfl)
  have XI_NoKey : HasXI P w mg base W 3 4 "NoKey" := xiB_ok PySem.DX.newF_KeyError hc_NoKey (He.glo_ok X G (c.fact 4 (f := .glo "NoKey") rfl)) (fnx hN rfl) (c.x 8 (f := xiB "NoKey" "given" (pMeth "NoKey" "__init__") PySem.DX.bmKey "LookupError.__new__") rfl) (xi_init PySem.DX.keyStore F_I_NoKey sc_I_NoKey (fun cdv A outer s H E => ps_xiS PySem.DX.keyStore (vt 0) (vt 1))) (FunD.bindsA (ps := ["self", "given"]) F_I_NoKey fun _ _ _ _ _ _ us hl => match us, hl with | [_, _], _ => rfl)
  have B__law_source := ok__law_source (P := P) (w := w) (mg := mg) (base := base) (W := W) hW hN F__law_source (He.free_ok X G (c.fact 5 (f := .free "len") rfl)) (He.free_ok X G (c.fact 6 (f := .free "abs") rfl)) (He.free_ok X G (c.fact 7 (f := .free "int") rfl))
  have B_Table_is_plain := ok_Table_is_plain (P := P) (w := w) (mg := mg) (base := base) (W := W) hW hN F_Table_is_plain 
  have B_Table_ordered := ok_Table_ordered (P := P) (w := w) (mg := mg) (base := base) (W := W) hW hN F_Table_ordered (He.free_ok X G (c.fact 8 (f := .free "sorted") rfl)) (He.free_ok X G (c.fact 7 (f := .free "int") rfl))
  have M_Table_Table_ordered : HasM P w mg base W 2 0 "ordered" ["self"] 1 f_Table_ordered [(1, [], [0], [])] := B_Table_ordered.meth (by rw [hc_Table]; exact methB_ok (c.x 9 (f := methB "Table" "ordered" (pMeth "Table" "ordered")) rfl))
  have B_Table_pairs := ok_Table_pairs (P := P) (w := w) (mg := mg) (base := base) (W := W) hW hN F_Table_pairs M_Table_Table_ordered
  have B_is_word := ok_is_word (P := P) (w := w) (mg := mg) (base := base) (W := W) hW hN F_is_word (He.free_ok X G (c.fact 9 (f := .free "isinstance") rfl)) (He.free_ok X G (c.fact 10 (f := .free "str") rfl)) (He.free_ok X G (c.fact 5 (f := .free "len") rfl)) (He.int_ok X G (c.fact 11 (f := .int "MOST_LETTERS" 6) rfl)) (He.free_ok X G (c.fact 12 (f := .free "all") rfl)) (He.str_ok X G (c.fact 13 (f := .str "LETTERS" "abcdefghijklmnopqrstuvwxyz") rfl))
  have B_is_integer := ok_is_integer (P := P) (w := w) (mg := mg) (base := base) (W := W) hW hN F_is_integer (He.free_ok X G (c.fact 9 (f := .free "isinstance") rfl)) (He.free_ok X G (c.fact 7 (f := .free "int") rfl)) (He.free_ok X G (c.fact 14 (f := .free "bool") rfl))
  have H_is_integer : Has P w mg base W 2 "is_integer" ["thing"] 1 f_is_integer [(1, [], [0], [])] := B_is_integer.has (He.glo_ok X G (c.fact 15 (f := .glo "is_integer") rfl))
  have B_is_short := ok_is_short (P := P) (w := w) (mg := mg) (base := base) (W := W) hW hN F_is_short (He.free_ok X G (c.fact 6 (f := .free "abs") rfl)) H_is_integer
  have H_is_word : Has P w mg base W 2 "is_word" ["thing"] 1 f_is_word [(1, [], [0], [])] := B_is_word.has (He.glo_ok X G (c.fact 16 (f := .glo "is_word") rfl))
  have H_is_short : Has P w mg base W 4 "is_short" ["thing"] 1 f_is_short [(1, [], [0], [])] := B_is_short.has (He.glo_ok X G (c.fact 17 (f := .glo "is_short") rfl))
  have B_is_item := ok_is_item (P := P) (w := w) (mg := mg) (base := base) (W := W) hW hN F_is_item H_is_word H_is_short
  have H_is_item : Has P w mg base W 6 "is_item" ["thing"] 1 f_is_item [(1, [], [0], [])] := B_is_item.has (He.glo_ok X G (c.fact 20 (f := .glo "is_item") rfl))
  have B_are_pairs := ok_are_pairs (P := P) (w := w) (mg := mg) (base := base) (W := W) hW hN F_are_pairs (He.free_ok X G (c.fact 18 (f := .free "list") rfl)) (He.free_ok X G (c.fact 19 (f := .free "tuple") rfl)) (He.free_ok X G (c.fact 9 (f := .free "isinstance") rfl)) (He.free_ok X G (c.fact 12 (f := .free "all") rfl)) (He.free_ok X G (c.fact 5 (f := .free "len") rfl)) H_is_item
  have M_Table_Table_pairs : HasM P w mg base W 4 0 "pairs" ["self"] 1 f_Table_pairs [(1, [], [0], [])] := B_Table_pairs.meth (by rw [hc_Table]; exact methB_ok (c.x 10 (f := methB "Table" "pairs" (pMeth "Table" "pairs")) rfl))
  have H_are_pairs : Has P w mg base W 8 "are_pairs" ["thing"] 1 f_are_pairs [(1, [], [0], [])] := B_are_pairs.has (He.glo_ok X G (c.fact 23 (f := .glo "are_pairs") rfl))
  have B_pairs_of := ok_pairs_of (P := P) (w := w) (mg := mg) (base := base) (W := W) hW hN F_pairs_of (He.free_ok X G (c.fact 9 (f := .free "isinstance") rfl)) (by rw [hc_Table]; exact (He.glo_ok X G (c.fact 21 (f := .glo "Table") rfl))) (He.free_ok X G (c.fact 22 (f := .free "dict") rfl)) (He.free_ok X G (c.fact 18 (f := .free "list") rfl)) M_Table_Table_pairs H_are_pairs X0_BadPairs
  have M_Table_Table_is_plain : HasM P w mg base W 2 0 "is_plain" ["self"] 1 f_Table_is_plain [(1, [], [0], [])] := B_Table_is_plain.meth (by rw [hc_Table]; exact methB_ok (c.x 11 (f := methB "Table" "is_plain" (pMeth "Table" "is_plain")) rfl))
  have H_pairs_of : Has P w mg base W 10 "pairs_of" ["thing"] 1 f_pairs_of [(1, [], [0], [])] := B_pairs_of.has (He.glo_ok X G (c.fact 25 (f := .glo "pairs_of") rfl))
  have B_Table_xinit := ok_Table_xinit (P := P) (w := w) (mg := mg) (base := base) (W := W) (e0 := He.dflAt ("Table", some "__init__") 0 W.K) (etB_ok (p := He.dflAt ("Table", some "__init__") 0) (c.x 12 (f := etB (He.dflAt ("Table", some "__init__") 0)) rfl)) hW hN F_Table_xinit (He.free_ok X G (c.fact 18 (f := .free "list") rfl)) (He.free_ok X G (c.fact 24 (f := .free "enumerate") rfl)) (He.free_ok X G (c.fact 5 (f := .free "len") rfl)) M_Table_Table_is_plain H_pairs_of
  have B__law_draw := ok__law_draw (P := P) (w := w) (mg := mg) (base := base) (W := W) hW hN F__law_draw 
  have H__law_draw : Has P w mg base W 2 "_law_draw" ["_law_source_here", "_law_often"] 2 f__law_draw [(2, [], [0, 1], [])] := B__law_draw.has (He.glo_ok X G (c.fact 26 (f := .glo "_law_draw") rfl))
  have B__law_item := ok__law_item (P := P) (w := w) (mg := mg) (base := base) (W := W) hW hN F__law_item H__law_draw
  have H__law_item : Has P w mg base W 4 "_law_item" ["_law_source_here"] 1 f__law_item [(1, [], [0], [])] := B__law_item.has (He.glo_ok X G (c.fact 28 (f := .glo "_law_item") rfl))
  have B__law_pairs := ok__law_pairs (P := P) (w := w) (mg := mg) (base := base) (W := W) hW hN F__law_pairs (He.free_ok X G (c.fact 27 (f := .free "range") rfl)) H__law_draw H__law_item
  have B__law_odd := ok__law_odd (P := P) (w := w) (mg := mg) (base := base) (W := W) hW hN F__law_odd (He.free_ok X G (c.fact 5 (f := .free "len") rfl)) H__law_draw
  have XO_CountError : XOk W xt0 5 := xoB_ok hcl (c.x 13 (f := xoB (cs0 ++ xs0) xt0 5) rfl)
  have L__law_error := ok__law_error (P := P) (w := w) (mg := mg) (base := base) (W := W) hW hN F__law_error (He.glo_ok X G (c.fact 34 (f := .glo "_law_error") rfl)) (by rw [hc_Empty]; exact (He.glo_ok X G (c.fact 2 (f := .glo "Empty") rfl))) (He.free_ok X G (c.fact 9 (f := .free "isinstance") rfl)) (He.free_ok X G (c.fact 29 (f := .free "IndexError") rfl)) (by rw [hc_NoKey]; exact (He.glo_ok X G (c.fact 4 (f := .glo "NoKey") rfl))) (He.free_ok X G (c.fact 30 (f := .free "KeyError") rfl)) (He.free_ok X G (c.fact 31 (f := .free "repr") rfl)) (by rw [hc_BadPairs]; exact (He.glo_ok X G (c.fact 1 (f := .glo "BadPairs") rfl))) (by rw [hc_CountError]; exact (He.glo_ok X G (c.fact 32 (f := .glo "CountError") rfl))) (by rw [hc_BadItem]; exact (He.glo_ok X G (c.fact 3 (f := .glo "BadItem") rfl))) (He.free_ok X G (c.fact 33 (f := .free "ValueError") rfl)) XW XO_CountError
  have B_Table_enter := ok_Table_enter (P := P) (w := w) (mg := mg) (base := base) (W := W) hW hN F_Table_enter 
  have M_Table_Table_enter : HasM P w mg base W 2 0 "enter" ["self", "key", "value"] 3 f_Table_enter [(3, [], [0, 1, 2], [])] := B_Table_enter.meth (by rw [hc_Table]; exact methB_ok (c.x 14 (f := methB "Table" "enter" (pMeth "Table" "enter")) rfl))
  have B_Table_put := ok_Table_put (P := P) (w := w) (mg := mg) (base := base) (W := W) hW hN F_Table_put H_is_item XI_BadItem M_Table_Table_enter
  have M_Table_Table_put : HasM P w mg base W 8 0 "put" ["self", "key", "value"] 3 f_Table_put [(3, [], [0, 1, 2], [])] := B_Table_put.meth (by rw [hc_Table]; exact methB_ok (c.x 15 (f := methB "Table" "put" (pMeth "Table" "put")) rfl))
  have B_Table_xsetitem := ok_Table_xsetitem (P := P) (w := w) (mg := mg) (base := base) (W := W) hW hN F_Table_xsetitem M_Table_Table_put
  have O_Table_Table_xsetitem : HasO P w mg base W 10 0 "__setitem__" ["self", "key", "value"] 3 f_Table_xsetitem := B_Table_xsetitem.own (by rw [hc_Table]; exact methB_ok (c.x 16 (f := methB "Table" "__setitem__" (pMeth "Table" "__setitem__")) rfl)) (HasM.fnIn0 F_Table_xsetitem) 0 rfl
  have B__law_store := ok__law_store (P := P) (w := w) (mg := mg) (base := base) (W := W) hW hN F__law_store O_Table_Table_xsetitem
  have H__law_store : Has P w mg base W 12 "_law_store" ["_law_table", "_law_key", "_law_thing"] 3 f__law_store [(3, [], [0, 1, 2], [])] := B__law_store.has (He.glo_ok X G (c.fact 35 (f := .glo "_law_store") rfl))
  have B__law_items_right := ok__law_items_right (P := P) (w := w) (mg := mg) (base := base) (W := W) (cL := codF W.K ((pDef "_law_items_right") W.K)) (pL := tabF W.K (codF W.K ((pDef "_law_items_right") W.K))) (hTB (codF W.K ((pDef "_law_items_right") W.K), tabF W.K (codF W.K ((pDef "_law_items_right") W.K))) (List.mem_of_getElem? (i := 0) rfl)) (FunD.codeF F__law_items_right (hl _ (List.mem_of_getElem? (i := 0) rfl))) (by rw [hWT]; exact List.mem_of_getElem? (i := 0) rfl) (by rw [hWT]; exact tab_u ndT (List.mem_of_getElem? (i := 0) rfl)) hW hN F__law_items_right (He.free_ok X G (c.fact 31 (f := .free "repr") rfl)) L__law_error M_Table_Table_put H__law_store
  have B_Table_xcontains := ok_Table_xcontains (P := P) (w := w) (mg := mg) (base := base) (W := W) hW hN F_Table_xcontains H_is_item
  have O_Table_Table_xcontains : HasO P w mg base W 8 0 "__contains__" ["self", "key"] 2 f_Table_xcontains := B_Table_xcontains.own (by rw [hc_Table]; exact methB_ok (c.x 17 (f := methB "Table" "__contains__" (pMeth "Table" "__contains__")) rfl)) (HasM.fnIn0 F_Table_xcontains) 0 rfl
  have B_Table_get := ok_Table_get (P := P) (w := w) (mg := mg) (base := base) (W := W) hW hN F_Table_get O_Table_Table_xcontains
  have B_Table_xgetitem := ok_Table_xgetitem (P := P) (w := w) (mg := mg) (base := base) (W := W) hW hN F_Table_xgetitem H_is_item XI_NoKey
  have B_Table_drop := ok_Table_drop (P := P) (w := w) (mg := mg) (base := base) (W := W) hW hN F_Table_drop 
  have M_Table_Table_drop : HasM P w mg base W 2 0 "drop" ["self", "key"] 2 f_Table_drop [(2, [], [0, 1], [])] := B_Table_drop.meth (by rw [hc_Table]; exact methB_ok (c.x 18 (f := methB "Table" "drop" (pMeth "Table" "drop")) rfl))
  have B_Table_delete := ok_Table_delete (P := P) (w := w) (mg := mg) (base := base) (W := W) hW hN F_Table_delete O_Table_Table_xcontains XI_NoKey M_Table_Table_drop
  have M_Table_Table_get : HasM P w mg base W 10 0 "get" ["self", "key", "default"] 3 f_Table_get [(2, [], [0, 1, 2], [.non]), (3, [], [0, 1, 2], [.non])] := B_Table_get.meth (by rw [hc_Table]; exact methB_ok (c.x 19 (f := methB "Table" "get" (pMeth "Table" "get")) rfl))
  have O_Table_Table_xgetitem : HasO P w mg base W 8 0 "__getitem__" ["self", "key"] 2 f_Table_xgetitem := B_Table_xgetitem.own (by rw [hc_Table]; exact methB_ok (c.x 20 (f := methB "Table" "__getitem__" (pMeth "Table" "__getitem__")) rfl)) (HasM.fnIn0 F_Table_xgetitem) 0 rfl
  have M_Table_Table_delete : HasM P w mg base W 10 0 "delete" ["self", "key"] 2 f_Table_delete [(2, [], [0, 1], [])] := B_Table_delete.meth (by rw [hc_Table]; exact methB_ok (c.x 21 (f := methB "Table" "delete" (pMeth "Table" "delete")) rfl))
  have B__law_keys_right := ok__law_keys_right (P := P) (w := w) (mg := mg) (base := base) (W := W) (cL := codF W.K ((pDef "_law_keys_right") W.K)) (pL := tabF W.K (codF W.K ((pDef "_law_keys_right") W.K))) (hTB (codF W.K ((pDef "_law_keys_right") W.K), tabF W.K (codF W.K ((pDef "_law_keys_right") W.K))) (List.mem_of_getElem? (i := 1) rfl)) (FunD.codeF F__law_keys_right (hl _ (List.mem_of_getElem? (i := 1) rfl))) (by rw [hWT]; exact List.mem_of_getElem? (i := 1) rfl) (by rw [hWT]; exact tab_u ndT (List.mem_of_getElem? (i := 1) rfl)) hW hN F__law_keys_right (He.free_ok X G (c.fact 31 (f := .free "repr") rfl)) O_Table_Table_xcontains M_Table_Table_get L__law_error O_Table_Table_xgetitem M_Table_Table_delete
  have B_Table_to_end := ok_Table_to_end (P := P) (w := w) (mg := mg) (base := base) (W := W) hW hN F_Table_to_end O_Table_Table_xcontains XI_NoKey
  have M_Table_Table_to_end : HasM P w mg base W 10 0 "to_end" ["self", "key", "last"] 3 f_Table_to_end [(2, [], [0, 1, 2], [(.bl true)]), (2, ["last"], [0, 1, 2], [])] := B_Table_to_end.meth (by rw [hc_Table]; exact methB_ok (c.x 22 (f := methB "Table" "to_end" (pMeth "Table" "to_end")) rfl))
  have B__law_ends_right := ok__law_ends_right (P := P) (w := w) (mg := mg) (base := base) (W := W) (cL := codF W.K ((pDef "_law_ends_right") W.K)) (pL := tabF W.K (codF W.K ((pDef "_law_ends_right") W.K))) (hTB (codF W.K ((pDef "_law_ends_right") W.K), tabF W.K (codF W.K ((pDef "_law_ends_right") W.K))) (List.mem_of_getElem? (i := 2) rfl)) (FunD.codeF F__law_ends_right (hl _ (List.mem_of_getElem? (i := 2) rfl))) (by rw [hWT]; exact List.mem_of_getElem? (i := 2) rfl) (by rw [hWT]; exact tab_u ndT (List.mem_of_getElem? (i := 2) rfl)) hW hN F__law_ends_right (He.free_ok X G (c.fact 31 (f := .free "repr") rfl)) L__law_error M_Table_Table_to_end
  have B_Table_update := ok_Table_update (P := P) (w := w) (mg := mg) (base := base) (W := W) hW hN F_Table_update H_pairs_of M_Table_Table_enter
  have M_Table_Table_update : HasM P w mg base W 12 0 "update" ["self", "pairs"] 2 f_Table_update [(2, [], [0, 1], [])] := B_Table_update.meth (by rw [hc_Table]; exact methB_ok (c.x 23 (f := methB "Table" "update" (pMeth "Table" "update")) rfl))
  have C_Table : HasC P w mg base W 12 0 "Table" ["self", "pairs"] 2 f_Table_xinit [(2, [], [0, 1], [(.tup [])]), (1, [], [0, 1], [(.tup [])])] := B_Table_xinit.cls (by rw [hc_Table]; exact mkB_ok (c.x 24 (f := mkB "Table" (pMeth "Table" "__init__")) rfl)) (by rw [hc_Table]; exact (He.glo_ok X G (c.fact 21 (f := .glo "Table") rfl))) (by rw [hW] <;> rfl)
  have B__law_pairs_right := ok__law_pairs_right (P := P) (w := w) (mg := mg) (base := base) (W := W) (cL := codF W.K ((pDef "_law_pairs_right") W.K)) (pL := tabF W.K (codF W.K ((pDef "_law_pairs_right") W.K))) (hTB (codF W.K ((pDef "_law_pairs_right") W.K), tabF W.K (codF W.K ((pDef "_law_pairs_right") W.K))) (List.mem_of_getElem? (i := 3) rfl)) (FunD.codeF F__law_pairs_right (hl _ (List.mem_of_getElem? (i := 3) rfl))) (by rw [hWT]; exact List.mem_of_getElem? (i := 3) rfl) (by rw [hWT]; exact tab_u ndT (List.mem_of_getElem? (i := 3) rfl)) hW hN F__law_pairs_right L__law_error M_Table_Table_update C_Table
  have B_Table_pop_at := ok_Table_pop_at (P := P) (w := w) (mg := mg) (base := base) (W := W) hW hN F_Table_pop_at X0_Empty M_Table_Table_ordered M_Table_Table_drop
  have M_Table_Table_pop_at : HasM P w mg base W 4 0 "pop_at" ["self", "index"] 2 f_Table_pop_at [(2, [], [0, 1], [])] := B_Table_pop_at.meth (by rw [hc_Table]; exact methB_ok (c.x 25 (f := methB "Table" "pop_at" (pMeth "Table" "pop_at")) rfl))
  have B_Table_pop_last := ok_Table_pop_last (P := P) (w := w) (mg := mg) (base := base) (W := W) hW hN F_Table_pop_last M_Table_Table_pop_at
  have B_Table_pop_first := ok_Table_pop_first (P := P) (w := w) (mg := mg) (base := base) (W := W) hW hN F_Table_pop_first M_Table_Table_pop_at
  have H__law_source : Has P w mg base W 2 "_law_source" ["_law_script", "_law_place"] 2 f__law_source [(2, [], [0, 1], [])] := B__law_source.has (He.glo_ok X G (c.fact 38 (f := .glo "_law_source") rfl))
  have H__law_pairs : Has P w mg base W 6 "_law_pairs" ["_law_source_here", "_law_most"] 2 f__law_pairs [(2, [], [0, 1], [])] := B__law_pairs.has (He.glo_ok X G (c.fact 39 (f := .glo "_law_pairs") rfl))
  have H__law_odd : Has P w mg base W 4 "_law_odd" ["_law_source_here"] 1 f__law_odd [(1, [], [0], [])] := B__law_odd.has (He.glo_ok X G (c.fact 40 (f := .glo "_law_odd") rfl))
  have H__law_items_right : HasG P w mg base W 17 "_law_items_right" ["_law_table", "_law_odd_here"] 2 f__law_items_right [(2, [], [0, 1], [])] := B__law_items_right.has (He.glo_ok X G (c.fact 41 (f := .glo "_law_items_right") rfl))
  have H__law_keys_right : HasG P w mg base W 15 "_law_keys_right" ["_law_table", "_law_odd_here"] 2 f__law_keys_right [(2, [], [0, 1], [])] := B__law_keys_right.has (He.glo_ok X G (c.fact 42 (f := .glo "_law_keys_right") rfl))
  have H__law_ends_right : HasG P w mg base W 15 "_law_ends_right" ["_law_table", "_law_odd_here"] 2 f__law_ends_right [(2, [], [0, 1], [])] := B__law_ends_right.has (He.glo_ok X G (c.fact 43 (f := .glo "_law_ends_right") rfl))
  have H__law_pairs_right : HasG P w mg base W 17 "_law_pairs_right" ["_law_table", "_law_odd_here"] 2 f__law_pairs_right [(2, [], [0, 1], [])] := B__law_pairs_right.has (He.glo_ok X G (c.fact 44 (f := .glo "_law_pairs_right") rfl))
  have M_Table_Table_pop_last : HasM P w mg base W 6 0 "pop_last" ["self"] 1 f_Table_pop_last [(1, [], [0], [])] := B_Table_pop_last.meth (by rw [hc_Table]; exact methB_ok (c.x 26 (f := methB "Table" "pop_last" (pMeth "Table" "pop_last")) rfl))
  have M_Table_Table_pop_first : HasM P w mg base W 6 0 "pop_first" ["self"] 1 f_Table_pop_first [(1, [], [0], [])] := B_Table_pop_first.meth (by rw [hc_Table]; exact methB_ok (c.x 27 (f := methB "Table" "pop_first" (pMeth "Table" "pop_first")) rfl))
  have B_law := ok_law (P := P) (w := w) (mg := mg) (base := base) (W := W) (cL := codF W.K ((pDef "law") W.K)) (pL := tabF W.K (codF W.K ((pDef "law") W.K))) (hTB (codF W.K ((pDef "law") W.K), tabF W.K (codF W.K ((pDef "law") W.K))) (List.mem_of_getElem? (i := 4) rfl)) (FunD.codeF F_law (hl _ (List.mem_of_getElem? (i := 4) rfl))) (by rw [hWT]; exact List.mem_of_getElem? (i := 4) rfl) (by rw [hWT]; exact tab_u ndT (List.mem_of_getElem? (i := 4) rfl)) hW hN F_law (He.free_ok X G (c.fact 27 (f := .free "range") rfl)) (He.free_ok X G (c.fact 36 (f := .free "max") rfl)) (He.free_ok X G (c.fact 37 (f := .free "min") rfl)) (He.free_ok X G (c.fact 5 (f := .free "len") rfl)) H__law_source C_Table H__law_pairs M_Table_Table_pairs H__law_odd H__law_items_right H__law_keys_right H__law_ends_right H__law_pairs_right L__law_error M_Table_Table_pop_last M_Table_Table_pop_first
  exact law_spT (by rw [hWT]; rfl) B_law law_true
end Q
open PySem PySem.W PySem.Calls PyProof.Rows
theorem PySem.Challenge.cw_dequecounts_k52_tables_refuse_holds : PySem.Challenge.rw_dequecounts_k52_tables_refuse.Holds := by
  w_on; o_law
  refine HandSHeadRun.head_any (r := OpenLaw.row PySem.Challenge.rw_dequecounts_k52_tables_refuse) (q := view (OpenLaw.row PySem.Challenge.rw_dequecounts_k52_tables_refuse).prog [30]) (H := Q.hk) (ob := Q.ob) (M := 80000) (loose := Q.nms) (d := HandSHeadRun.topDef (OpenLaw.row PySem.Challenge.rw_dequecounts_k52_tables_refuse).prog 30) (kwd := []) Q.ob_eq
    (by kernel_rfl) (fun s => by kernel_rfl) Q.run (by kernel_rfl) (by kernel_rfl) (by kernel_rfl) (by rfl) (by first | assumption | decide +kernel) (by decide +kernel) ⟨rfl, rfl, rfl, rfl, rfl, by decide +kernel⟩ ?hw ?hc
  case hw => w_witness2
  case hc =>
    refine Dn.walk_ofT (l := PySem.Challenge.rw_dequecounts_k52_tables_refuse) (n := 63) (k := 19) (x := "_law_script") rfl (by decide) (by kernel_rfl) ⟨rfl, by decide, by decide⟩ ?F
    intro w mg fa h Y G hmg0
    obtain ⟨K, KX, c, hl⟩ := Y
    have hmg : mg ("law" : PySem.Str) = some (.ref fa) := by
      have e : (HandSHeadRun.topDef (OpenLaw.row PySem.Challenge.rw_dequecounts_k52_tables_refuse).prog 30).name = ("law" : PySem.Str) := by kernel_rfl
      rw [← e]
      exact hmg0
    obtain ⟨fd, hb, hF⟩ := Q.facts (P := (PySem.Challenge.rw_dequecounts_k52_tables_refuse).prog) (w := w) KX G hmg c hl
    obtain ⟨z1, z2, z3⟩ := Dn.csOf_tab hl
    exact ⟨K, fd, Dn.spLT (Dn.csOf Q.ls K) K, Dn.csOf Q.ls K, KX, z1, z2, z3, hb, fun H a ns hl hO hC hS => ⟨a, ns, rfl, hl, hO, hC, hS, fun _ => rfl⟩, hF⟩
