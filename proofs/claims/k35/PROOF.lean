import PyProof.Rows.All
import Wide.All
import OpenK.AllK
import Wide.FinOn
import HandS.Base
import HandS.Call
import HandS.List
import HandS.Comp
import HandS.Ends
import HandS.Dict
import HandS.Iter
import HandS.Text
import HandS.Words
import HandS.WordsList
import HandS.Exc
import HandS.TryOnly
import HandS.ExcOwn
import HandS.WordsExc
import HandS.Lambda
import HandS.ExcInit
import HandS.TupAny
import HandS.TupMul
import HandS.Wide
import HandS.Deep
import HandS.IsInst
import HandS.More
import HandS.Style
import HandS.Conv
import HandS.WordsDict
import HandS.Defaults
import HandS.MakeKw
import HandS.MakeKwOnly
import KE.KStar
import HandS.SortInts
import HandS.SetFor
import KE.GoesEnum
import PyProof.CollectIter
import HandS.Zip
import KE.KUnpackStar
import HandS.HeadEnd
import HandS.HeadHook1
import HandS.HeadHook2
import HandS.Small
import OpenK.KMeth
import KE.KOpsOwn
import HandS.Property
import PyProof.FactsAll.object_1
import HandS.FStr
import HandS.RaiseMore
import KE.KExcInit
import HandS.ExcField
import HandS.ExcIs
import KE.KExcIs
import KE.KIsAll
import PyProof.ExcBaseAll.LookupError
import PyProof.ExcBaseAll.IndexError
import PyProof.ExcBaseAll.RuntimeError
import PyProof.ExcBaseAll.ValueError
import HandS.DictComp
import HandS.SetKeys
import HandS.Finally
import HandS.ListItems
import PyProof.AssignAttr
import HandS.ListEq
import HandS.DeepEq
import PyProof.Seq
import OpenK.KCls
import KE.DataCmp
import HandS.Flow
import KE.DataFind
import HandS.EndTab
import PyProof.ReprRoads
import KE.KDictSum
import HandS.ClsMeth
import PyProof.StrOps2
import HandS.SortKw
import HandS.HeadHook3
import KE.GoesEnumKw
import PyProof.RulesMatch
import HandS.Head0
import HandS.Head1
import HandS.Head2
import HandS.ExcValue
import HandS.NoneIn
import KE.KDictWalk
import PyProof.ListStr
import Lean
import PySem.Challenge.RW_dequecounts_k35_expressions_known
set_option Elab.async false
set_option linter.all false
set_option maxRecDepth 100000
set_option maxHeartbeats 4000000
namespace Dn
open PySem PySem.Spec PyProof.Rows L2

/-- a plain value: a tuple is its items; rol: a list that nobody writes; ref: the n-th object of the plain heap; adr: a class or a def of the text -/
inductive AV where
  | non
  | bl (b : Bool)
  | int (i : Int)
  | str (x : Str)
  | tup (xs : List AV)
  | rol (xs : List AV)
  | ref (n : Nat)
  | adr (a : Addr)
  | ty (n : String)
  | cls (t : Nat)
  | exn (t : Nat) (fs : List (Nat × AV))
  | exi (t : Nat)
  | ndc (v : AV)

/-- a plain object -/
inductive AO where
  | lst (xs : List AV)
  | dK (kvs : List (Key × AV))
  | dT (kvs : List (List Key × AV))
  | ins (t : Nat) (fs : List (Nat × AV))
  | frz (o : AO)

abbrev Hep := List AO
abbrev Sl := List (Option AV)

/-- the classes of a text: which numbers are classes whose instances are made, which of them lie under which -/
structure CT where
  kit : Nat → Bool
  sub : Nat → Nat → Bool
abbrev tyNames : List String := ["NoneType", "bool", "int", "str", "list", "tuple", "dict"]
/-- what is asked of a class of the text: no own __ne__, __gt__, __ge__, no base but object among the built-in ones -/
def eqOO (a b : Option (Option Value)) : Bool := decide (a = b)
def clsB (K : PySem.W.Frag) (C : Addr) : Bool := PySem.W.noSeq K C && (PySem.W.selfFirst K C && ((tyNames.all fun n => decide (PySem.W.subIn K (.type n) (.ref C) = some false)) &&
  (eqOO (PySem.W.findIn K (.ref C) "__ne__") (some (some (.builtin "object.__ne__"))) && (eqOO (PySem.W.findIn K (.ref C) "__gt__") (some (some (.builtin "object.__gt__"))) &&
    eqOO (PySem.W.findIn K (.ref C) "__ge__") (some (some (.builtin "object.__ge__")))))))
/-- the written part, the classes by number, the attributes' names by number -/
structure Wd where
  K : PySem.W.Frag
  cl : Nat → Addr
  fn : List Str
  fnd : fn.Nodup
  ct : CT
  cg : ∀ t, ct.kit t = true → Cls K (cl t) ∧ PySem.W.findIn K (.ref (cl t)) "__class__" = some (some (.builtin "object.__class__")) ∧ PySem.W.mroIn K (cl t) (.type "object") = some true
  cd : PySem.W.specialIn K (.builtin "object.__class__") "__get__" = some (some (.builtin "getset_descriptor.__get__"))
  ck : PySem.W.takesIn K (.builtin "object.__class__") = some true
  ctf : ∀ n t, n ∈ tyNames → ct.kit t = true → PySem.W.kitOne K (.type n) (.ref (cl t)) = some false
  cty : ∀ n t, n ∈ tyNames → ct.kit t = true → PySem.W.kitOne K (.ref (cl t)) (.type n) = some false
  csf : ∀ s t, ct.kit s = true → ct.kit t = true → PySem.W.kitOne K (.ref (cl s)) (.ref (cl t)) = some (ct.sub s t)
  cks : ∀ t, ct.kit t = true → L2.Cls K (cl t)
  cb : ∀ t, ct.kit t = true → clsB K (cl t) = true
  css : ∀ s t, ct.kit s = true → ct.kit t = true → PySem.W.subIn K (.ref (cl s)) (.ref (cl t)) = some (ct.sub s t)
  noat : ∀ t s, ct.kit t = true → s ∈ fn → NoAttr K (cl t) s
  /-- the tables of code objects -/
  T : List (Addr × Str) := []

def RoL (K : PySem.W.Frag) (H : Hp) (a : Addr) (xs : List V) : Prop := (∃ o, H a = some (.frz o (.lst xs))) ∨ SqL K (fun _ => none) a xs

/-- an exception of the class C, kept: its object, and its dict if it has one -/
def XiO (C : Addr) (H : Hp) (a : Addr) : Prop := ∃ d, H a = some (exo a C d) ∧ ∀ dd, d = some dd → ∃ fs, H dd = some (exd dd fs)
theorem XiO.mono {C : Addr} {H H' : Hp} {a : Addr} (h : XiO C H a) (k : ∀ a u, H a = some (.ext u) → H' a = some (.ext u)) : XiO C H' a := by
  obtain ⟨d, h1, h2⟩ := h
  refine ⟨d, k _ _ h1, fun dd e => ?_⟩
  obtain ⟨fs, h3⟩ := h2 dd e
  exact ⟨fs, k _ _ h3⟩

/-- a dict with the one key None -/
def NdO (a : Addr) (x : V) (ep : Nat) : HO := .ext fun h => (a == sysModules) = false ∧ ∃ u : Value, RelV x u ∧ ∃ o : Obj, h.get? a = some o ∧ o.ExactDict ∧ o.data = .dict #[⟨reduceHash 0xFCA86420, .none, u⟩] ep

mutual
inductive RV (W : Wd) (io : List Addr) (H : Hp) : AV → V → Prop
  | non : RV W io H .non .non
  | bl (b : Bool) : RV W io H (.bl b) (.bl b)
  | int (i : Int) : RV W io H (.int i) (.int i)
  | str (x : Str) : RV W io H (.str x) (.str x)
  | tup {a : Addr} {vs : List V} {xs : List AV} : SqT W.K H a vs → RVs W io H xs vs → RV W io H (.tup xs) (.ref a)
  | rol {a : Addr} {vs : List V} {xs : List AV} : RoL W.K H a vs → RVs W io H xs vs → RV W io H (.rol xs) (.ref a)
  | ref {n : Nat} {a : Addr} : io[n]? = some a → RV W io H (.ref n) (.ref a)
  | adr (a : Addr) : RV W io H (.adr a) (.ref a)
  | ty (n : String) : RV W io H (.ty n) (.ty n)
  | cls (t : Nat) : RV W io H (.cls t) (.ref (W.cl t))
  | exi {t : Nat} {a : Addr} : XiO (W.cl t) H a → RV W io H (.exi t) (.ref a)
  | ndc {a : Addr} {v : AV} {x : V} {ep : Nat} : H a = some (NdO a x ep) → RV W io H v x → RV W io H (.ndc v) (.ref a)
inductive RVs (W : Wd) (io : List Addr) (H : Hp) : List AV → List V → Prop
  | nil : RVs W io H [] []
  | cons {x : AV} {v : V} {xs : List AV} {vs : List V} : RV W io H x v → RVs W io H xs vs → RVs W io H (x :: xs) (v :: vs)
end
/-- pairs with equal keys -/
inductive RKs {k : Type} (W : Wd) (io : List Addr) (H : Hp) : List (k × AV) → List (k × V) → Prop
  | nil : RKs W io H [] []
  | cons {q : k} {x : AV} {v : V} {xs : List (k × AV)} {vs : List (k × V)} : RV W io H x v → RKs W io H xs vs → RKs W io H ((q, x) :: xs) ((q, v) :: vs)
/-- attributes: by number, by name -/
inductive RFs (W : Wd) (io : List Addr) (H : Hp) : List (Nat × AV) → List (Str × V) → Prop
  | nil : RFs W io H [] []
  | cons {q : Nat} {s : Str} {x : AV} {v : V} {xs : List (Nat × AV)} {vs : List (Str × V)} : W.fn[q]? = some s → RV W io H x v → RFs W io H xs vs → RFs W io H ((q, x) :: xs) ((s, v) :: vs)

/-- what stands at a place: as HO -/
inductive RO (W : Wd) (io : List Addr) (H : Hp) : AO → HO → Prop
  | lst {xs : List AV} {vs : List V} : RVs W io H xs vs → RO W io H (.lst xs) (.lst vs)
  | dK {xs : List (Key × AV)} {vs : List (Key × V)} : RKs W io H xs vs → RO W io H (.dK xs) (.dK vs)
  | dT {xs : List (List Key × AV)} {vs : List (List Key × V)} : RKs W io H xs vs → RO W io H (.dT xs) (.dT vs)
  | ins {t : Nat} {dx : Addr} {fs : List (Nat × AV)} {vs : List (Str × V)} : W.ct.kit t = true → RFs W io H fs vs → RO W io H (.ins t fs) (.ins (W.cl t) dx vs)
  | frz {o : AO} {u : HO} {b : Obj} : RO W io H o u → RO W io H (.frz o) (.frz b u)

structure Rl (W : Wd) (io : List Addr) (hp : Hep) (H : Hp) : Prop where
  len : io.length = hp.length
  nd : io.Nodup
  ob : ∀ (i : Nat) (a : Addr) (o : AO), io[i]? = some a → hp[i]? = some o → ∃ u, H a = some u ∧ RO W io H o u
  tb : LamX.Tabs W.T H

/-- how the heap goes on -/
structure Ext (W : Wd) (io : List Addr) (H : Hp) (io' : List Addr) (H' : Hp) : Prop where
  pre : ∃ l, io' = io ++ l
  tup : ∀ a xs, SqT W.K H a xs → SqT W.K H' a xs
  rol : ∀ a xs, RoL W.K H a xs → RoL W.K H' a xs
  xd : ∀ a fs, H a = some (.xd fs) → H' a = some (.xd fs)
  frz : ∀ a o u, H a = some (.frz o u) → H' a = some (.frz o u)
  cod : ∀ a u, H a = some (.ext u) → H' a = some (.ext u)
  tab : LamX.Tabs W.T H → LamX.Tabs W.T H'

section
variable {W : Wd} {io io' io'' : List Addr} {H H' H'' : Hp}
theorem Ext.refl : Ext W io H io H := ⟨⟨[], by simp⟩, fun _ _ h => h, fun _ _ h => h, fun _ _ h => h, fun _ _ _ h => h, fun _ _ h => h, fun h => h⟩
theorem Ext.trans (e : Ext W io H io' H') (f : Ext W io' H' io'' H'') : Ext W io H io'' H'' := by
  obtain ⟨l, rfl⟩ := e.pre
  obtain ⟨m, rfl⟩ := f.pre
  exact ⟨⟨l ++ m, by simp⟩, fun a xs h => f.tup a xs (e.tup a xs h), fun a xs h => f.rol a xs (e.rol a xs h), fun a xs h => f.xd a xs (e.xd a xs h), fun a o u h => f.frz a o u (e.frz a o u h), fun a u h => f.cod a u (e.cod a u h), fun h => f.tab (e.tab h)⟩
theorem Ext.at (e : Ext W io H io' H') {n : Nat} {a : Addr} (h : io[n]? = some a) : io'[n]? = some a := by
  obtain ⟨l, rfl⟩ := e.pre
  obtain ⟨hl, _⟩ := List.getElem?_eq_some_iff.mp h
  rw [List.getElem?_append_left hl]
  exact h
mutual
theorem RV.mono (e : Ext W io H io' H') : ∀ {x : AV} {v : V}, RV W io H x v → RV W io' H' x v
  | _, _, .non => .non
  | _, _, .bl b => .bl b
  | _, _, .int i => .int i
  | _, _, .str x => .str x
  | _, _, .tup h r => .tup (e.tup _ _ h) (RVs.mono e r)
  | _, _, .rol h r => .rol (e.rol _ _ h) (RVs.mono e r)
  | _, _, .ref h => .ref (e.at h)
  | _, _, .adr a => .adr a
  | _, _, .ty n => .ty n
  | _, _, .cls t => .cls t
  | _, _, .exi h => .exi (h.mono fun a u => e.cod a u)
  | _, _, .ndc h r => .ndc (e.cod _ _ h) (RV.mono e r)
theorem RVs.mono (e : Ext W io H io' H') : ∀ {xs : List AV} {vs : List V}, RVs W io H xs vs → RVs W io' H' xs vs
  | _, _, .nil => .nil
  | _, _, .cons r q => .cons (RV.mono e r) (RVs.mono e q)
end
theorem RKs.mono {k : Type} (e : Ext W io H io' H') : ∀ {xs : List (k × AV)} {vs : List (k × V)}, RKs W io H xs vs → RKs W io' H' xs vs
  | _, _, .nil => .nil
  | _, _, .cons r q => .cons (RV.mono e r) (RKs.mono e q)
theorem RFs.mono (e : Ext W io H io' H') : ∀ {xs : List (Nat × AV)} {vs : List (Str × V)}, RFs W io H xs vs → RFs W io' H' xs vs
  | _, _, .nil => .nil
  | _, _, .cons f r q => .cons f (RV.mono e r) (RFs.mono e q)
theorem RO.mono (e : Ext W io H io' H') {o : AO} {u : HO} (h : RO W io H o u) : RO W io' H' o u := by
  induction h with
  | lst r => exact .lst (r.mono e)
  | dK r => exact .dK (r.mono e)
  | dT r => exact .dT (r.mono e)
  | ins k r => exact .ins k (r.mono e)
  | frz _ ih => exact .frz ih

theorem RVs.len : ∀ {xs : List AV} {vs : List V}, RVs W io H xs vs → xs.length = vs.length
  | _, _, .nil => rfl
  | _, _, .cons _ q => by simp [RVs.len q]
theorem RVs.get : ∀ {xs : List AV} {vs : List V} {i : Nat} {x : AV}, RVs W io H xs vs → xs[i]? = some x → ∃ v, vs[i]? = some v ∧ RV W io H x v
  | _, _, _, _, .nil, h => by simp at h
  | _, _, 0, _, .cons r _, h => by simp at h; subst h; exact ⟨_, rfl, r⟩
  | _, _, i + 1, x, .cons _ q, h => by
    obtain ⟨v, a, b⟩ := RVs.get (i := i) (x := x) q (by simpa using h)
    exact ⟨v, by simpa using a, b⟩
theorem RVs.set : ∀ {xs : List AV} {vs : List V} (n : Nat) {x : AV} {v : V}, RV W io H x v → RVs W io H xs vs → RVs W io H (xs.set n x) (vs.set n v)
  | _, _, _, _, _, _, .nil => .nil
  | _, _, 0, _, _, r, .cons _ t => .cons r t
  | _, _, n + 1, _, _, r, .cons q t => .cons q (RVs.set n r t)
theorem Rl.at (R : Rl W io hp H) {n : Nat} {a : Addr} {o : AO} (hi : io[n]? = some a) (ho : hp[n]? = some o) : ∃ u, H a = some u ∧ RO W io H o u := R.ob n a o hi ho
theorem Rl.lst (R : Rl W io hp H) {n : Nat} {a : Addr} {xs : List AV} (hi : io[n]? = some a) (ho : hp[n]? = some (.lst xs)) : ∃ vs, H a = some (.lst vs) ∧ RVs W io H xs vs := by
  obtain ⟨u, e, r⟩ := R.at hi ho
  cases r with
  | lst q => exact ⟨_, e, q⟩
theorem Rl.dK (R : Rl W io hp H) {n : Nat} {a : Addr} {xs : List (Key × AV)} (hi : io[n]? = some a) (ho : hp[n]? = some (.dK xs)) : ∃ vs, H a = some (.dK vs) ∧ RKs W io H xs vs := by
  obtain ⟨u, e, r⟩ := R.at hi ho
  cases r with
  | dK q => exact ⟨_, e, q⟩
theorem Rl.dT (R : Rl W io hp H) {n : Nat} {a : Addr} {xs : List (List Key × AV)} (hi : io[n]? = some a) (ho : hp[n]? = some (.dT xs)) : ∃ vs, H a = some (.dT vs) ∧ RKs W io H xs vs := by
  obtain ⟨u, e, r⟩ := R.at hi ho
  cases r with
  | dT q => exact ⟨_, e, q⟩
theorem Rl.ins (R : Rl W io hp H) {n t : Nat} {a : Addr} {xs : List (Nat × AV)} (hi : io[n]? = some a) (ho : hp[n]? = some (.ins t xs)) : ∃ dx vs, H a = some (.ins (W.cl t) dx vs) ∧ RFs W io H xs vs ∧ W.ct.kit t = true := by
  obtain ⟨u, e, r⟩ := R.at hi ho
  cases r with
  | ins k q => exact ⟨_, _, e, q, k⟩
theorem Rl.has (R : Rl W io hp H) {n : Nat} {a : Addr} (hi : io[n]? = some a) : ∃ o u, hp[n]? = some o ∧ H a = some u ∧ RO W io H o u := by
  obtain ⟨hl, _⟩ := List.getElem?_eq_some_iff.mp hi
  have h2 : hp[n]? = some (hp[n]'(by rw [← R.len]; exact hl)) := List.getElem?_eq_getElem _
  obtain ⟨u, e, r⟩ := R.at hi h2
  exact ⟨_, u, h2, e, r⟩
/-- the objects that may be written -/
def Wr : HO → Prop
  | .lst _ => True
  | .dK _ => True
  | .dT _ => True
  | .ins _ _ _ => True
  | _ => False
theorem sqT_set {K : PySem.W.Frag} {p : Addr} {u ho : HO} (hp : H p = some u) (w : Wr u) {a : Addr} {xs : List V} (h : SqT K H a xs) : SqT K (upd H p ho) a xs := by
  rcases h with (h | ⟨o, h⟩) | h
  · exact .inl (.inl (by rw [upd_ne (ne_of h hp (by rintro rfl; exact w))]; exact h))
  · exact .inl (.inr ⟨o, by rw [upd_ne (ne_of h hp (by rintro rfl; exact w))]; exact h⟩)
  · exact .inr h
theorem roL_set {K : PySem.W.Frag} {p : Addr} {u ho : HO} (hp : H p = some u) (w : Wr u) {a : Addr} {xs : List V} (h : RoL K H a xs) : RoL K (upd H p ho) a xs := by
  rcases h with ⟨o, h⟩ | h
  · exact .inl ⟨o, by rw [upd_ne (ne_of h hp (by rintro rfl; exact w))]; exact h⟩
  · exact .inr h
theorem tab_set {p : Addr} {u ho : HO} (hp : H p = some u) (w : Wr u) {P : Addr} {q : Str} (t : LamX.TabS H P q) : LamX.TabS (upd H p ho) P q := by
  obtain ⟨ps, h1, h2, h3⟩ := t
  refine ⟨ps, by rw [upd_ne (ne_of h1 hp (by rintro rfl; exact w))]; exact h1, h2, fun pos cv hc => ?_⟩
  obtain ⟨c, e1, e2⟩ := h3 pos cv hc
  exact ⟨c, e1, by rw [upd_ne (ne_of e2 hp (by rintro rfl; exact w))]; exact e2⟩
theorem Ext.set {p : Addr} {u : HO} (ho : HO) (hp : H p = some u) (w : Wr u) : Ext W io H io (upd H p ho) :=
  ⟨⟨[], by simp⟩, fun _ _ h => sqT_set hp w h, fun _ _ h => roL_set hp w h, fun a fs h => by rw [upd_ne (ne_of h hp (by rintro rfl; exact w))]; exact h, fun a o v h => by rw [upd_ne (ne_of h hp (by rintro rfl; exact w))]; exact h, fun a v h => by rw [upd_ne (ne_of h hp (by rintro rfl; exact w))]; exact h, fun h p' hp' => tab_set hp w (h p' hp')⟩
theorem Rl.set (R : Rl W io hp H) {n : Nat} {p : Addr} {u ho : HO} {o : AO} (hi : io[n]? = some p) (hu : H p = some u) (w : Wr u) (r : RO W io (upd H p ho) o ho) : Rl W io (hp.set n o) (upd H p ho) := by
  refine ⟨by simp [R.len], R.nd, fun i a q hi' h => ?_, (Ext.set (W := W) (io := io) ho hu w).tab R.tb⟩
  by_cases e : i = n
  · subst e
    rw [hi] at hi'
    cases hi'
    obtain ⟨hl, _⟩ := List.getElem?_eq_some_iff.mp h
    rw [List.length_set] at hl
    rw [List.getElem?_set_self hl] at h
    cases h
    exact ⟨ho, upd_same, r⟩
  · rw [List.getElem?_set_ne (Ne.symm e)] at h
    obtain ⟨v, ev, rv⟩ := R.at hi' h
    have ne : a ≠ p := fun z => by
      subst z
      obtain ⟨l1, e1⟩ := List.getElem?_eq_some_iff.mp hi
      obtain ⟨l2, e2⟩ := List.getElem?_eq_some_iff.mp hi'
      exact e ((List.getElem_inj R.nd).mp (e2.trans e1.symm))
    exact ⟨v, by rw [upd_ne ne]; exact ev, rv.mono (Ext.set ho hu w)⟩
end
end Dn
namespace Dn
open PySem PySem.Spec PyProof.Rows L2

/-- what an expression comes to -/
inductive R (T : Type) where
  | ok (a : T) (h : Hep)
  | exc (t : Nat) (fs : List (Nat × AV)) (h : Hep)
  | stuck
def R.bind {T U : Type} (r : R T) (k : T → Hep → R U) : R U := match r with
  | .ok a h => k a h
  | .exc t fs h => .exc t fs h
  | .stuck => .stuck
abbrev Op (T : Type) := Option (T × Hep)
def R.of {T : Type} : Op T → R T
  | some (a, h) => .ok a h
  | none => .stuck
abbrev DE := Sl → Hep → R AV
abbrev DT := Sl → Hep → R Bool
/-- what a statement comes to -/
inductive SR where
  | nx (s : Sl) (h : Hep)
  | rt (v : AV) (h : Hep)
  | bk (s : Sl) (h : Hep)
  | ct (s : Sl) (h : Hep)
  | exc (t : Nat) (fs : List (Nat × AV)) (s : Sl) (h : Hep)
  | stuck
abbrev DS := Sl → Hep → SR
def SR.then (r : SR) (k : Sl → Hep → SR) : SR := match r with
  | .nx s h => k s h
  | r => r

/-- an exception: its class, its fields -/
def RXf (W : Wd) (io : List Addr) (H : Hp) (fs : List (Nat × AV)) (d : Option Addr) : Prop := (fs = [] ∧ d = none) ∨ ∃ dd vs, d = some dd ∧ H dd = some (.xd vs) ∧ RFs W io H fs vs
theorem RXf.mono {W : Wd} {io io' : List Addr} {H H' : Hp} {fs : List (Nat × AV)} {d : Option Addr} (h : RXf W io H fs d) (e : Ext W io H io' H') : RXf W io' H' fs d := h.imp id fun ⟨dd, vs, e1, e2, e3⟩ => ⟨dd, vs, e1, e.xd _ _ e2, e3.mono e⟩
def RX (W : Wd) (io : List Addr) (H : Hp) (t : Nat) (fs : List (Nat × AV)) (cls : Value) (d : Option Addr) : Prop :=
  cls = .ref (W.cl t) ∧ RXf W io H fs d

/-- how the slots are held -/
structure Md (W : Wd) where
  rel : List Addr → Hp → Sl → L2.St → Prop
  mono : ∀ {io io' H H' as σ}, Ext W io H io' H' → rel io H as σ → rel io' H' as σ
  var : ∀ {io H as σ} {i : Nat} {v : AV}, rel io H as σ → as[i]? = some (some v) → (∀ t fs, v ≠ .exn t fs) → ∃ x, σ[i]? = some (some x) ∧ RV W io H v x
  ok : Nat → Prop
  set : ∀ {io H as σ} {i : Nat} {v : AV} {x : V}, rel io H as σ → RV W io H v x → ok i → rel io H (as.set i (some v)) (σ.set i (some x))
  wipe : ∀ {io H as σ} {i : Nat}, rel io H as σ → ok i → rel io H (as.set i none) (σ.set i none)

/-- the slots of a def -/
def std (W : Wd) : Md W where
  rel := fun io H as σ => as.length = σ.length ∧ ∀ (i : Nat) (v : AV), as[i]? = some (some v) → ∃ x, σ[i]? = some (some x) ∧ RV W io H v x
  mono := fun e h => ⟨h.1, fun i v a => by
    obtain ⟨x, b, r⟩ := h.2 i v a
    exact ⟨x, b, r.mono e⟩⟩
  var := fun h a _ => h.2 _ _ a
  ok := fun _ => True
  set := fun {io H as σ i v x} h r _ => ⟨by simp [h.1], fun j w a => by
    by_cases e : j = i
    · subst e
      obtain ⟨hl, _⟩ := List.getElem?_eq_some_iff.mp a
      rw [List.length_set] at hl
      rw [List.getElem?_set_self hl] at a
      cases a
      exact ⟨x, List.getElem?_set_self (by rw [← h.1]; exact hl), r⟩
    · rw [List.getElem?_set_ne (Ne.symm e)] at a ⊢
      exact h.2 j w a⟩
  wipe := fun {io H as σ i} h _ => ⟨by simp [h.1], fun j w a => by
    by_cases e : j = i
    · subst e
      obtain ⟨hl, _⟩ := List.getElem?_eq_some_iff.mp a
      rw [List.length_set] at hl
      rw [List.getElem?_set_self hl] at a
      cases a
    · rw [List.getElem?_set_ne (Ne.symm e)] at a ⊢
      exact h.2 j w a⟩

section
variable {W : Wd} {M : Md W} {T T' U U' : Type}
abbrev Rel (T U : Type) := List Addr → Hp → T → U → Prop
def Pop (W : Wd) (rh : Rel T U) (Q : U → Hp → Prop) (io : List Addr) (H : Hp) : Op T → Prop
  | some (v, hp) => ∀ io' H' x, Ext W io H io' H' → Rl W io' hp H' → rh io' H' v x → Q x H'
  | none => False
def Pst (W : Wd) (rh : Rel T U) (E : WX) (σ : L2.St) (Q : U → Hp → Prop) (io : List Addr) (H : Hp) : R T → Prop
  | .ok v hp => ∀ io' H' x, Ext W io H io' H' → Rl W io' hp H' → rh io' H' v x → Q x H'
  | .exc t fs hp => ∀ io' H' cls d, Ext W io H io' H' → Rl W io' hp H' → RX W io' H' t fs cls d → E cls d σ H'
  | .stuck => False
def Pss (W : Wd) (M : Md W) (E : WX) (D : Ends) (io : List Addr) (H : Hp) : SR → Prop
  | .nx s hp => ∀ io' H' σ', Ext W io H io' H' → Rl W io' hp H' → M.rel io' H' s σ' → D.nx σ' H'
  | .rt v hp => ∀ io' H' x, Ext W io H io' H' → Rl W io' hp H' → RV W io' H' v x → D.rt x H'
  | .bk s hp => ∀ io' H' σ', Ext W io H io' H' → Rl W io' hp H' → M.rel io' H' s σ' → D.bk σ' H'
  | .ct s hp => ∀ io' H' σ', Ext W io H io' H' → Rl W io' hp H' → M.rel io' H' s σ' → D.ct σ' H'
  | .exc t fs s hp => ∀ io' H' σ' cls d, Ext W io H io' H' → Rl W io' hp H' → M.rel io' H' s σ' → RX W io' H' t fs cls d → E cls d σ' H'
  | .stuck => False
def tG (W : Wd) (M : Md W) (rh : Rel T U) (E : WX) (f : Sl → Hep → R T) : L2.St → Hp → (U → Hp → Prop) → Prop :=
  fun σ H Q => ∃ io hp as, Rl W io hp H ∧ M.rel io H as σ ∧ Pst W rh E σ Q io H (f as hp)
def tS (W : Wd) (M : Md W) (E : WX) (f : DS) : TS :=
  fun D σ H => ∃ io hp as, Rl W io hp H ∧ M.rel io H as σ ∧ Pss W M E D io H (f as hp)
abbrev tD (W : Wd) (M : Md W) (E : WX) (f : DE) : TE := tG W M (RV W) E f
abbrev tDT (W : Wd) (M : Md W) (E : WX) (f : DT) : TT := tG W M (fun _ _ b c => b = c) E f

section
variable {rh : Rel T U} {rh' : Rel T' U'} {E : WX} {D : Ends} {σ : L2.St} {H H1 : Hp} {io io1 : List Addr} {hp : Hep} {as : Sl}
theorem Pop.later {Q : U → Hp → Prop} {r : Op T} (h : Pop W rh Q io H r) (e : Ext W io H io1 H1) : Pop W rh Q io1 H1 r := by
  match r, h with
  | some (v, hp), h => exact fun io' H' x e' => h io' H' x (e.trans e')
theorem Pst.later {Q : U → Hp → Prop} {r : R T} (h : Pst W rh E σ Q io H r) (e : Ext W io H io1 H1) : Pst W rh E σ Q io1 H1 r := by
  cases r with
  | ok v hp => exact fun io' H' x e' => h io' H' x (e.trans e')
  | exc t fs hp => exact fun io' H' c d e' => h io' H' c d (e.trans e')
  | stuck => exact h
theorem Pss.later {r : SR} (h : Pss W M E D io H r) (e : Ext W io H io1 H1) : Pss W M E D io1 H1 r := by
  cases r with
  | nx s hp => exact fun io' H' x e' => h io' H' x (e.trans e')
  | rt s hp => exact fun io' H' x e' => h io' H' x (e.trans e')
  | bk s hp => exact fun io' H' x e' => h io' H' x (e.trans e')
  | ct s hp => exact fun io' H' x e' => h io' H' x (e.trans e')
  | exc t fs s hp => exact fun io' H' x c d e' => h io' H' x c d (e.trans e')
  | stuck => exact h
theorem Pst.of {Q : U → Hp → Prop} {r : Op T} (h : Pst W rh E σ Q io H (R.of r)) : Pop W rh Q io H r := by
  match r, h with
  | some (v, hp), h => exact h
  | none, h => exact h
theorem tG.imp {f : Sl → Hep → R T} {Q Q' : U → Hp → Prop} (h : tG W M rh E f σ H Q) (k : ∀ x H1, Q x H1 → Q' x H1) : tG W M rh E f σ H Q' := by
  obtain ⟨io, hp, as, rl, S, P⟩ := h
  refine ⟨io, hp, as, rl, S, ?_⟩
  cases z : f as hp with
  | ok a hp1 =>
    rw [z] at P
    exact fun io' H' x e r q => k _ _ (P io' H' x e r q)
  | exc t fs hp1 =>
    rw [z] at P
    exact P
  | stuck =>
    rw [z] at P
    exact P
theorem Pst.ok {Q : U → Hp → Prop} {v : T} {x : U} (P : Pst W rh E σ Q io H (.ok v hp)) (rl : Rl W io hp H) (r : rh io H v x) : Q x H := P io H x Ext.refl rl r
end
end

section
variable {X : Cx}
end

section
variable {W : Wd} {M : Md W} {E : WX} {X : Cx}
end

abbrev D2 := AV → AV → Hep → Op AV
def t2 (W : Wd) (r : D2) : R2 := fun x y H Q => ∃ io hp a b, Rl W io hp H ∧ RV W io H a x ∧ RV W io H b y ∧ Pop W (RV W) Q io H (r a b hp)
section
variable {W : Wd} {M : Md W} {E : WX} {X : Cx} {a b c : Expr} {es : List Expr} {f g k : DE} {fa ga : DA} {r : D2} {pos : Pos}
end

section
variable {W : Wd} {M : Md W} {E : WX} {X : Cx} {a b c : Expr} {es : List Expr} {f g k : DE} {ft gt : DT} {r r' : D2} {pos : Pos}
theorem Pop.ok {T U : Type} {rh : Rel T U} {io : List Addr} {H : Hp} {hp : Hep} {Q : U → Hp → Prop} {v : T} {x : U} (P : Pop W rh Q io H (some (v, hp))) (rl : Rl W io hp H) (r : rh io H v x) : Q x H := P io H x Ext.refl rl r
end

section
variable {W : Wd} {M : Md W} {E : WX} {X : Cx} {a b c : Expr} {st : Stmt} {sts sts' : List Stmt} {f g k : DE} {ft gt : DT} {fs gs : DS} {pos : Pos}
end
end Dn
namespace L2
open PySem PySem.Spec PyProof.Rows
section
variable {X : Cx}
end
end L2
namespace Dn
open PySem PySem.Spec PyProof.Rows L2

def tupOf : AV → Option (List AV)
  | .tup xs => some xs
  | _ => none
section
variable {W : Wd} {io : List Addr} {H : Hp} {hp : Hep}
end

section
variable {W : Wd} {X : Cx}
end

/-- a value as data: lists read off the heap -/
def toD : Nat → Hep → AV → Option PyData
  | 0, _, _ => none
  | _ + 1, _, .non => some .none
  | _ + 1, _, .bl b => some (.bool b)
  | _ + 1, _, .int i => some (.int i)
  | _ + 1, _, .str x => some (.str x)
  | n + 1, h, .tup xs => (xs.mapM (toD n h)).map .tuple
  | n + 1, h, .rol xs => (xs.mapM (toD n h)).map .list
  | n + 1, h, .ref k => match h[k]? with
    | some (.lst xs) => (xs.mapM (toD n h)).map .list
    | _ => none
  | _ + 1, _, _ => none
section
variable {W : Wd} {io : List Addr} {H : Hp} {hp : Hep}
end
section
variable {W : Wd} {X : Cx}
end
end Dn
namespace Dn
open PySem PySem.Spec PyProof.Rows L2

section
variable {k : Type} [DecidableEq k]
def dget (kvs : List (k × AV)) (q : k) : Option AV := (kvs.find? fun kv => decide (kv.1 = q)).map (·.2)
variable {W : Wd} {io : List Addr} {H : Hp}
theorem RKs.len : ∀ {xs : List (k × AV)} {vs : List (k × V)}, RKs W io H xs vs → xs.length = vs.length
  | _, _, .nil => rfl
  | _, _, .cons _ q => by simp [RKs.len q]
theorem RKs.keys : ∀ {xs : List (k × AV)} {vs : List (k × V)}, RKs W io H xs vs → xs.map (·.1) = vs.map (·.1)
  | _, _, .nil => rfl
  | _, _, .cons _ q => by simp [RKs.keys q]
/-- both have it, or none has -/
def RVo (W : Wd) (io : List Addr) (H : Hp) : Option AV → Option V → Prop
  | some a, some v => RV W io H a v
  | none, none => True
  | _, _ => False
theorem RKs.get : ∀ {xs : List (k × AV)} {vs : List (k × V)} (q : k), RKs W io H xs vs → RVo W io H (dget xs q) (valV vs q)
  | _, _, _, .nil => trivial
  | (q', x) :: xs, (_, v) :: vs, q, .cons r t => by
    have ih := RKs.get q t
    unfold dget valV at ih ⊢
    by_cases e : q' = q
    · simp [List.find?_cons, e]
      exact r
    · simp only [List.find?_cons, e, decide_false]
      exact ih
theorem RKs.any : ∀ {xs : List (k × AV)} {vs : List (k × V)} (q : k), RKs W io H xs vs → (xs.any fun kv => decide (kv.1 = q)) = vs.any fun kv => decide (kv.1 = q)
  | _, _, _, .nil => rfl
  | _, _, q, .cons r t => by simp [List.any_cons, RKs.any q t]
end
def ofKey : Key → AV
  | .inl i => .int i
  | .inr x => .str x
section
variable {W : Wd} {io : List Addr} {H : Hp}
end

section
variable {W : Wd} {X : Cx}
end

section
variable {W : Wd} {X : Cx}
end

section
variable {W : Wd} {X : Cx}
section
variable {M : Md W} {E : WX} {e : Expr} {lo hi : Option Expr} {f : DE} {l u : DO} {pos p2 : Pos}
end
end

section
variable {W : Wd} {X : Cx} {M : Md W} {E : WX} {es : List Expr} {f : DA} {pos : Pos}
end
end Dn
namespace Dn
open PySem PySem.Spec PyProof.Rows L2

/-- fixed items, or the list at a place as it is at each turn -/
inductive Src where
  | fix (xs : List AV)
  | at (n : Nat)
  /-- places and items of a sequence -/
  | enF (xs : List AV)
  | enA (n : Nat)
  /-- two lists, side by side -/
  | zip (m n : Nat)
  /-- a locked dict: its keys, values, pairs, or keys with their places -/
  | dK (n w : Nat)
def pickD (w i : Nat) (kv : Key × AV) : AV := match w with
  | 0 => ofKey kv.1
  | 1 => kv.2
  | 2 => .tup [ofKey kv.1, kv.2]
  | _ => .tup [.int i, ofKey kv.1]
/-- the item of a turn: none is a fault, some none the end -/
def Src.next (s : Src) (i : Nat) (h : Hep) : Option (Option AV) := match s with
  | .fix xs => some xs[i]?
  | .at n => (match h[n]? with
    | some (.lst xs) => some xs[i]?
    | _ => none)
  | .enF xs => some (xs[i]?.map fun x => .tup [.int i, x])
  | .enA n => (match h[n]? with
    | some (.lst xs) => some (xs[i]?.map fun x => .tup [.int i, x])
    | _ => none)
  | .zip m n => (match h[m]?, h[n]? with
    | some (.lst xs), some (.lst ys) => some (match xs[i]?, ys[i]? with
      | some x, some y => some (.tup [x, y])
      | _, _ => none)
    | _, _ => none)
  | .dK n w => (match h[n]? with
    | some (.frz (.dK kvs)) => some (kvs[i]?.map (pickD w i))
    | _ => none)
def Src.len (s : Src) (h : Hep) : Nat := match s with
  | .fix xs => xs.length
  | .enF xs => xs.length
  | .at n => (match h[n]? with
    | some (.lst xs) => xs.length
    | _ => 0)
  | .enA n => (match h[n]? with
    | some (.lst xs) => xs.length
    | _ => 0)
  | .zip m _ => (match h[m]? with
    | some (.lst xs) => xs.length
    | _ => 0)
  | .dK n _ => (match h[n]? with
    | some (.frz (.dK kvs)) => kvs.length
    | _ => 0)
section
variable {W : Wd} {M : Md W} {X : Cx} {pos : Pos} {C : CS}
end

section
variable {W : Wd} {M : Md W} {E : WX} {X : Cx} {tg iter : Expr} {body : List Stmt} {f : DI} {g : DG} {fb : DS} {pos : Pos}
end

section
variable {W : Wd} {M : Md W} {E : WX} {X : Cx} {c : Expr} {body : List Stmt} {ft : DT} {fb : DS} {pos : Pos}
end

abbrev E0x : WX := fun _ _ _ _ => False
section
variable {W : Wd} {M : Md W} {E : WX} {X : Cx} {pos : Pos}
end

section
variable {W : Wd} {M : Md W} {E : WX} {X : Cx} {tg : Expr}
end
end Dn
namespace Dn
open PySem PySem.Spec PyProof.Rows L2

abbrev DF := List AV → Hep → R AV
def Pfn (W : Wd) (E : XK) (Q : VK) (io : List Addr) (H : Hp) : R AV → Prop
  | .ok v hp => ∀ io' H' x, Ext W io H io' H' → Rl W io' hp H' → RV W io' H' v x → Q x H'
  | .exc t fs hp => ∀ io' H' cls d, Ext W io H io' H' → Rl W io' hp H' → RX W io' H' t fs cls d → E cls d H'
  | .stuck => False
def spD (W : Wd) (n : Nat) (f : DF) : Sp := fun vs H Q E => ∃ io hp as, as.length = n ∧ Rl W io hp H ∧ RVs W io H as vs ∧ Pfn W E Q io H (f as hp)
def SR.fin : SR → R AV
  | .nx _ h => .ok .non h
  | .rt v h => .ok v h
  | .exc t fs _ h => .exc t fs h
  | _ => .stuck
theorem Pfn.later {W : Wd} {E : XK} {Q : VK} {io io1 : List Addr} {H H1 : Hp} {r : R AV} (h : Pfn W E Q io H r) (e : Ext W io H io1 H1) : Pfn W E Q io1 H1 r := by
  cases r with
  | ok v hp => exact fun io' H' x e' => h io' H' x (e.trans e')
  | exc t fs hp => exact fun io' H' c d e' => h io' H' c d (e.trans e')
  | stuck => exact h
section
variable {P : Program} {w : World} {mg : Str → Option Value} {base : Heap} {W : Wd} {x qual : Str} {params : Arguments} {body : List Stmt} {scope : Scope} {dvs : List V} {kws : List (Str × V)} {f : Addr} {fd : FuncData}
end

def sel {α : Type} (ix : List Nat) (xs : List α) : List α := ix.filterMap (xs[·]?)
/-- n positional values, keywords ks: the bound ones are those at ix of: positional ++ dfl ++ keywords' -/
def BnD (W : Wd) (fd : FuncData) (ps : List Str) (n : Nat) (ks : List Str) (ix : List Nat) (dfl : List AV) : Prop :=
  ∃ (g : List Value → List Value → List Value) (gV : List V → List V → List V), KBn W.K fd ps n ks g gV ∧
    ∀ io H as bs vs zs, RVs W io H as vs → RVs W io H bs zs → RVs W io H (sel ix (as ++ dfl ++ bs)) (gV vs zs)
section
variable {W : Wd} {x qual : Str} {params : Arguments} {body : List Stmt} {scope : Scope} {dvs : List V} {kws : List (Str × V)} {f : Addr} {fd : FuncData} {ps : List Str}
end

section
variable {W : Wd} {M : Md W} {E : WX} {X : Cx} {k j n m : Nat} {f : Addr} {fd : FuncData} {ps ks : List Str} {F : DF} {x : Str} {p pos apos kpos : Pos} {e o : Expr} {es : List Expr} {kws : List Keyword} {fa fk : DA} {fe : DE} {ix : List Nat} {dfl : List AV}
theorem Pst.fn {σ : L2.St} {Q : VK} {io : List Addr} {H : Hp} {r : R AV} (h : Pst W (RV W) E σ Q io H r) : Pfn W (WE E σ) Q io H r := by
  cases r with
  | ok v hp => exact h
  | exc t fs hp => exact h
  | stuck => exact h
end
end Dn
namespace Dn
open PySem PySem.Spec PyProof.Rows L2

section
variable {W : Wd} {M : Md W} {E : WX} {X : Cx}
end

section
variable {W : Wd} {M : Md W} {E : WX} {X : Cx} {f : DE} {fa : DA} {e a b c tg : Expr} {es : List Expr} {g : DG} {pos : Pos}
end
end Dn
namespace Dn
open PySem PySem.Spec PyProof.Rows L2

section
variable {W : Wd} {M : Md W} {E : WX} {X : Cx}
inductive TW where
  | ty (n : String)
  | cls (t : Nat)
def TW.sub (ct : CT) : TW → TW → Bool
  | .ty a, .ty b => a == b || (a == "bool" && b == "int")
  | .cls s, .cls t => ct.sub s t
  | _, _ => false
def TW.val (W : Wd) : TW → Value
  | .ty n => .type n
  | .cls t => .ref (W.cl t)
variable {e o : Expr} {es : List Expr} {fa : DA} {f : DE} {x : Str} {p pos apos : Pos} {r : DL} {id T : String}
variable {name : Str} {r : DMt}
end
end Dn
namespace PySem
open Sem (wp)
section
variable {prog : Program} {w : World} {A : Around} {E : Value → Shared → Prop} {s : Shared}
end
end PySem
namespace Dn
open PySem PySem.Spec PyProof.Rows L2

section
variable {W : Wd} {M : Md W} {E : WX} {X : Cx} {e : Expr} {f : DE} {p pos tpos : Pos} {elts : List Expr} {kk : Nat}
end
end Dn
namespace Dn
open PySem PySem.Spec PyProof.Rows L2
section
variable {W : Wd} {M : Md W} {E : WX} {X : Cx} {e e2 : Expr} {fa : DA} {p pos tpos : Pos} {elts : List Expr} {kk : Nat}
end
end Dn
namespace Dn
open PySem PySem.Spec PyProof.Rows L2

section
variable {W : Wd} {M : Md W} {E : WX} {X : Cx} {f : DE} {e : Expr} {es : List Expr} {gs : DGs} {g : DG} {pos tpos p : Pos} {kk i : Nat} {C : CS}
end
end Dn
namespace Dn
open PySem PySem.Spec PyProof.Rows L2

section
variable {W : Wd} {M : Md W} {E : WX} {X : Cx} {k : Nat}
end
abbrev Bs := List (Nat × List Str × List Nat × List AV)
def Has (P : Program) (w : World) (mg : Str → Option Value) (base : Heap) (W : Wd) (k : Nat) (x : Str) (ps : List Str) (n : Nat) (F : DF) (bs : Bs) : Prop :=
  ∃ (a : Addr) (fd : FuncData), mg x = some (.ref a) ∧ PySem.W.keepIn W.K (.ref a) = true ∧ FnOk P w W.K mg base (L2.CX P w) k a fd ps (spD W n F) ∧ ∀ b ∈ bs, BnD W fd ps b.1 b.2.1 b.2.2.1 b.2.2.2
section
variable {W : Wd} {M : Md W} {E : WX} {X : Cx} {k j n m q : Nat} {ps ks : List Str} {F : DF} {x : Str} {p pos : Pos} {e : Expr} {es : List Expr} {kws : List Keyword} {fa fk : DA} {ix : List Nat} {dfl : List AV} {bs : Bs}
end

/-- a tuple of the written part -/
def flatsB : List V → List Value → Bool
  | [], [] => true
  | v :: vs, u :: us => He.relB v u && flatsB vs us
  | _, _ => false
def tupB (x : Str) (vs : List V) (K : PySem.W.Frag) : Bool := match PySem.W.nsIn K mainGlobals x with
  | some (some (.ref a)) => (match K.lookup a with
    | some ⟨.type "tuple", _, .seq its _, _⟩ => decide (its.size ≤ 1000) && flatsB vs its.toList
    | _ => false)
  | _ => false
def obsE (fa : List He.Fa) (fn : List He.DefD) (xt : List (PySem.W.Frag → Bool)) (K : PySem.W.Frag) : He.AlD := ((He.obsD fa fn K).1 && xt.all fun f => f K, (He.obsD fa fn K).2)
def SaysE (fa : List He.Fa) (fn : List He.DefD) (xt : List (PySem.W.Frag → Bool)) (K : PySem.W.Frag) : Prop := obsE fa fn xt K = He.valD fn
theorem SaysE.says {fa : List He.Fa} {fn : List He.DefD} {xt : List (PySem.W.Frag → Bool)} {K : PySem.W.Frag} (c : SaysE fa fn xt K) : He.SaysD fa fn K ∧ ∀ (i : Nat) (f : PySem.W.Frag → Bool), xt[i]? = some f → f K = true := by
  have c0 : obsE fa fn xt K = He.valD fn := c
  have d1 : (obsE fa fn xt K).1 = true := by
    rw [c0]
    rfl
  have c1 : ((He.obsD fa fn K).1 && xt.all fun f => f K) = true := d1
  have d2 : (obsE fa fn xt K).2 = (He.valD fn).2 := by rw [c0]
  have c2 : (He.obsD fa fn K).2 = (He.valD fn).2 := d2
  obtain ⟨c3, c4⟩ := He.ba c1
  refine ⟨?_, fun i f h => List.all_eq_true.mp c4 f (List.mem_of_getElem? h)⟩
  show He.obsD fa fn K = He.valD fn
  exact Prod.ext c3 c2
end Dn
namespace Dn
open PySem PySem.Spec PyProof.Rows L2

section
variable {W : Wd} {M : Md W} {E : WX} {X : Cx} {k : Nat}
end
def cdB (K : PySem.W.Frag) : Bool := He.eqO (PySem.W.specialIn K (.builtin "object.__class__") "__get__") (some (some (.builtin "getset_descriptor.__get__")))
def ckB (K : PySem.W.Frag) : Bool := decide (PySem.W.takesIn K (.builtin "object.__class__") = some true)
end Dn
namespace Dn
open PySem

def Fr (ex : List Nat) (h h' : Hep) : Prop := h.length ≤ h'.length ∧ ∀ i, i < h.length → i ∉ ex → h'[i]? = h[i]?
theorem Fr.refl {ex : List Nat} {h : Hep} : Fr ex h h := ⟨Nat.le_refl _, fun _ _ _ => rfl⟩
theorem Fr.trans {ex : List Nat} {h h' h'' : Hep} (a : Fr ex h h') (b : Fr ex h' h'') : Fr ex h h'' := ⟨Nat.le_trans a.1 b.1, fun i hi he => (b.2 i (Nat.lt_of_lt_of_le hi a.1) he).trans (a.2 i hi he)⟩
theorem Fr.mono {ex ex' : List Nat} {h h' : Hep} (a : Fr ex h h') (k : ∀ i, i < h.length → i ∈ ex → i ∈ ex') : Fr ex' h h' := ⟨a.1, fun i hi he => a.2 i hi fun z => he (k i hi z)⟩
theorem Fr.at {ex : List Nat} {h h' : Hep} (a : Fr ex h h') {i : Nat} {o : AO} (e : h[i]? = some o) (he : i ∉ ex) : h'[i]? = some o := by
  obtain ⟨hl, _⟩ := List.getElem?_eq_some_iff.mp e
  rw [a.2 i hl he]
  exact e
theorem Fr.set {ex : List Nat} {h : Hep} {i : Nat} {o : AO} (he : i ∈ ex) : Fr ex h (h.set i o) := ⟨by simp, fun j hj hn => List.getElem?_set_ne (fun z => hn (by rw [← z]; exact he))⟩
section
variable {T U : Type} {a : T} {h h1 : Hep} {s s1 : Sl} {t : Nat} {fs : List (Nat × AV)} {v : AV}
variable {f g k : DE} {c d : DT} {x y : DS} {fa ga : DA} {r r' : D2} {u : D1} {l : DL} {i j m n q : Nat} {b : Bool} {gt : DG} {gs : DGs} {F : DF} {ix : List Nat} {dfl : List AV} {lo hi : DO} {ty : String} {dm : DMt}
def AV.nx : AV → Bool
  | .exn _ _ => false
  | _ => true
end

section
variable {h : Hep} {i j : Int}
end
theorem Fr.nil {ex : List Nat} {h h' : Hep} (f : Fr [] h h') : Fr ex h h' := f.mono fun _ _ z => by cases z
mutual
inductive Dr (h : Hep) : AV → PyData → Prop
  | non : Dr h .non .none
  | bl (b : Bool) : Dr h (.bl b) (.bool b)
  | int (i : Int) : Dr h (.int i) (.int i)
  | str (x : Str) : Dr h (.str x) (.str x)
  | tup {xs : List AV} {ds : List PyData} : DrA h xs ds → Dr h (.tup xs) (.tuple ds)
  | rol {xs : List AV} {ds : List PyData} : DrA h xs ds → Dr h (.rol xs) (.list ds)
  | ref {n : Nat} {xs : List AV} {ds : List PyData} : h[n]? = some (.lst xs) → DrA h xs ds → Dr h (.ref n) (.list ds)
inductive DrA (h : Hep) : List AV → List PyData → Prop
  | nil : DrA h [] []
  | cons {x : AV} {d : PyData} {xs : List AV} {ds : List PyData} : Dr h x d → DrA h xs ds → DrA h (x :: xs) (d :: ds)
end
theorem depth_tup {ds : List PyData} : (PyData.tuple ds).depth = PyData.depthAll ds + 1 := by rw [PyData.depth]
theorem depth_list {ds : List PyData} : (PyData.list ds).depth = PyData.depthAll ds + 1 := by rw [PyData.depth]
theorem depthAll_cons {d : PyData} {ds : List PyData} : PyData.depthAll (d :: ds) = max d.depth (PyData.depthAll ds) := by rw [PyData.depthAll]
mutual
theorem toD_dr {h : Hep} : ∀ {a : AV} {d : PyData}, Dr h a d → ∀ n, d.depth < n → toD n h a = some d
  | _, _, .non, n + 1, _ => rfl
  | _, _, .bl b, n + 1, _ => rfl
  | _, _, .int b, n + 1, _ => rfl
  | _, _, .str b, n + 1, _ => rfl
  | _, _, .tup (xs := xs) (ds := ds) r, n + 1, hn => by
    rw [depth_tup] at hn
    have := toD_drA r n (by omega)
    simp [toD, this]
  | _, _, .rol (xs := xs) (ds := ds) r, n + 1, hn => by
    rw [depth_list] at hn
    have := toD_drA r n (by omega)
    simp [toD, this]
  | _, _, .ref (xs := xs) (ds := ds) e r, n + 1, hn => by
    rw [depth_list] at hn
    have := toD_drA r n (by omega)
    simp [toD, this, e]
theorem toD_drA {h : Hep} : ∀ {xs : List AV} {ds : List PyData}, DrA h xs ds → ∀ n, PyData.depthAll ds < n → xs.mapM (toD n h) = some ds
  | _, _, .nil, n, _ => rfl
  | _, _, .cons r t, n, hn => by
    rw [depthAll_cons] at hn
    have h1 := toD_dr r n (by omega)
    have h2 := toD_drA t n (by omega)
    simp [h1, h2]
end
end Dn
namespace Dn
open PySem
end Dn
namespace Dn
open PySem PySem.Spec PyProof.Rows L2

def fget : List (Nat × AV) → Nat → Option AV
  | [], _ => none
  | (k, v) :: r, j => if k = j then some v else fget r j
def fput : List (Nat × AV) → Nat → AV → List (Nat × AV)
  | [], j, x => [(j, x)]
  | (k, v) :: r, j, x => if k = j then (k, x) :: r else (k, v) :: fput r j x
/-- the instance: its place, its class, its attributes -/
def insAt (h : Hep) (a : AV) : Option (Nat × Nat × List (Nat × AV)) := match a with
  | .ref n => match h[n]? with
    | some (.ins t fs) => some (n, t, fs)
    | _ => none
  | _ => none
section
variable {W : Wd} {io : List Addr} {hp : Hep} {H : Hp}
theorem fn_inj {i j : Nat} {s : Str} (h1 : W.fn[i]? = some s) (h2 : W.fn[j]? = some s) : i = j := by
  obtain ⟨l1, e1⟩ := List.getElem?_eq_some_iff.mp h1
  obtain ⟨l2, e2⟩ := List.getElem?_eq_some_iff.mp h2
  exact (List.getElem_inj W.fnd).mp (e1.trans e2.symm)
theorem RFs.get {j : Nat} {s : Str} (hj : W.fn[j]? = some s) {x : AV} : ∀ {fs : List (Nat × AV)} {vs : List (Str × V)}, RFs W io H fs vs → fget fs j = some x → ∃ v, vs.lookup s = some v ∧ RV W io H x v
  | _, _, .nil, h => by cases h
  | _, _, .cons (q := q) (s := s') (v := v) hq r t, h => by
    unfold fget at h
    by_cases e : q = j
    · rw [if_pos e] at h
      cases h
      subst e
      have es : s' = s := Option.some.inj (hq.symm.trans hj)
      subst es
      exact ⟨v, by simp [List.lookup], r⟩
    · rw [if_neg e] at h
      obtain ⟨v', e1, e2⟩ := RFs.get hj t h
      have ne : s ≠ s' := fun z => e (fn_inj (hq.trans (by rw [z])) hj)
      have nb : (s == s') = false := by simpa using ne
      exact ⟨v', by simp [List.lookup, nb, e1], e2⟩
theorem RFs.len : ∀ {fs : List (Nat × AV)} {vs : List (Str × V)}, RFs W io H fs vs → fs.length = vs.length
  | _, _, .nil => rfl
  | _, _, .cons _ _ t => by simp [RFs.len t]
theorem RFs.no {m : Str} (hm : m ∉ W.fn) : ∀ {fs : List (Nat × AV)} {vs : List (Str × V)}, RFs W io H fs vs → vs.lookup m = none
  | _, _, .nil => rfl
  | _, _, .cons (s := s') hq r t => by
    have ne : m ≠ s' := fun z => hm (z ▸ List.mem_of_getElem? hq)
    have nb : (m == s') = false := by simpa using ne
    simp [List.lookup, nb, RFs.no hm t]
end

def setfK (s : Sl) (j : Nat) (v : AV) (o : Option (Nat × Nat × List (Nat × AV))) (h : Hep) : SR := match o with
  | some (n, t, fs) => if fs.length < 900 then .nx s (h.set n (.ins t (fput fs j v))) else .stuck
  | none => .stuck
section
variable {W : Wd} {M : Md W} {E : WX} {X : Cx} {e o value : Expr} {f fo fv : DE} {x : Str} {j : Nat} {pos pos' tpos : Pos}
end

section
variable {W : Wd} {M : Md W} {E : WX} {X : Cx} {k j n m q t : Nat} {f : Addr} {fd : FuncData} {ps ks : List Str} {F : DF} {x : Str} {p pos apos kpos : Pos} {e o : Expr} {es : List Expr} {kws : List Keyword} {fa fk : DA} {fe fo : DE} {ix : List Nat} {dfl : List AV} {bs : Bs}
end
end Dn
namespace Dn
open PySem PySem.Spec PyProof.Rows L2

section
variable {W : Wd} {M : Md W} {E : WX} {X : Cx} {e : Expr} {f g : DE}
end

theorem Pst.imp {W : Wd} {E : WX} {σ : L2.St} {T U T' U' : Type} {rh : Rel T U} {rh' : Rel T' U'} {Q : U → Hp → Prop} {Q' : U' → Hp → Prop} {io : List Addr} {H : Hp} {r : R T'} {k : T' → Hep → R T} (h : Pst W rh E σ Q io H (r.bind k))
    (i : ∀ io1 H1 a hp1 x, Ext W io H io1 H1 → Rl W io1 hp1 H1 → rh' io1 H1 a x → Pst W rh E σ Q io1 H1 (k a hp1) → Q' x H1) : Pst W rh' E σ Q' io H r := by
  cases r with
  | ok v hp => exact fun io' H' x e rl q => i io' H' v hp x e rl q (Pst.later h e)
  | exc t fs hp => exact h
  | stuck => exact h
def HasO (P : Program) (w : World) (mg : Str → Option Value) (base : Heap) (W : Wd) (k : Nat) (t : Nat) (x : Str) (ps : List Str) (n : Nat) (F : DF) : Prop :=
  ∃ (a : Addr) (fd : FuncData), Meth W.K (W.cl t) x a ∧ PySem.W.fnIn W.K a = true ∧ FnOk P w W.K mg base (L2.CX P w) k a fd ps (spD W n F) ∧ BnD W fd ps n [] (List.range n) []
section
variable {W : Wd} {M : Md W} {E : WX} {X : Cx} {k j n t : Nat} {ps : List Str} {F : DF} {x : Str} {p pos apos : Pos} {e e' o : Expr} {f g fo : DE}
abbrev DX := AV → AV → Hep → R AV
def OpX (X : Cx) (W : Wd) (E : WX) (G : Value → Value → Sem Value) (r : DX) : Prop :=
  ∀ (pins : List (Addr × Obj)) (s : Shared) (σ : L2.St) (H : Hp) (io : List Addr) (hp : Hep) (a b : AV) (xv yv : V) (v u : Value) (Q : VK), Inv X pins σ H s → RelV xv v → RelV yv u → Rl W io hp H → RV W io H a xv → RV W io H b yv → Pst W (RV W) E σ Q io H (r a b hp) →
    wpAny (model X.prog X.w) X.A (G v u) (EP X pins σ Q) X.xe s
def ofX (r : D2) : DX := fun a b h => R.of (r a b h)
variable {G : Value → Value → Sem Value} {r r' : DX}
theorem OpX.of {r : D2} (h : OpR X G (t2 W r)) : OpX X W E G (ofX r) := fun pins s σ H io hp a b xv yv v u Q I rx ry rl ra rb P => h pins s σ H xv yv v u Q I rx ry ⟨io, hp, a, b, rl, ra, rb, P.of⟩
def IxX (X : Cx) (W : Wd) (E : WX) (r : DX) : Prop :=
  ∀ (value slice : Expr) (pins : List (Addr × Obj)) (s : Shared) (σ : L2.St) (H : Hp) (io : List Addr) (hp : Hep) (a b : AV) (xv yv : V) (v u : Value) (Q : VK), Inv X pins σ H s → RelV xv v → RelV yv u → Rl W io hp H → RV W io H a xv → RV W io H b yv → Pst W (RV W) E σ Q io H (r a b hp) →
    subscripted slice false v u = operate [v, u] (getItem v u) → subscripted slice true v u = runValue (.builtin "lifetime.subscript" ⟨[v, u], []⟩) → wpAny (model X.prog X.w) X.A (subscriptTail value slice v u) (EP X pins σ Q) X.xe s
theorem IxX.of {r : D2} (h : IxR X (t2 W r)) : IxX X W E (ofX r) := fun value slice pins s σ H io hp a b xv yv v u Q I rx ry rl ra rb P h1 _ => h value slice pins s σ H xv yv v u Q I rx ry ⟨io, hp, a, b, rl, ra, rb, P.of⟩ h1
end
end Dn
namespace Dn
open PySem PySem.Spec PyProof.Rows L2

section
variable {M : Model} {prog : Program} {w : World} {A : Around} {E : Value → Shared → Prop} {s : Shared} {K : PySem.W.Frag} {x C f : Addr} {ox : Obj} {od : Option Obj} {b tb : Value}
end
end Dn
namespace Dn
open PySem PySem.Spec PyProof.Rows L2
section
variable {W : Wd} {M : Md W} {E : WX} {X : Cx} {k j n t : Nat} {ps : List Str} {F : DF} {x : Str} {p pos apos : Pos} {e e' o : Expr} {f g fo : DE}
variable {ct : CT}
end
end Dn
namespace Dn
open PySem PySem.Spec PyProof.Rows L2
section
variable {W : Wd} {M : Md W} {E : WX} {X : Cx} {k j n m q t : Nat} {ps ks : List Str} {F : DF} {x : Str} {p pos apos : Pos} {e o : Expr} {es : List Expr} {kws : List Keyword} {f fo : DE} {fa fk : DA} {ix : List Nat} {dfl : List AV} {bs : Bs}
def HasC (P : Program) (w : World) (mg : Str → Option Value) (base : Heap) (W : Wd) (k : Nat) (t : Nat) (x : Str) (ps : List Str) (n : Nat) (F : DF) (bs : Bs) : Prop :=
  ∃ (a : Addr) (fd : FuncData), Mk W.K (W.cl t) a ∧ mg x = some (.ref (W.cl t)) ∧ W.ct.kit t = true ∧ FnOk P w W.K mg base (L2.CX P w) k a fd ps (spD W n F) ∧ ∀ b ∈ bs, BnD W fd ps b.1 b.2.1 b.2.2.1 b.2.2.2
end
end Dn
namespace Dn
open PySem PySem.Spec PyProof.Rows L2

def clB (K : PySem.W.Frag) (C : Addr) : Bool := PySem.W.plainGet K C Str.empty && (PySem.W.hasDictIn K C && (PySem.W.plainOver K C && (He.eqO (PySem.W.findIn K (.ref C) "__setattr__") (some (some (.builtin "object.__setattr__"))) &&
  (He.eqO (PySem.W.findIn K (.ref C) "__class__") (some (some (.builtin "object.__class__"))) && decide (PySem.W.mroIn K C (.type "object") = some true)))))
def ctOf (n : Nat) (sub : Nat → Nat → Bool) : CT := ⟨fun t => decide (t < n), sub⟩
def clOf (K : PySem.W.Frag) (cs : List Str) (t : Nat) : Addr := He.ga K (cs.getD t Str.empty)
def allN (n : Nat) (p : Nat → Bool) : Bool := (List.range n).all p
abbrev Pth := PySem.W.Frag → Addr
structure DefF where
  ad : Pth
  nm : Str
  ql : Str
  pr : Arguments
  bd : List Stmt
  sp : Scope
  dl : List He.Dv
  kw : List (Str × He.Dv)
def DefF.look (d : DefF) (K : PySem.W.Frag) : He.FnW := match K.lookup (d.ad K) with
  | some ⟨_, _, .func g, _⟩ => some (g.name, g.qualname, g.params, g.body, g.scope, g.globals, g.closure, g.builtins)
  | _ => none
def DefF.want (d : DefF) : He.FnW := some (d.nm, d.ql, d.pr, .stmts d.bd, d.sp, mainGlobals, [], builtinsNs)
def DefF.good (d : DefF) (K : PySem.W.Frag) : Bool := PySem.W.keepIn K (.ref (d.ad K)) && match K.lookup (d.ad K) with
  | some ⟨_, _, .func g, _⟩ => PySem.W.codeIn K g.code d.ql && (He.dflB K g.defaults (d.dl.map (He.Dv.v K)) && He.kwdB K g.kwdefaults (d.kw.map fun q => (q.1, q.2.v K)))
  | _ => false
/-- paths: a def of the module, a method, a property's getter -/
def pDef (x : Str) : Pth := fun K => He.ga K x
def pMeth (C m : Str) : Pth := fun K => He.ma K (He.ga K C) m
def methB (C m : Str) (p : Pth) (K : PySem.W.Frag) : Bool := He.eqO (PySem.W.findIn K (.ref (He.ga K C)) m) (some (some (.ref (p K)))) && (PySem.W.isFn K (.ref (p K)) && PySem.W.keepIn K (.ref (p K)))
def mkB (C : Str) (p : Pth) (K : PySem.W.Frag) : Bool := PySem.W.makesIn K (He.ga K C) && (He.eqO (PySem.W.findIn K (.ref (He.ga K C)) "__init__") (some (some (.ref (p K)))) && (PySem.W.isFn K (.ref (p K)) && PySem.W.keepIn K (.ref (He.ga K C))))
abbrev AlF : Type := Bool × List He.FnW
def obsF (fa : List He.Fa) (fn : List DefF) (xt : List (PySem.W.Frag → Bool)) (K : PySem.W.Frag) : AlF := ((fa.all fun f => f.ok K) && ((fn.all fun d => d.good K) && xt.all fun f => f K), fn.map fun d => d.look K)
def valF (fn : List DefF) : AlF := (true, fn.map DefF.want)
def SaysF (fa : List He.Fa) (fn : List DefF) (xt : List (PySem.W.Frag → Bool)) (K : PySem.W.Frag) : Prop := obsF fa fn xt K = valF fn
section
variable {fa : List He.Fa} {fn : List DefF} {xt : List (PySem.W.Frag → Bool)} {K : PySem.W.Frag}
theorem SaysF.one (c : SaysF fa fn xt K) : (fa.all fun f => f.ok K) = true ∧ (fn.all fun d => d.good K) = true ∧ (xt.all fun f => f K) = true := by
  have c1 : ((fa.all fun f => f.ok K) && ((fn.all fun d => d.good K) && xt.all fun f => f K)) = true := congrArg (fun z : AlF => z.1) c
  obtain ⟨a, b⟩ := He.ba c1
  exact ⟨a, He.ba b⟩
theorem SaysF.x (c : SaysF fa fn xt K) (i : Nat) {f : PySem.W.Frag → Bool} (h : xt[i]? = some f := by rfl) : f K = true := List.all_eq_true.mp c.one.2.2 f (List.mem_of_getElem? h)
end
/-- statements within a class -/
def clsStmt : Stmt → Nat → Stmt
  | .ClassDef _ _ _ body _ _ _ _ _ _ _, i => body.getD i (.Pass ⟨0, 0, 0, 0⟩)
  | s, _ => s
/-- a def that keeps its promise, with the ways it is called -/
def FnB (P : Program) (w : World) (mg : Str → Option Value) (base : Heap) (W : Wd) (k : Nat) (f : Addr) (fd : FuncData) (ps : List Str) (n : Nat) (F : DF) (bs : Bs) : Prop :=
  PySem.W.keepIn W.K (.ref f) = true ∧ FnOk P w W.K mg base (L2.CX P w) k f fd ps (spD W n F) ∧ ∀ b ∈ bs, BnD W fd ps b.1 b.2.1 b.2.2.1 b.2.2.2
section
variable {P : Program} {w : World} {mg : Str → Option Value} {base : Heap} {W : Wd} {k n t : Nat} {f : Addr} {fd : FuncData} {ps : List Str} {F : DF} {bs : Bs} {x : Str}
theorem FnB.has (B : FnB P w mg base W k f fd ps n F bs) (h : mg x = some (.ref f)) : Has P w mg base W k x ps n F bs := ⟨f, fd, h, B.1, B.2.1, B.2.2⟩
theorem FnB.own (B : FnB P w mg base W k f fd ps n F bs) (h : Meth W.K (W.cl t) x f) (hf : PySem.W.fnIn W.K f = true) (i : Nat) (hi : bs[i]? = some (n, [], List.range n, [])) : HasO P w mg base W k t x ps n F := ⟨f, fd, h, hf, B.2.1, B.2.2 _ (List.mem_of_getElem? hi)⟩
theorem FnB.cls (B : FnB P w mg base W k f fd ps n F bs) (h : Mk W.K (W.cl t) f) (hm : mg x = some (.ref (W.cl t))) (hk : W.ct.kit t = true) : HasC P w mg base W k t x ps n F bs := ⟨f, fd, h, hm, hk, B.2.1, B.2.2⟩
end
section
variable {W : Wd} {x qual : Str} {params : Arguments} {body : List Stmt} {scope : Scope} {dvs : List V} {kws : List (Str × V)} {f : Addr} {fd : FuncData} {ps : List Str}
end
/-- the empty tuple of the written part -/
def etB (p : Pth) (K : PySem.W.Frag) : Bool := match K.lookup (p K) with
  | some ⟨.type "tuple", _, .seq its _, _⟩ => its.toList.isEmpty && decide (its.size = 0)
  | _ => false
end Dn
namespace Dn
open PySem
section
variable {T : Type} {a b v : AV} {h h1 : Hep} {s : Sl} {t i j n m q c : Nat} {f g k : DE} {fa fk : DA} {F : DF} {ix : List Nat} {dfl : List AV} {fs : List (Nat × AV)} {r r' : DX} {r2 : D2} {ct : CT}
end
end Dn
namespace Dn
open PySem PySem.Spec PyProof.Rows L2
section
variable {W : Wd} {X : Cx}
end
end Dn
namespace Dn
open PySem PySem.Spec PyProof.Rows L2
section
variable {W : Wd} {M : Md W} {E : WX} {X : Cx}
end
section
variable {W : Wd} {M : Md W} {E : WX} {X : Cx} {k j n t : Nat} {ps : List Str} {F : DF} {x : Str} {p pos apos : Pos} {e e' o : Expr} {f g fo : DE}
end
end Dn
namespace Dn
open PySem PySem.Spec PyProof.Rows L2
section
variable {prog : Program} {w : World} {A : Around} {E : Value → Shared → Prop} {s : Shared}
end
section
variable {X : Cx}
end
section
variable {W : Wd} {M : Md W} {E : WX} {X : Cx} {k : Nat}
end
end Dn
namespace PySem
namespace DX
open PySem.W PySem.Calls PyProof.Rows
structure NewF (O nid : String) (bm : List Value) : Prop where
  spl : splitId nid = some (O, "__new__")
  knd : builtinKind nid = some .builtinFn
  sig : Manifest.signature? nid = some ⟨.any, O, O, .cls, [⟨"args", .varPos, false⟩, ⟨"kwargs", .varKw, false⟩]⟩
  has : bm.contains (.type O) = true
  nat : bm.contains (.type "AttributeError") = false
  nnm : bm.contains (.type "NameError") = false
  can : Manifest.canonical nid = Manifest.canonical "BaseException.__new__"
  ent : entryFor table nid = some Builtin.«BaseException.__new__»
  fin : nid.endsWith ".__new__" = true
  own : nid.dropRight 8 = O
  qui : nid.startsWith "lifetime." = false
  sta : (O != "*") = true
theorem NewF.of {O nid iid : String} {bm : List Value} (F : ExcBaseFacts O nid iid bm) : NewF O nid bm :=
  ⟨F.newSplit, F.newKind, F.newRow, F.hasB, F.noAttr, F.noName, F.canon, F.entry, F.ends, F.owner, F.quiet, F.noStar⟩
section
variable {md : Model} {ar : Around} {ex : Value → Shared → Prop} {hp : Heap} {gs : Array GenState} {dr : Drawn} {tc : Nat} {ops : OsState}
variable {cn qn : Str} {C N : Addr} {bs bm bmB : List Value} {hd : Bool} {sl : List Str} {sb : List Value} {ab : Bool} {col : Option Bool} {dd : Option Addr} {k0 k1 k2 k3 k5 : Option Value} {O nid : String}
abbrev ClsAt (hp : Heap) (cn qn : Str) (C N : Addr) (bs bm : List Value) (hd : Bool) (sl : List Str) (sb : List Value) (ab : Bool) (col : Option Bool) (dd : Option Addr) (k0 k1 k2 k3 k5 : Option Value) (nid : String) : Prop := hp.get? C = some (excClassObj cn qn C N bs bm hd sl sb ab col dd k0 k1 k2 k3 k5 nid)
end
section
variable {prog : Program} {w : World} {ar : Around} {ex : Value → Shared → Prop} {R : Result → Shared → Prop} {hp : Heap} {gs : Array GenState} {dr : Drawn} {tc : Nat} {ops : OsState}
variable {cn qn : Str} {C N : Addr} {bs bm bmB : List Value} {hd : Bool} {sl : List Str} {sb : List Value} {ab : Bool} {col : Option Bool} {dd : Option Addr} {k0 k1 k2 k3 k5 : Option Value} {O nid : String}
end
section
variable {prog : Program} {w : World} {A : Around} {R : Result → Shared → Prop} {g : Array GenState} {d : Drawn} {tt : Nat} {os : OsState}
end
end DX
end PySem

namespace Dn
open PySem PySem.Spec PyProof.Rows L2

/-- a class of exceptions with an own __init__ at I, field nm -/
structure Xi (K : PySem.W.Frag) (C : Addr) (bmB : List Value) (newId : String) (nm : Str) : Prop where
  ini : PySem.W.excInitIn K C bmB newId = true
  ovr : PySem.W.excOver K C bmB = true
  tkr : PySem.W.takerIn K C nm = some none
  dct : PySem.W.hasDictIn K C = true
  sat : PySem.W.findIn K (.ref C) "__setattr__" = some (some (.builtin "object.__setattr__"))
  sub : PySem.W.subIn K (.ref C) (.type "BaseException") = some true
  typ : PySem.W.typeIn K (.ref C) = some (.type "type")
  kep : PySem.W.keepIn K (.ref C) = true
section
variable {X : Cx} {pins : List (Addr × Obj)} {σ : L2.St} {H : Hp} {s : Shared} {e C : Addr} {nm : Str} {y : V} {u : Value} {Q : Unit → Shared → Prop} {E : Value → Shared → Prop} {A : Around} {B newId initId : String} {bmB : List Value}
end
section
variable {X : Cx} {E : WX} {C : Addr} {nm : Str} {B newId initId : String} {bmB : List Value} {x : Str} {p pos : Pos} {e : Expr}
end
end Dn
namespace Dn
open PySem PySem.Spec PyProof.Rows L2

section
variable {X : Cx} {pins : List (Addr × Obj)} {σ : L2.St} {H : Hp} {a : Addr} {cls : Value} {d : Option Addr} {s : Shared} {D : Ends}
variable {hds : List ExceptHandler} {x n : Str} {np pos : Pos} {b₀ : Stmt} {suite : List Stmt} {c : Value} {i : Nat}
end
end Dn
namespace Dn
open PySem PySem.Spec PyProof.Rows L2

/-- the classes of exceptions: their numbers n .. m - 1, which lies under which, which under built-in ones -/
structure XT where
  n : Nat
  m : Nat
  sub : Nat → Nat → Bool
  ty : List (Nat × String × Bool)
abbrev Hds := List (Nat × Option Nat × DS)
structure XWd (W : Wd) (T : XT) : Prop where
  exm : ∀ s t, T.n ≤ s → s < T.m → T.n ≤ t → t < T.m → PySem.W.exmOne W.K (.ref (W.cl s)) (.ref (W.cl t)) = some (T.sub s t)
  xf : ∀ t, T.n ≤ t → t < T.m → XfC W.K (W.cl t)
  no : ∀ t s, T.n ≤ t → t < T.m → s ∈ W.fn → PySem.W.findIn W.K (.ref (W.cl t)) s = some none
  ec : ∀ t, T.n ≤ t → t < T.m → ExcC W.K (W.cl t)
  ty : ∀ q ∈ T.ty, PySem.W.kitOne W.K (.ref (W.cl q.1)) (.type q.2.1) = some q.2.2
section
variable {W : Wd} {M : Md W} {E : WX} {X : Cx} {t j k : Nat} {x : Str} {e : Expr} {f : DE} {p p2 pos : Pos}
end

def exM (W : Wd) (i t : Nat) (fs : List (Nat × AV)) (a : Addr) (d : Option Addr) : Md W where
  rel := fun io H as σ => (as.length = σ.length ∧ σ[i]? = some (some (.ref a)) ∧ as[i]? = some (some (.exn t fs))) ∧ (∀ (j : Nat) (v : AV), j ≠ i → as[j]? = some (some v) → ∃ x, σ[j]? = some (some x) ∧ RV W io H v x) ∧
    RXf W io H fs d
  mono := fun e h => ⟨h.1, fun j v n q => by
    obtain ⟨x, b, r⟩ := h.2.1 j v n q
    exact ⟨x, b, r.mono e⟩, h.2.2.mono e⟩
  var := fun {io H as σ j v} h q hn => by
    by_cases hj : j = i
    · subst hj
      rw [h.1.2.2] at q
      cases q
      exact absurd rfl (hn t fs)
    · exact h.2.1 j v hj q
  ok := fun j => j ≠ i
  set := fun {io H as σ j v x} h r hj => ⟨⟨by simp [h.1.1], by rw [List.getElem?_set_ne hj]; exact h.1.2.1, by rw [List.getElem?_set_ne hj]; exact h.1.2.2⟩, fun l w n q => by
    by_cases e : l = j
    · subst e
      obtain ⟨hl, _⟩ := List.getElem?_eq_some_iff.mp q
      rw [List.length_set] at hl
      rw [List.getElem?_set_self hl] at q
      cases q
      exact ⟨x, List.getElem?_set_self (by rw [← h.1.1]; exact hl), r⟩
    · rw [List.getElem?_set_ne (Ne.symm e)] at q ⊢
      exact h.2.1 l w n q, h.2.2⟩
  wipe := fun {io H as σ j} h hj => ⟨⟨by simp [h.1.1], by rw [List.getElem?_set_ne hj]; exact h.1.2.1, by rw [List.getElem?_set_ne hj]; exact h.1.2.2⟩, fun l w n q => by
    by_cases e : l = j
    · subst e
      obtain ⟨hl, _⟩ := List.getElem?_eq_some_iff.mp q
      rw [List.length_set] at hl
      rw [List.getElem?_set_self hl] at q
      cases q
    · rw [List.getElem?_set_ne (Ne.symm e)] at q ⊢
      exact h.2.1 l w n q, h.2.2⟩
section
variable {W : Wd} {X : Cx} {T : XT}
/-- the clauses, read -/
inductive HdD (W : Wd) (X : Cx) (T : XT) : List ExceptHandler → Hds → Prop
  | nil : HdD W X T [] []
  | only {x : Str} {c : Nat} {f : DS} {b₀ : Stmt} {suite : List Stmt} {np pos : Pos} {hds : List ExceptHandler} {hs : Hds} (hc : Names X x (.ref (W.cl c))) (h1 : T.n ≤ c) (h2 : c < T.m)
      (hsu : ∀ (a : Addr) (oe : Obj) (pn : List (Addr × Obj)), PSs (X.suite a ((a, oe) :: pn)) (b₀ :: suite) (tS W (std W) E0x f)) (r : HdD W X T hds hs) :
      HdD W X T (.ExceptHandler (some (.Name x np)) none (b₀ :: suite) pos :: hds) ((c, none, f) :: hs)
  | as {x n : Str} {i c : Nat} {f : DS} {b₀ : Stmt} {suite : List Stmt} {np pos : Pos} {hds : List ExceptHandler} {hs : Hds} (hc : Names X x (.ref (W.cl c))) (h1 : T.n ≤ c) (h2 : c < T.m) (hN : X.N.Nodup) (hi : X.N[i]? = some n) (hl : X.env.kindOf n = some .local)
      (hsu : ∀ (a : Addr) (oe : Obj) (pn : List (Addr × Obj)) (t : Nat) (fs : List (Nat × AV)) (d : Option Addr), T.n ≤ t → t < T.m → Zc (.ref (W.cl t)) d oe → (∃ vs, oe.data = .fields vs) → PSs (X.suite a ((a, oe) :: pn)) (b₀ :: suite) (tS W (exM W i t fs a d) E0x f)) (r : HdD W X T hds hs) :
      HdD W X T (.ExceptHandler (some (.Name x np)) (some n) (b₀ :: suite) pos :: hds) ((c, some i, f) :: hs)
end
section
variable {W : Wd} {X : Cx} {T : XT} {E : WX} {a : Addr} {oe : Obj} {pn : List (Addr × Obj)} {i j t : Nat} {fs : List (Nat × AV)} {d : Option Addr} {x nm : Str} {p pos : Pos}
end
end Dn
namespace Dn
open PySem PySem.Spec PyProof.Rows L2

section
variable {X : Cx}
end
/-- what the head must show of the classes cs; behind them stand the exceptions xs -/
def wdXB (cs xs fn : List Str) (sub : Nat → Nat → Bool) (K : PySem.W.Frag) : Bool :=
  allN cs.length fun t => clB K (clOf K (cs ++ xs) t) && (clsB K (clOf K (cs ++ xs) t) &&
    ((tyNames.all fun n => decide (PySem.W.kitOne K (.type n) (.ref (clOf K (cs ++ xs) t)) = some false) && decide (PySem.W.kitOne K (.ref (clOf K (cs ++ xs) t)) (.type n) = some false)) &&
    ((allN cs.length fun s => decide (PySem.W.kitOne K (.ref (clOf K (cs ++ xs) s)) (.ref (clOf K (cs ++ xs) t)) = some (sub s t)) && decide (PySem.W.subIn K (.ref (clOf K (cs ++ xs) s)) (.ref (clOf K (cs ++ xs) t)) = some (sub s t))) &&
      fn.all fun x => He.eqO (PySem.W.findIn K (.ref (clOf K (cs ++ xs) t)) x) (some none))))
def xcB (fn : List Str) (K : PySem.W.Frag) (C : Addr) : Bool := xfB K C && ((fn.all fun x => He.eqO (PySem.W.findIn K (.ref C) x) (some none)) && (He.eqO (PySem.W.findIn K (.ref C) "__class__") (some (some (.builtin "object.__class__"))) && decide (PySem.W.mroIn K C (.type "object") = some true)))
def xwB (cs fn : List Str) (T : XT) (K : PySem.W.Frag) : Bool :=
  allN (T.m - T.n) (fun i => xcB fn K (clOf K cs (T.n + i)) && allN (T.m - T.n) fun j => decide (PySem.W.exmOne K (.ref (clOf K cs (T.n + i))) (.ref (clOf K cs (T.n + j))) = some (T.sub (T.n + i) (T.n + j)))) &&
    T.ty.all fun q => decide (PySem.W.kitOne K (.ref (clOf K cs q.1)) (.type q.2.1) = some q.2.2)
def tyB (K : PySem.W.Frag) (C : Addr) : Bool := decide (PySem.W.subIn K (.ref C) (.type "BaseException") = some true) && (decide (PySem.W.typeIn K (.ref C) = some (.type "type")) && PySem.W.keepIn K (.ref C))
def x0B (x : Str) (bmB : List Value) (newId : String) (K : PySem.W.Frag) : Bool := PySem.W.excIn K (He.ga K x) bmB newId && tyB K (He.ga K x)
end Dn
namespace Dn
open PySem
section
variable {h : Hep} {s : Sl} {t j i c : Nat} {fs : List (Nat × AV)} {v : AV} {f : DE} {fb : DS} {T : XT} {hs : Hds} {n : String}
end
end Dn
namespace Dn
open PySem PySem.Spec PyProof.Rows L2

section
variable {W : Wd} {M : Md W} {E : WX} {X : Cx} {o e f : Expr} {fo fk fx : DE} {pos apos cpos : Pos}
end
end Dn
namespace Dn
open PySem PySem.Spec PyProof.Rows L2

structure Ext0 (W : Wd) (H H' : Hp) : Prop where
  tup : ∀ a xs, SqT W.K H a xs → SqT W.K H' a xs
  rol : ∀ a xs, RoL W.K H a xs → RoL W.K H' a xs
  tab : LamX.Tabs W.T H → LamX.Tabs W.T H'
  cod : ∀ a u, H a = some (.ext u) → H' a = some (.ext u)
section
variable {W : Wd} {io : List Addr} {H H' : Hp}
mutual
theorem RV.mono0 (e : Ext0 W H H') : ∀ {x : AV} {v : V}, RV W io H x v → RV W io H' x v
  | _, _, .non => .non
  | _, _, .bl b => .bl b
  | _, _, .int i => .int i
  | _, _, .str x => .str x
  | _, _, .tup h r => .tup (e.tup _ _ h) (RVs.mono0 e r)
  | _, _, .rol h r => .rol (e.rol _ _ h) (RVs.mono0 e r)
  | _, _, .ref h => .ref h
  | _, _, .adr a => .adr a
  | _, _, .ty n => .ty n
  | _, _, .cls t => .cls t
  | _, _, .exi h => .exi (h.mono fun a u => e.cod a u)
  | _, _, .ndc h r => .ndc (e.cod _ _ h) (RV.mono0 e r)
theorem RVs.mono0 (e : Ext0 W H H') : ∀ {xs : List AV} {vs : List V}, RVs W io H xs vs → RVs W io H' xs vs
  | _, _, .nil => .nil
  | _, _, .cons r q => .cons (RV.mono0 e r) (RVs.mono0 e q)
end
theorem RKs.mono0 {k : Type} (e : Ext0 W H H') : ∀ {xs : List (k × AV)} {vs : List (k × V)}, RKs W io H xs vs → RKs W io H' xs vs
  | _, _, .nil => .nil
  | _, _, .cons r q => .cons (RV.mono0 e r) (RKs.mono0 e q)
theorem RFs.mono0 (e : Ext0 W H H') : ∀ {xs : List (Nat × AV)} {vs : List (Str × V)}, RFs W io H xs vs → RFs W io H' xs vs
  | _, _, .nil => .nil
  | _, _, .cons f r q => .cons f (RV.mono0 e r) (RFs.mono0 e q)
theorem RO.mono0 (e : Ext0 W H H') {o : AO} {u : HO} (h : RO W io H o u) : RO W io H' o u := by
  induction h with
  | lst r => exact .lst (r.mono0 e)
  | dK r => exact .dK (r.mono0 e)
  | dT r => exact .dT (r.mono0 e)
  | ins k r => exact .ins k (r.mono0 e)
  | frz _ ih => exact .frz ih
variable {p : Addr} {od : Obj} {vs : List (Key × V)} {o : HO}
end
section
variable {W : Wd} {M : Md W} {E : WX} {X : Cx} {e : Expr} {fd f : DE}
end

section
variable {W : Wd} {io : List Addr} {H : Hp} {n : Nat} {p : Addr} {od : Obj} {vs : List (Key × V)}
theorem RKs.at_ {k : Type} {io : List Addr} {H : Hp} : ∀ {xs : List (k × AV)} {vs : List (k × V)} {i : Nat} {q : k} {a : AV}, RKs W io H xs vs → xs[i]? = some (q, a) → ∃ v, vs[i]? = some (q, v) ∧ RV W io H a v
  | _, _, _, _, _, .nil, h => by cases h
  | _, _, 0, _, _, .cons r t, h => by
    cases h
    exact ⟨_, rfl, r⟩
  | _, _, i + 1, q, a, .cons r t, h => by
    obtain ⟨v, e1, e2⟩ := RKs.at_ (i := i) t h
    exact ⟨v, e1, e2⟩
end
section
variable {W : Wd} {M : Md W} {E : WX} {X : Cx} {tg e : Expr} {f : DE} {apos cpos : Pos}
end
end Dn
namespace Dn
open PySem PySem.Spec PyProof.Rows L2

section
variable {W : Wd} {M : Md W} {E : WX} {X : Cx} {pos : Pos}
end

section
variable {W : Wd} {M : Md W} {E : WX} {X : Cx}
end

section
variable {W : Wd} {X : Cx}
end

section
variable {W : Wd} {X : Cx}
end
end Dn
namespace Dn
open PySem PySem.Spec PyProof.Rows L2

abbrev DGH := AV → Sl → Hep → SR
abbrev DGHs := List AV → Sl → Hep → SR
def hN (i : Nat) : DGH := fun v s h => .nx (s.set i (some v)) h
def hFK (s : Sl) (j : Nat) (v : AV) (r : R AV) : SR := match r with
  | .ok o h => setfK s j v (insAt h o) h
  | _ => .stuck
def hF (j : Nat) (fo : DE) : DGH := fun v s h => hFK s j v (fo s h)
def hC (g : DGH) (gs : DGHs) : DGHs := fun xs s h => match xs with
  | x :: r => (g x s h).then (gs r)
  | [] => .stuck
def hT (gs : DGHs) : DGH := fun v s h => match tupOf v with
  | some xs => gs xs s h
  | none => .stuck
def Pnx (W : Wd) (M : Md W) (Q : L2.St → Hp → Prop) (io : List Addr) (H : Hp) : SR → Prop
  | .nx s hp => ∀ io' H' σ', Ext W io H io' H' → Rl W io' hp H' → M.rel io' H' s σ' → Q σ' H'
  | _ => False
section
variable {W : Wd} {M : Md W} {E : WX} {X : Cx}
theorem Pnx.later {Q : L2.St → Hp → Prop} {io io1 : List Addr} {H H1 : Hp} {r : SR} (h : Pnx W M Q io H r) (e : Ext W io H io1 H1) : Pnx W M Q io1 H1 r := by
  cases r with
  | nx s hp => exact fun io' H' σ' e' => h io' H' σ' (e.trans e')
  | _ => exact h
end

section
variable {W : Wd} {M : Md W} {E : WX} {X : Cx}
end
end Dn
namespace PySem
open Sem (wp)
section
variable {prog : Program} {w : World} {A : Around} {E : Value → Shared → Prop} {s : Shared}
end
end PySem
namespace Dn
open PySem PySem.Spec PyProof.Rows L2

section
variable {W : Wd} {io : List Addr} {H : Hp} {n : Nat} {p : Addr} {od : Obj} {vs : List (Key × V)}
end
section
variable {W : Wd} {M : Md W} {E : WX} {X : Cx} {e : Expr} {f : DE} {p pos tpos : Pos} {elts : List Expr} {kk : Nat}
end
end Dn
namespace Dn
open PySem PySem.Spec PyProof.Rows L2

section
variable {W : Wd} {M : Md W} {E : WX} {X : Cx} {io : List Addr} {H H' : Hp} {hp : Hep}
end
end Dn
namespace Dn
open PySem L2
end Dn
namespace Dn
open PySem PySem.Spec PyProof.Rows L2

section
variable {W : Wd} {M : Md W} {E : WX} {X : Cx} {c a b : Expr} {ft fa fb : DT} {pos : Pos}
end
end Dn
namespace Dn
open PySem PySem.SeqAt
open AutoSeq1 (wpAny_loadPart')
open MeetsSeq MeetsSeq2 MeetsSeq3 SeqRoads2
section
variable {prog : Program} {w : World}
end
end Dn
namespace Dn
open PySem PySem.Spec PyProof.Rows L2
section
variable {W : Wd} {X : Cx}
end
end Dn
namespace Dn
open PySem PySem.Spec PyProof.Rows L2
section
variable {prog : Program} {w : World} {A : Around} {E : Value → Shared → Prop} {s : Shared}
end
section
variable {X : Cx} {pos : Pos}
end
section
variable {W : Wd} {M : Md W} {E : WX} {X : Cx}
end
section
variable {W : Wd} {M : Md W} {E : WX} {X : Cx} {tg iter : Expr} {body : List Stmt} {f : DI} {g : DGH} {fb : DS} {pos : Pos}
end
end Dn
namespace Dn
open PySem PySem.Spec PyProof.Rows L2
section
variable {P : Program} {w : World} {mg : Str → Option Value} {base : Heap} {W : Wd} {k n : Nat} {x : Str} {ps : List Str} {F : DF} {bs : Bs}
end
end Dn
namespace Dn
open PySem PySem.Spec PyProof.Rows L2
structure ClsAt (K : PySem.W.Frag) (C : Addr) (m : Str) (f : Addr) : Prop where
  rd : PySem.W.readsIn K C (.type "type") = true
  ga : PySem.W.specialIn K (.ref C) "__getattribute__" = some (some (.builtin "type.__getattribute__"))
  at_ : PySem.W.findCls K (.ref C) (.type "type") m = some (.val (.ref f))
  kp : PySem.W.keepIn K (.ref f) = true
def valB (r : Option PySem.W.CFound) (a : Addr) : Bool := match r with
  | some (.val (.ref g)) => decide (g = a)
  | _ => false
def clsatB (C m : Str) (p : Pth) (K : PySem.W.Frag) : Bool := PySem.W.readsIn K (He.ga K C) (.type "type") && (He.eqO (PySem.W.specialIn K (.ref (He.ga K C)) "__getattribute__") (some (some (.builtin "type.__getattribute__"))) && (valB (PySem.W.findCls K (.ref (He.ga K C)) (.type "type") m) (p K) && PySem.W.keepIn K (.ref (p K))))
section
variable {P : Program} {w : World} {mg : Str → Option Value} {base : Heap} {W : Wd} {k n t : Nat} {f : Addr} {fd : FuncData} {ps : List Str} {F : DF} {x : Str} {bs : Bs}
end
section
variable {W : Wd} {M : Md W} {E : WX} {X : Cx} {k j n m q t : Nat} {ps ks : List Str} {F : DF} {x c : Str} {p pos apos kpos : Pos} {e : Expr} {es : List Expr} {kws : List Keyword} {fa fk : DA} {ix : List Nat} {dfl : List AV} {bs : Bs}
end
end Dn
namespace Dn
open PySem PySem.Spec PyProof.Rows L2
end Dn
namespace Dn
open PySem PySem.Spec PyProof.Rows L2
section
variable {W : Wd} {X : Cx}
end
end Dn
namespace Dn
open PySem PySem.Spec PyProof.Rows L2
section
variable {prog : Program} {w : World} {A : Around} {E : Value → Shared → Prop} {s : Shared} {K : PySem.W.Frag} {x y C C2 : Addr} {ox oy : Obj} {od od2 : Option Obj}
end
section
variable {W : Wd} {M : Md W} {E : WX} {X : Cx} {k j n q t : Nat} {ps : List Str} {F : DF} {ct : CT}
end
section
variable {P : Program} {w : World} {mg : Str → Option Value} {base : Heap} {W : Wd} {x qual : Str} {params : Arguments} {body : List Stmt} {scope : Scope} {f : Addr} {fd : FuncData}
end
section
variable {W : Wd} {M : Md W} {E : WX} {X : Cx} {k j n m t : Nat} {ks : List Str} {F : DF} {x : Str} {p pos : Pos} {e : Expr} {es : List Expr} {fa : DA} {f : Addr}
end
end Dn
namespace Dn
open PySem PySem.Spec PyProof.Rows L2
section
variable {W : Wd} {M : Md W} {E : WX} {X : Cx} {o e f : Expr} {fo fk fx : DE} {pos apos cpos : Pos}
end
section
variable {W : Wd} {M : Md W} {E : WX} {X : Cx} {k j n m t : Nat} {F : DF} {x : Str} {p pos p2 : Pos} {e e2 : Expr} {es : List Expr} {fa : DA} {f : Addr}
end
section
variable {W : Wd} {X : Cx}
end
end Dn
namespace Dn
open PySem PySem.Spec PyProof.Rows L2
section
variable {W : Wd} {M : Md W} {E : WX} {X : Cx} {a b : Expr} {es : List Expr} {f g : DE} {pos : Pos}
end
end Dn
namespace Dn
open PySem PySem.Spec PyProof.Rows L2
section
variable {W : Wd} {M : Md W} {E : WX} {X : Cx} {k j n m t : Nat} {F : DF} {x : Str} {p pos p2 p3 : Pos} {e e2 : Expr} {es : List Expr} {fa : DA} {f : Addr} {fe : DE}
open PySem.Calls in
end
end Dn
namespace Dn
open PySem PySem.Spec PyProof.Rows L2

section
variable {W : Wd} {M : Md W} {E : WX} {X : Cx} {st : Stmt} {fd : DE} {f : DS}
end
end Dn
namespace Dn
open PySem PySem.Spec PyProof.Rows L2

section
variable {W : Wd} {X : Cx}
end

end Dn
namespace Dn
open PySem PySem.Spec PyProof.Rows L2

section
variable {M : Model} {A : Around} {E : Value → Shared → Prop} {s : Shared} {K : PySem.W.Frag} {x C L f : Addr} {h₀ : Heap} {m : Str → Option Value} {ox : Obj} {od : Option Obj} {Q : Value → Shared → Prop}
end
section
variable {W : Wd} {M : Md W} {E : WX} {X : Cx} {k j t : Nat} {ps : List Str} {F : DF} {pos : Pos} {o : Expr} {fo : DE}
end
end Dn
namespace Dn
open PySem PySem.Spec PyProof.Rows L2

section
variable {W : Wd} {M : Md W} {E : WX} {X : Cx} {pos : Pos}
inductive PDs (W : Wd) (M : Md W) (E : WX) (X : Cx) : List (Option Expr) → List Expr → List (DE × DE) → Prop
  | nil : PDs W M E X [] [] []
  | cons {k v : Expr} {ks : List (Option Expr)} {vs : List Expr} {fk fv : DE} {l : List (DE × DE)} : PE X k (tD W M E fk) → PE X v (tD W M E fv) → PDs W M E X ks vs l → PDs W M E X (some k :: ks) (v :: vs) ((fk, fv) :: l)
end
end Dn
namespace Dn
open PySem
end Dn
namespace Dn
open PySem PySem.Spec PyProof.Rows L2

section
variable {W : Wd} {M : Md W} {E : WX} {X : Cx} {k : Nat}
end
end Dn
namespace Dn
open PySem PySem.Spec PyProof.Rows L2
section
variable {W : Wd} {X : Cx}
end
end Dn
namespace Dn
open PySem PySem.Spec PyProof.Rows L2
section
variable {X : Cx} {W : Wd} {M : Md W} {E : WX} {j k t : Nat} {x : Str} {ps : List Str} {F : DF}
end
end Dn
namespace Dn
open PySem PySem.Spec PyProof.Rows L2
section
variable {W : Wd} {M : Md W} {E : WX} {X : Cx}
end
end Dn
namespace Dn
open PySem PySem.Spec PyProof.Rows L2
/-- a def's promise where nothing is being shown -/
def FnG (P : Program) (w : World) (K : PySem.W.Frag) (mg : Str → Option Value) (base : Heap) (CX : CXT) (k : Nat) (f : Addr) (fd : FuncData) (ps : List Str) (sp : Sp) : Prop :=
  (∀ vs H Q E, sp vs H Q E → vs.length = ps.length) ∧
    ∀ (A : Around) (outer : List Env) (s : Shared) (H : Hp) (args : Args) (us : List Value) (vs : List V) (Q : VK) (E : XK), A.guards = some [] → Room k A → Env0 P w K mg base A outer s H → BindsTo s fd args (ps.zip us) → Vals vs us →
      sp vs H Q E → codeAny (model P w) A (.call (.ref f) args) (CR CX outer P w H s Q E) s
theorem FnG.imp {P : Program} {w : World} {K : PySem.W.Frag} {mg : Str → Option Value} {base : Heap} {CX : CXT} {k : Nat} {f : Addr} {fd : FuncData} {ps : List Str} {sp sp' : Sp} (F : FnG P w K mg base CX k f fd ps sp)
    (h : ∀ vs H Q E, sp' vs H Q E → sp vs H Q E) : FnG P w K mg base CX k f fd ps sp' :=
  ⟨fun vs H Q E q => F.1 _ _ _ _ (h _ _ _ _ q), fun A outer s H args us vs Q E hg hr he hb hv hs => F.2 A outer s H args us vs Q E hg hr he hb hv (h _ _ _ _ hs)⟩
section
variable {P : Program} {w : World} {mg : Str → Option Value} {base : Heap} {W : Wd} {x qual : Str} {params : Arguments} {body : List Stmt} {scope : Scope} {dvs : List V} {kws : List (Str × V)} {f : Addr} {fd : FuncData}
end
section
variable {W : Wd} {M : Md W} {E : WX} {X : Cx} {k j n m q : Nat} {f : Addr} {fd : FuncData} {ps ks : List Str} {F : DF} {x : Str} {p pos : Pos} {e : Expr} {es : List Expr} {kws : List Keyword} {fa fk : DA} {ix : List Nat} {dfl : List AV} {bs : Bs}
def HasG (P : Program) (w : World) (mg : Str → Option Value) (base : Heap) (W : Wd) (k : Nat) (x : Str) (ps : List Str) (n : Nat) (F : DF) (bs : Bs) : Prop :=
  ∃ (a : Addr) (fd : FuncData), mg x = some (.ref a) ∧ PySem.W.keepIn W.K (.ref a) = true ∧ FnG P w W.K mg base (L2.CX P w) k a fd ps (spD W n F) ∧ ∀ b ∈ bs, BnD W fd ps b.1 b.2.1 b.2.2.1 b.2.2.2
end
/-- a def, with the ways it is called -/
def FnBG (P : Program) (w : World) (mg : Str → Option Value) (base : Heap) (W : Wd) (k : Nat) (f : Addr) (fd : FuncData) (ps : List Str) (n : Nat) (F : DF) (bs : Bs) : Prop :=
  PySem.W.keepIn W.K (.ref f) = true ∧ FnG P w W.K mg base (L2.CX P w) k f fd ps (spD W n F) ∧ ∀ b ∈ bs, BnD W fd ps b.1 b.2.1 b.2.2.1 b.2.2.2
theorem FnBG.has {P : Program} {w : World} {mg : Str → Option Value} {base : Heap} {W : Wd} {k : Nat} {f : Addr} {fd : FuncData} {ps : List Str} {n : Nat} {F : DF} {bs : Bs} {x : Str} (B : FnBG P w mg base W k f fd ps n F bs) (h : mg x = some (.ref f)) : HasG P w mg base W k x ps n F bs := ⟨f, fd, h, B.1, B.2.1, B.2.2⟩

/-- what is tracked at the beginning: the script, and the tables ts -/
def startH (ts : List Addr) (a : Addr) (ol : Option Obj) (xs : List V) : Hp := fun b =>
  if b ∈ ts then some (.tbl #[]) else if b = a then ol.map fun o => .frz o (.lst xs) else none
theorem law_run {P : Program} {w : World} {K : PySem.W.Frag} {mg mb : Str → Option Value} {CX : CXT} {fa a : Addr} {cs : List (Addr × Addr)} {s₁ : Shared} {vs : List Value} {ns : List Int}
    (KX : K.In s₁.heap) (hns : s₁.heap.Ns mainGlobals mg) (hb : s₁.heap.Ns builtinsNs mb) (hbb : ∀ x : Str, x ≠ "__name__" → mb x = bootBuiltins x) (hlim : s₁.heap.NoLimit) (hg : s₁.gens = #[])
    (hT : ∀ p ∈ cs, s₁.heap.get? p.2 = some { cls := .none, data := .fields #[] }) (nT : ∀ p ∈ cs, K.lookup p.2 = none) (C : ∀ p ∈ cs, PySem.W.CodeHd s₁.heap p.1 p.2)
    (hbm : ∃ (bm : Addr) (ob : Obj), mg "__builtins__" = some (.ref bm) ∧ bm ≠ builtinsNs ∧ s₁.heap.get? bm = some ob ∧ ob.cls = .type "module" ∧ ob.dict = some builtinsNs ∧ ob.data = .plain)
    (ha : s₁.heap.get? a = some { cls := .type "list", data := .seq vs.toArray }) (hi : IntsAre vs ns) (hl : ns.length ≤ sizeLine)
    (run : ∀ (base : Heap) (H : Hp), K.In base → base.Ns mainGlobals mg → (∀ p ∈ cs, LamX.TabB base mg p.1 p.2) → (∀ p ∈ cs, H p.2 = some (.tbl #[])) → (∀ b, H b = none ∨ (b ∈ cs.map (·.2) ∧ H b = some (.tbl #[])) ∨ ∃ o xs, H b = some (.frz o (.lst xs))) → SqL K H a (ns.map V.int) → Env0 P w K mg base callerA [] s₁ H →
      codeAny (model P w) callerA (.call (.ref fa) ⟨[.ref a], []⟩) (CR CX [] P w H s₁ (fun v _ => v = .bl true) fun _ _ _ => False) s₁)
    (hCX : ∀ H e s', CX [] H s₁ (fun _ _ _ => False) e s' → False) :
    codeAny (model P w) callerA (.call (.ref fa) ⟨[.ref a], []⟩) (fun r s' => r = .ok (.ret (.bool true)) ∧ OldK s₁.heap s'.heap ∧ s'.os = s₁.os ∧ AllBare s'.gens) s₁ := by
  have rv := vals_ints hi
  have tabs : ∀ b ∈ cs.map (·.2), s₁.heap.get? b = some { cls := .none, data := .fields #[] } := fun b m => by
    obtain ⟨p, hp, rfl⟩ := List.mem_map.mp m
    exact hT p hp
  have aT : a ∉ cs.map (·.2) := fun m => by
    have z := ha.symm.trans (tabs a m)
    have z2 : Data.seq vs.toArray _ = Data.fields #[] := congrArg Obj.data (Option.some.inj z)
    cases z2
  -- the script's own entry
  obtain ⟨ol, hol, hok0⟩ : ∃ ol : Option Obj, (ol = none → ∃ o, K.lookup a = some o) ∧ (∀ o, ol = some o → o = { cls := .type "list", data := .seq vs.toArray } ∧ K.lookup a = none) := by
    cases e : K.lookup a with
    | none => exact ⟨some { cls := .type "list", data := .seq vs.toArray }, (fun z => by cases z), fun o z => ⟨(Option.some.inj z).symm, rfl⟩⟩
    | some o => exact ⟨none, (fun _ => ⟨o, rfl⟩), fun o z => by cases z⟩
  have at_t : ∀ b ∈ cs.map (·.2), startH (cs.map (·.2)) a ol (ns.map V.int) b = some (.tbl #[]) := fun b m => if_pos m
  have at_n : ∀ b, b ∉ cs.map (·.2) → b ≠ a → startH (cs.map (·.2)) a ol (ns.map V.int) b = none := fun b m n => (if_neg m).trans (if_neg n)
  have at_a : startH (cs.map (·.2)) a ol (ns.map V.int) a = ol.map fun o => .frz o (.lst (ns.map V.int)) := (if_neg aT).trans (if_pos rfl)
  generalize hH : startH (cs.map (·.2)) a ol (ns.map V.int) = H at at_t at_n at_a
  have cases_ : ∀ b u, H b = some u → (b ∈ cs.map (·.2) ∧ u = .tbl #[]) ∨ (b = a ∧ ∃ o, ol = some o ∧ u = .frz o (.lst (ns.map V.int))) := fun b u e => by
    by_cases m : b ∈ cs.map (·.2)
    · exact .inl ⟨m, (Option.some.inj ((at_t b m).symm.trans e)).symm⟩
    · by_cases n : b = a
      · subst n
        rw [at_a] at e
        obtain ⟨o, eo, eu⟩ := Option.map_eq_some_iff.mp e
        exact .inr ⟨rfl, o, eo, eu.symm⟩
      · rw [at_n b m n] at e
        cases e
  have hOk : HOk P w H s₁.heap := fun b u e => by
    rcases cases_ b u e with ⟨m, rfl⟩ | ⟨rfl, o, eo, rfl⟩
    · exact tabs b m
    · obtain ⟨rfl, _⟩ := hok0 o eo
      exact ⟨ha, by rw [List.length_map]; exact hl, vs, _, rv, ha⟩
  have base_of : ∀ {b : Addr} {o : Obj}, s₁.heap.get? b = some o → H b = none → (hidT s₁.heap H).get? b = some o := fun e n => hidT_get e n
  have untr : ∀ {b : Addr} {o : Obj}, s₁.heap.get? b = some o → (∀ ws n, o.data ≠ .seq ws n) → o.data ≠ .fields #[] → H b = none := fun {b o} e h1 h2 => by
    cases q : H b with
    | none => rfl
    | some u =>
      exfalso
      rcases cases_ b u q with ⟨m, _⟩ | ⟨rfl, _⟩
      · have z := e.symm.trans (tabs b m)
        rw [Option.some.inj z] at h2
        exact h2 rfl
      · have z := e.symm.trans ha
        rw [Option.some.inj z] at h1
        exact h1 _ _ rfl
  have nsB : ∀ {b : Addr} {m : Str → Option Value}, s₁.heap.Ns b m → (hidT s₁.heap H).Ns b m := fun {b m} ⟨o, es, ep, e, d, r⟩ =>
    ⟨o, es, ep, base_of e (untr e (by intro ws n z; rw [d] at z; cases z) (by intro z; rw [d] at z; cases z)), d, r⟩
  have kB : K.In (hidT s₁.heap H) := fun b o e => base_of (KX b o e) (by
    cases q : H b with
    | none => rfl
    | some u =>
      exfalso
      rcases cases_ b u q with ⟨m, _⟩ | ⟨rfl, o2, eo, _⟩
      · obtain ⟨p, hp, rfl⟩ := List.mem_map.mp m
        rw [nT p hp] at e
        cases e
      · rw [(hok0 o2 eo).2] at e
        cases e)
  have TB : ∀ p ∈ cs, LamX.TabB (hidT s₁.heap H) mg p.1 p.2 := fun p hp => by
    refine ⟨?_, ?_, fun z => ?_⟩
    · obtain ⟨o, us, file, tf, flags, tg, inF, text, tt, e1, r1, r2, r3, more⟩ := C p hp
      refine ⟨o, us, file, tf, flags, tg, inF, text, tt, base_of e1 (untr e1 (by intro ws n z; rw [r2] at z; cases z) fun z => ?_), r1, r2, r3, more⟩
      rw [r2] at z
      cases z
      simp at r3
    · obtain ⟨bm, ob, b1, b2, b3, b4, b5, b6⟩ := hbm
      have pl : ∀ d, ob.data = d → d = .plain := fun d z => z.symm.trans b6
      refine ⟨bm, ob, b1, b2, fun q => ?_, fun q => ?_, base_of b3 (untr b3 (fun ws n z => by cases pl _ z) fun z => by cases pl _ z), b4, b5, b6⟩
      · obtain ⟨o, es, ep, e, hd, _⟩ := hns
        rw [q] at b3
        rw [Option.some.inj (e.symm.trans b3)] at hd
        cases pl _ hd
      · rw [q] at b3
        rw [Option.some.inj (b3.symm.trans (hT p hp))] at b6
        cases b6
    · obtain ⟨o, es, ep, e, hd, _⟩ := hns
      rw [z] at e
      rw [Option.some.inj (e.symm.trans (hT p hp))] at hd
      cases hd
  have hM : L2.Mod K mg (hidT s₁.heap H) := ⟨kB, nsB hns, ⟨mb, nsB hb, hbb⟩, let ⟨mc, h1, h2⟩ := hlim; ⟨mc, nsB h1, h2⟩⟩
  have env : Env0 P w K mg (hidT s₁.heap H) callerA [] s₁ H := ⟨rfl, hM, fun b o e => of_hidT e, Nat.le_of_eq (hidT_size _ _), trivial, (fun b z => absurd (show b ∈ ([] : List Addr) from z) (by simp)), hOk, .of_eq hg⟩
  have script : SqL K H a (ns.map V.int) := by
    cases eo : ol with
    | none =>
      obtain ⟨o, e⟩ := hol eo
      have z := (KX a o e).symm.trans ha
      rw [Option.some.inj z] at e
      exact .inr ⟨_, vs.toArray, _, e, rfl, rfl, rfl, by rw [List.size_toArray, hi.length]; exact hl, by simpa using rv⟩
    | some o => exact .inl (.inr ⟨o, by rw [at_a, eo]; rfl⟩)
  have only : ∀ b, H b = none ∨ (b ∈ cs.map (·.2) ∧ H b = some (.tbl #[])) ∨ ∃ o xs, H b = some (.frz o (.lst xs)) := fun b => by
    cases q : H b with
    | none => exact .inl rfl
    | some u =>
      rcases cases_ b u q with ⟨m, rfl⟩ | ⟨_, o, _, rfl⟩
      · exact .inr (.inl ⟨m, rfl⟩)
      · exact .inr (.inr ⟨_, _, rfl⟩)
  refine codeAny_mono (run _ H kB (nsB hns) TB (fun p hp => at_t _ (List.mem_map.mpr ⟨p, hp, rfl⟩)) only script env) fun r s' h => ?_
  cases r with
  | error e => exact (hCX H e s' h).elim
  | ok fl =>
    cases fl with
    | next => exact h.elim
    | brk => exact h.elim
    | cont => exact h.elim
    | ret u =>
      obtain ⟨v, H', os, bare, un, hok', r', q⟩ := h
      obtain rfl : v = .bl true := q
      obtain rfl : u = Value.bool true := r'
      have kept : ∀ b o, b ∉ cs.map (·.2) → s₁.heap.get? b = some o → s'.heap.get? b = some o := fun b o nb e => by
        cases q : H b with
        | none => exact un.keep b o e q (fun z => absurd (show b ∈ ([] : List Addr) from z) (by simp)) (by simp)
        | some u =>
          rcases cases_ b u q with ⟨m, _⟩ | ⟨rfl, o2, eo, rfl⟩
          · exact absurd m nb
          · have z1 := (hOk _ _ q).1
            have z2 := (hok' _ _ (un.frzs _ _ _ q)).1
            rw [Option.some.inj (e.symm.trans z1)]
            exact z2
      have more : ∀ p ∈ cs, ∃ us : Array Value, s'.heap.get? p.2 = some { cls := .none, data := .fields us } := fun p hp => by
        obtain ⟨us, z⟩ := un.tbls p.2 #[] (at_t _ (List.mem_map.mpr ⟨p, hp, rfl⟩))
        exact ⟨_, hok' p.2 _ z⟩
      refine ⟨rfl, ⟨fun b o e => ?_, fun b o e => ?_⟩, os, bare⟩
      · by_cases m : b ∈ cs.map (·.2)
        · obtain ⟨p, hp, rfl⟩ := List.mem_map.mp m
          obtain ⟨us, hm⟩ := more p hp
          obtain rfl := Option.some.inj (e.symm.trans (hT p hp))
          exact .inr (.inl ⟨((C p hp).tab (hT p hp)).isCodeTable, rfl, #[], us, rfl, by rw [Array.empty_append]; exact hm⟩)
        · exact .inl (kept b o m e)
      · by_cases m : b ∈ cs.map (·.2)
        · obtain ⟨p, hp, rfl⟩ := List.mem_map.mp m
          obtain ⟨us, hm⟩ := more p hp
          exact ⟨_, hm⟩
        · exact ⟨o, kept b o m e⟩
end Dn
namespace Dn
open PySem PySem.Spec PyProof.Rows L2
section
variable {W : Wd} {M : Md W} {E : WX} {X : Cx} {e : Expr} {es : List Expr} {f : DE} {fa : DA}
end
end Dn
namespace Dn
open PySem PySem.Spec PyProof.Rows L2
theorem kv_vals {κ : Type} : ∀ {kvs : List (κ × V)} {vs : List (κ × Value)}, KV kvs vs → Vals (kvs.map (·.2)) (vs.map (·.2))
  | _, _, .nil => .nil
  | _, _, .cons r t => .cons r.2 (kv_vals t)
section
variable {X : Cx} {e o : Expr} {te td ty : TE} {p apos cpos pos : Pos}
end
section
variable {W : Wd} {M : Md W} {E : WX} {X : Cx} {o e : Expr} {fo fe : DE} {p apos cpos pos : Pos}
end
end Dn
namespace Dn
open PySem PySem.Spec PyProof.Rows L2
section
variable {W : Wd} {M : Md W} {E : WX} {X : Cx} {tg : Expr}
end
end Dn
namespace Dn
open PySem PySem.Spec PyProof.Rows L2

section
variable {X : Cx} {pins : List (Addr × Obj)} {σ : L2.St} {H HZ : Hp} {s s1 : Shared} {W : Wd}
open LamX
end
section
variable {X : Cx} {W : Wd} {M : Md W} {E : WX}
open LamX
end
end Dn
namespace Dn
open PySem PySem.Spec PyProof.Rows L2
/-- the slots of an except suite, over B -/
def exG {W : Wd} (B : Md W) (i t : Nat) (fs : List (Nat × AV)) (a : Addr) (d : Option Addr) : Md W where
  rel := fun io H as σ => (as.length = σ.length ∧ σ[i]? = some (some (.ref a)) ∧ as[i]? = some (some (.exn t fs))) ∧ B.rel io H (as.set i none) (σ.set i none) ∧ RXf W io H fs d
  mono := fun e h => ⟨h.1, B.mono e h.2.1, h.2.2.mono e⟩
  var := fun {io H as σ j v} h q hn => by
    by_cases hj : j = i
    · subst hj
      rw [h.1.2.2] at q
      cases q
      exact absurd rfl (hn t fs)
    · obtain ⟨x, e, r⟩ := B.var h.2.1 (by rw [List.getElem?_set_ne (Ne.symm hj)]; exact q) hn
      rw [List.getElem?_set_ne (Ne.symm hj)] at e
      exact ⟨x, e, r⟩
  ok := fun j => j ≠ i ∧ B.ok j
  set := fun {io H as σ j v x} h r hj => ⟨⟨by simp [h.1.1], by rw [List.getElem?_set_ne hj.1]; exact h.1.2.1, by rw [List.getElem?_set_ne hj.1]; exact h.1.2.2⟩, by
    rw [List.set_comm _ _ hj.1, List.set_comm _ _ hj.1]
    exact B.set h.2.1 r hj.2, h.2.2⟩
  wipe := fun {io H as σ j} h hj => ⟨⟨by simp [h.1.1], by rw [List.getElem?_set_ne hj.1]; exact h.1.2.1, by rw [List.getElem?_set_ne hj.1]; exact h.1.2.2⟩, by
    rw [List.set_comm _ _ hj.1, List.set_comm _ _ hj.1]
    exact B.wipe h.2.1 hj.2, h.2.2⟩
section
variable {W : Wd} {B : Md W} {X : Cx} {T : XT}
/-- the clauses, read -/
inductive HdG {W : Wd} (B : Md W) (X : Cx) (T : XT) : List ExceptHandler → Hds → Prop
  | nil : HdG B X T [] []
  | only {x : Str} {c : Nat} {f : DS} {b₀ : Stmt} {suite : List Stmt} {np pos : Pos} {hds : List ExceptHandler} {hs : Hds} (hc : Names X x (.ref (W.cl c))) (h1 : T.n ≤ c) (h2 : c < T.m)
      (hsu : ∀ (a : Addr) (oe : Obj) (pn : List (Addr × Obj)), PSs (X.suite a ((a, oe) :: pn)) (b₀ :: suite) (tS W B E0x f)) (r : HdG B X T hds hs) :
      HdG B X T (.ExceptHandler (some (.Name x np)) none (b₀ :: suite) pos :: hds) ((c, none, f) :: hs)
  | as {x n : Str} {i c : Nat} {f : DS} {b₀ : Stmt} {suite : List Stmt} {np pos : Pos} {hds : List ExceptHandler} {hs : Hds} (hc : Names X x (.ref (W.cl c))) (h1 : T.n ≤ c) (h2 : c < T.m) (hB : B.ok i) (hN : X.N.Nodup) (hi : X.N[i]? = some n) (hl : X.env.kindOf n = some .local)
      (hsu : ∀ (a : Addr) (oe : Obj) (pn : List (Addr × Obj)) (t : Nat) (fs : List (Nat × AV)) (d : Option Addr), T.n ≤ t → t < T.m → Zc (.ref (W.cl t)) d oe → (∃ vs, oe.data = .fields vs) → PSs (X.suite a ((a, oe) :: pn)) (b₀ :: suite) (tS W (exG B i t fs a d) E0x f)) (r : HdG B X T hds hs) :
      HdG B X T (.ExceptHandler (some (.Name x np)) (some n) (b₀ :: suite) pos :: hds) ((c, some i, f) :: hs)
end
section
variable {W : Wd} {B : Md W} {X : Cx} {T : XT} {E : WX} {a : Addr} {oe : Obj} {pn : List (Addr × Obj)} {i j t : Nat} {fs : List (Nat × AV)} {d : Option Addr} {x nm : Str} {p pos : Pos}
def xoB (cs : List Str) (T : XT) (c : Nat) (K : PySem.W.Frag) : Bool := allN (T.m - T.n) fun i => decide (PySem.W.kitOne K (.ref (clOf K cs (T.n + i))) (.ref (clOf K cs c)) = some (T.sub (T.n + i) c))
end
end Dn
namespace Dn
open PySem PySem.Spec PyProof.Rows L2
/-- the code object of a def -/
def codF (K : PySem.W.Frag) (f : Addr) : Addr := match K.lookup f with
  | some ⟨_, _, .func fd, _⟩ => (match fd.code with
    | .ref c => c
    | _ => 0)
  | _ => 0
/-- the table of a code object -/
def tabF (K : PySem.W.Frag) (c : Addr) : Addr := match K.lookup c with
  | some ⟨_, _, .fields vs, _⟩ => (match (vs[11]? : Option Value) with
    | some (.ref P) => P
    | _ => 0)
  | _ => 0
def isFdB (K : PySem.W.Frag) (f : Addr) : Bool := match K.lookup f with
  | some ⟨_, _, .func fd, _⟩ => (match fd.code with
    | .ref _ => true
    | _ => false)
  | _ => false
def isCodeB (o : Option Obj) : Bool := match o with
  | some ⟨.type "code", _, .fields vs, _⟩ => (match (vs[11]? : Option Value) with
    | some (.ref _) => (match vs.getD 18 .none, vs.getD 7 .none, vs.getD 9 .none, vs.getD 10 .none with
      | .str _ _, .int _ _, .bool _, .int _ _ => true
      | _, _, _, _ => false)
    | _ => false)
  | _ => false
def isNilB (o : Option Obj) : Bool := match o with
  | some ⟨.none, none, .fields ⟨[]⟩, ⟨[]⟩⟩ => true
  | _ => false
def lamB (g : Addr → Option Obj) (K : PySem.W.Frag) (f : Addr) : Bool :=
  isFdB K f && (isCodeB (K.lookup (codF K f)) && (isNilB (g (tabF K (codF K f))) && ((K.lookup (tabF K (codF K f))).isNone && decide (codF K f ≠ tabF K (codF K f)))))
/-- a def that makes lambdas: its code object and its table, which is empty -/
structure LamAt (K : PySem.W.Frag) (h : Heap) (f : Addr) : Prop where
  fd : ∃ oc od fd osl, K.lookup f = some ⟨oc, od, .func fd, osl⟩ ∧ fd.code = .ref (codF K f)
  cd : PySem.W.CodeHd h (codF K f) (tabF K (codF K f))
  tb : h.get? (tabF K (codF K f)) = some { cls := .none, data := .fields #[] }
  nt : K.lookup (tabF K (codF K f)) = none
theorem isNil_ok {o : Option Obj} (h : isNilB o = true) : o = some { cls := .none, data := .fields #[] } := by
  unfold isNilB at h
  split at h
  · rfl
  · cases h
theorem isFd_ok {K : PySem.W.Frag} {f : Addr} (h : isFdB K f = true) : ∃ oc od fd osl, K.lookup f = some ⟨oc, od, .func fd, osl⟩ ∧ fd.code = .ref (codF K f) := by
  unfold isFdB at h
  unfold codF
  split at h
  · rename_i oc od fd osl e
    rw [e]
    refine ⟨oc, od, fd, osl, rfl, ?_⟩
    split at h
    · rename_i c e2
      simp only [e2]
    · cases h
  · cases h
theorem code_ok {K : PySem.W.Frag} {h : Heap} {c : Addr} (X : K.In h) (b : isCodeB (K.lookup c) = true) (n : c ≠ tabF K c) : PySem.W.CodeHd h c (tabF K c) := by
  cases e : K.lookup c with
  | none =>
    rw [e] at b
    cases b
  | some o =>
    rw [e] at b
    have ho := X c o e
    have et : tabF K c = match (some o : Option Obj) with
      | some ⟨_, _, .fields vs, _⟩ => (match (vs[11]? : Option Value) with
        | some (.ref P) => P
        | _ => 0)
      | _ => 0 := by
      unfold tabF
      rw [e]
    unfold isCodeB at b
    split at b
    · rename_i od vs osl eo
      cases eo
      split at b
      · rename_i P e11
        have eP : tabF K c = P := by
          rw [et]
          simp only [e11]
        rw [eP] at n ⊢
        split at b
        · rename_i a1 a2 a3 a4 a5 a6 a7 e18 e7 e9 e10
          refine ⟨_, vs, _, _, _, _, _, _, _, ho, rfl, rfl, e11, ?_, e18, e7, e9, e10, n⟩
          rw [Array.getD_eq_getD_getElem?, e11]
          rfl
        · cases b
      · cases b
    · cases b
theorem lamB_ok {K : PySem.W.Frag} {h : Heap} {f : Addr} (X : K.In h) (b : lamB h.get? K f = true) : LamAt K h f := by
  unfold lamB at b
  obtain ⟨b1, b⟩ := He.ba b
  obtain ⟨b2, b⟩ := He.ba b
  obtain ⟨b3, b⟩ := He.ba b
  obtain ⟨b4, b5⟩ := He.ba b
  exact ⟨isFd_ok b1, code_ok X b2 (of_decide_eq_true b5), isNil_ok b3, Option.isNone_iff_eq_none.mp b4⟩
theorem LamAt.keeps {K : PySem.W.Frag} {h h' : Heap} {f : Addr} (l : LamAt K h f) (k : ∀ b o, h.get? b = some o → h'.get? b = some o) : LamAt K h' f := ⟨l.fd, l.cd.keeps k, k _ _ l.tb, l.nt⟩
abbrev csOf (ls : List Pth) (K : PySem.W.Frag) : List (Addr × Addr) := ls.map fun l => (codF K (l K), tabF K (codF K (l K)))
theorem csOf_tab {ls : List Pth} {K : PySem.W.Frag} {h : Heap} (l : ∀ p ∈ ls, LamAt K h (p K)) : (∀ p ∈ csOf ls K, h.get? p.2 = some { cls := .none, data := .fields #[] }) ∧ (∀ p ∈ csOf ls K, K.lookup p.2 = none) ∧ ∀ p ∈ csOf ls K, PySem.W.CodeHd h p.1 p.2 := by
  refine ⟨fun p hp => ?_, fun p hp => ?_, fun p hp => ?_⟩
  · obtain ⟨q, hq, rfl⟩ := List.mem_map.mp hp
    exact (l q hq).tb
  · obtain ⟨q, hq, rfl⟩ := List.mem_map.mp hp
    exact (l q hq).nt
  · obtain ⟨q, hq, rfl⟩ := List.mem_map.mp hp
    exact (l q hq).cd
def obsT (as : List Addr) (fa : List He.Fa) (fn : List DefF) (xt : List (PySem.W.Frag → Bool)) (ls : List Pth) (g : Addr → Option Obj) : AlF × Bool := (obsF fa fn xt (He.frG g as), ls.all fun l => lamB g (He.frG g as) (l (He.frG g as)))
def hookT (as : List Addr) (fa : List He.Fa) (fn : List DefF) (xt : List (PySem.W.Frag → Bool)) (ls : List Pth) : PySem.W.Hook where
  α := AlF × Bool
  obs := fun s => obsT as fa fn xt ls s.heap.get?
  val := fun _ => (valF fn, true)
  says := fun _ h => ∃ K : PySem.W.Frag, K.In h ∧ SaysF fa fn xt K ∧ ∀ l ∈ ls, LamAt K h (l K)
  of := fun _ s e => ⟨_, He.frG_in, congrArg (fun z : AlF × Bool => z.1) e, fun l hl => lamB_ok He.frG_in (List.all_eq_true.mp (congrArg (fun z : AlF × Bool => z.2) e) l hl)⟩
  keeps := fun _ _ _ ⟨K, hK, c, l⟩ k => ⟨K, PySem.W.Frag.In.keeps hK k, c, fun p hp => (l p hp).keeps k⟩
theorem obsT_eq {as : List Addr} {fa : List He.Fa} {fn : List DefF} {xt : List (PySem.W.Frag → Bool)} {ls : List Pth} {g : Addr → Option Obj} {s : Shared} (h : ∀ a, g a = s.heap.get? a) : obsT as fa fn xt ls g = (hookT as fa fn xt ls).obs s := by
  have e : g = s.heap.get? := funext h
  rw [e] <;> rfl
def OnlyT (cs : List (Addr × Addr)) (H : Hp) : Prop := ∀ b, H b = none ∨ (b ∈ cs.map (·.2) ∧ H b = some (.tbl #[])) ∨ ∃ o xs, H b = some (.frz o (.lst xs))
def spLT (cs : List (Addr × Addr)) (K : PySem.W.Frag) : Sp := fun vs H Q _ => ∃ (a : Addr) (ns : List Int), vs = [.ref a] ∧ ns.length ≤ 63 ∧ OnlyT cs H ∧ (∀ p ∈ cs, H p.2 = some (.tbl #[])) ∧ SqL K H a (ns.map V.int) ∧ ∀ H', Q (.bl true) H'
theorem walk_ofT {l : PySem.W.OpenLaw} {n k : Nat} {q : Program} {loose : List Str} {XP : (Str → Option Value) → Heap → Prop} {YP : World → Heap → Prop} {d : DefRec} {x : Str}
    (hn : l.most = some n) (hn2 : n ≤ sizeLine) (hdf : d.params.defaults = []) (hr : Room k callerA)
    (F : ∀ (w : World) (mg : Str → Option Value) (fa : Addr) (h : Heap), YP w h → h.Ns mainGlobals mg → mg d.name = some (.ref fa) →
      ∃ (K : PySem.W.Frag) (fd : FuncData) (sp : Sp) (cs : List (Addr × Addr)), K.In h ∧ (∀ p ∈ cs, h.get? p.2 = some { cls := .none, data := .fields #[] }) ∧ (∀ p ∈ cs, K.lookup p.2 = none) ∧ (∀ p ∈ cs, PySem.W.CodeHd h p.1 p.2) ∧ (∀ (s : Shared) (u : Value), BindsTo s fd ⟨[u], []⟩ [(x, u)]) ∧
        (∀ (H : Hp) (a : Addr) (ns : List Int), ns.length ≤ n → OnlyT cs H → (∀ p ∈ cs, H p.2 = some (.tbl #[])) → SqL K H a (ns.map V.int) → sp [.ref a] H (fun v _ => v = .bl true) fun _ _ _ => False) ∧
        ∀ base : Heap, K.In base → base.Ns mainGlobals mg → (∀ p ∈ cs, LamX.TabB base mg p.1 p.2) → FnG l.prog w K mg base (L2.CX l.prog w) k fa fd [x] sp) :
    PySem.W.WalkO q loose XP YP l.row.toRowW d [] (fun f vs => PySem.call f vs) := by
  refine Att.attach_callB hn hdf fun w s₀ s₁ mg mb fa o pm cd doc a vs ns G Y ho hd hcd hmg hobj hints hlen hbits hg => ?_
  obtain ⟨K, fd, sp, cs, KX, hT, nT, C, hb, hsp, hF⟩ := F w mg fa _ Y G.T.g hmg
  exact law_run (cs := cs) KX G.T.g G.T.b G.T.builtins G.T.nolimit hg hT nT C G.T.bmain hobj hints (Nat.le_trans hlen hn2) (fun base H k1 k2 k3 hC hO hS e0 =>
    (hF base k1 k2 k3).2 callerA [] s₁ H ⟨[.ref a], []⟩ [.ref a] [.ref a] _ _ rfl hr e0 (hb s₁ (.ref a)) (.cons rfl .nil) (hsp H a ns hlen hO hC hS)) fun H e s' ⟨_, _, _, _, _, _, _, _, _, _, _, _, z⟩ => z
end Dn
namespace Dn
open PySem PySem.Spec PyProof.Rows L2
section
variable {W : Wd} {E : WX} {X : Cx} {T : XT} {t i : Nat} {fs : List (Nat × AV)} {a : Addr} {oe : Obj} {d : Option Addr} {pn : List (Addr × Obj)} {x : Str} {p pos : Pos} {B : Md W}
end
end Dn
namespace Dn
open PySem PySem.Spec PyProof.Rows L2
structure ClsM (K : PySem.W.Frag) (C : Addr) (m : Str) (f : Addr) : Prop where
  rd : ClX.CRead K C (.type "type")
  ex : ∃ p, PySem.W.findCls K (.ref C) (.type "type") m = some (.get (.builtin "classmethod.__get__") (.ref p) .none (.ref C)) ∧ ∃ rest, PySem.W.recIn K p "classmethod" = some (.ref f :: rest)
section
variable {P : Program} {w : World} {mg : Str → Option Value} {base : Heap} {W : Wd} {k n t : Nat} {f : Addr} {fd : FuncData} {ps : List Str} {F : DF} {x : Str} {bs : Bs}
end
section
variable {W : Wd} {M : Md W} {E : WX} {X : Cx} {k j n m q t : Nat} {ps : List Str} {F : DF} {x c : Str} {p pos apos : Pos} {e : Expr} {es : List Expr} {fa : DA} {ix : List Nat} {dfl : List AV} {bs : Bs}
end
end Dn
namespace Dn
open PySem PySem.Spec PyProof.Rows L2
end Dn
namespace Dn
open PySem PySem.Spec PyProof.Rows L2
section
variable {W : Wd} {M : Md W} {E : WX} {X : Cx} {x : Str} {p pos : Pos} {e : Expr} {es : List Expr} {kws : List Keyword} {fa fk : DA}
end
end Dn
namespace Dn
open PySem PySem.Spec PyProof.Rows L2
section
variable {W : Wd} {M : Md W} {E : WX} {X : Cx} {k j n m q t i : Nat} {ps ks : List Str} {F : DF} {x y : Str} {p pos : Pos} {e : Expr} {es : List Expr} {kws : List Keyword} {fa fk : DA} {ix : List Nat} {dfl : List AV} {bs : Bs}
end
end Dn
namespace Dn
open PySem PySem.Spec PyProof.Rows L2
section
variable {W : Wd} {M : Md W} {E : WX} {X : Cx} {pos : Pos}
end
end Dn
namespace Dn
open PySem PySem.Spec PyProof.Rows L2
section
variable {h : Hep}
end
end Dn
namespace Dn
open PySem PySem.Spec PyProof.Rows L2
section
variable {W : Wd} {M : Md W} {E : WX} {X : Cx} {x : Str} {l : List (Str × Int)} {e f : Expr} {fk fx : DE} {p apos cpos : Pos}
end
end Dn
namespace Dn
open PySem PySem.Spec PyProof.Rows L2
end Dn
namespace Dn
open PySem PySem.Spec PyProof.Rows L2
end Dn
namespace Dn
open PySem PySem.Spec PyProof.Rows L2
def spW (W : Wd) (n m : Nat) (f : DF) : Sp := fun vs H Q E => ∃ io hp as rs, as.length = n ∧ rs.length ≤ m ∧ Rl W io hp H ∧ RVs W io H (as ++ rs) vs ∧ Pfn W E Q io H (f (as ++ [.tup rs]) hp)
section
variable {P : Program} {w : World} {mg : Str → Option Value} {base : Heap} {W : Wd} {x qual : Str} {params : Arguments} {body : List Stmt} {scope : Scope} {f : Addr} {fd : FuncData}
def FnW (P : Program) (w : World) (mg : Str → Option Value) (base : Heap) (W : Wd) (k : Nat) (f : Addr) (n : Nat) (F : DF) : Prop := FnR P w W.K mg base (L2.CX P w) k f (spW W n 4 F)
end
section
variable {W : Wd} {M : Md W} {E : WX} {X : Cx} {k j n i t : Nat} {F : DF} {x : Str} {p pos apos : Pos} {e o : Expr} {fo : DE} {g : Addr}
end
end Dn
namespace Dn
open PySem PySem.Spec PyProof.Rows L2
/-- what is looked at of a method that is taken as a value -/
def bmB (C m : Str) (p : Pth) (K : PySem.W.Frag) : Bool := methB C m p K && (He.eqO (PySem.W.specialIn K (.ref (p K)) "__get__") (some (some (.builtin "function.__get__"))) && (decide (PySem.W.takesIn K (.ref (p K)) = some false) && (!(PySem.W.copiedNames.contains m) && PySem.W.fnIn K (p K))))
end Dn
namespace Dn
open PySem PySem.Spec PyProof.Rows L2
end Dn
namespace Dn
open PySem PySem.Spec PyProof.Rows L2
section
variable {X : Cx} {d : Addr} {es : Array DictEntry} {n : Nat} {l : List (Str × List Str)}
end
section
variable {W : Wd} {M : Md W} {E : WX} {X : Cx} {x : Str} {l : List (Str × List Str)} {e : Expr} {fx : DE} {p pos : Pos}
end
end Dn
namespace ZS
open PySem PySem.Spec PyProof.Rows
open PySem.Sem (wp)
section
variable {prog : Program} {w : World} {A : Around} {E : Value → Shared → Prop} {s : Shared}
end
section
variable {prog : Program} {w : World} {A : Around} {E : Value → Shared → Prop} {s : Shared}
end
section
variable {M : Model} {A : Around} {E : Value → Shared → Prop} {s : Shared} {env : Env}
end
open L2
end ZS
namespace Dn
open PySem PySem.Spec PyProof.Rows L2
section
variable {W : Wd} {M : Md W} {E : WX} {X : Cx} {e e2 : Expr} {kws : List Keyword} {fa fk : DA} {p pos tpos : Pos} {elts : List Expr} {kk : Nat}
end
end Dn
namespace Dn
open PySem PySem.Spec PyProof.Rows L2
structure MCs (X : Cx) (cs : List MatchCase) (t : Str → TS) : Prop where
  run : ∀ (first : Bool) (pins : List (Addr × Obj)) (s : Shared) (σ : L2.St) (H : Hp) (D : Ends) (z : Str) (tk : Tok), Inv X pins σ H s → t z D σ H → wpAny (model X.prog X.w) X.A (matchCases cs X.env (.str z tk) first) (SP X pins D) X.xe s
section
variable {X : Cx} {body : List Stmt} {rest : List MatchCase} {p p1 p2 pos : Pos} {x : Str} {j : Nat} {t : TS} {u : Str → TS} {e : Expr}
end
section
variable {W : Wd} {M : Md W} {E : WX} {X : Cx} {body : List Stmt} {rest : List MatchCase} {p p1 p2 pos : Pos} {x : Str} {j : Nat} {fb d : DS} {cs : List (Str × DS)} {e : Expr} {f : DE}
end
end Dn
namespace Dn
open PySem PySem.Spec PyProof.Rows L2
section
variable {W : Wd} {M : Md W} {E : WX} {X : Cx} {a b : Expr} {es : List Expr} {f g : DE} {pos : Pos}
end
section
variable {W : Wd} {M : Md W} {E : WX} {X : Cx} {k j n q : Nat} {ps ks : List Str} {F : DF} {x : Str} {p pos : Pos} {kws : List Keyword} {fk : DA} {ix : List Nat} {dfl : List AV} {bs : Bs}
end
end Dn
namespace Dn
open PySem PySem.Spec PyProof.Rows L2
section
variable {W : Wd} {M : Md W} {E : WX} {X : Cx} {o e f : Expr} {fo fk fx : DE} {apos cpos : Pos}
end
section
variable {W : Wd} {M : Md W} {E : WX} {X : Cx} {k j n i i1 i2 t : Nat} {F : DF} {x : Str} {p pos apos : Pos} {e ea eb o : Expr} {fo : DE}
end
section
variable {W : Wd} {M : Md W} {E : WX} {X : Cx} {x : Str} {l : List (Str × List Str)} {e : Expr} {fx : DE} {p pos : Pos}
end
end Dn
namespace Dn
open PySem PySem.Spec PyProof.Rows L2
end Dn
namespace Dn
open PySem PySem.Spec PyProof.Rows L2
def kPd : Key → PyData
  | .inl i => .int i
  | .inr x => .str x
mutual
inductive Dq (K : PySem.W.Frag) (H : Hp) : V → PyData → Prop
  | non : Dq K H .non .none
  | bl (b : Bool) : Dq K H (.bl b) (.bool b)
  | int (i : Int) : Dq K H (.int i) (.int i)
  | str (x : Str) : Dq K H (.str x) (.str x)
  | lst {a : Addr} {xs : List V} {ds : List PyData} : H a = some (.lst xs) → DqAll K H xs ds → Dq K H (.ref a) (.list ds)
  | tup {a : Addr} {xs : List V} {ds : List PyData} : SqT K H a xs → DqAll K H xs ds → Dq K H (.ref a) (.tuple ds)
  | dic {a : Addr} {kvs : List (Key × V)} {ds : List PyData} : H a = some (.dK kvs) → DqAll K H (kvs.map (·.2)) ds → Dq K H (.ref a) (.dict ((kvs.map fun kv => kPd kv.1).zip ds))
inductive DqAll (K : PySem.W.Frag) (H : Hp) : List V → List PyData → Prop
  | nil : DqAll K H [] []
  | cons {v : V} {vs : List V} {d : PyData} {ds : List PyData} : Dq K H v d → DqAll K H vs ds → DqAll K H (v :: vs) (d :: ds)
end
theorem readsAll_len {h : Heap} : ∀ {vs : List Value} {ds : List PyData} {as : List Addr}, ReadsAll h vs ds as → vs.length = ds.length
  | _, _, _, .nil => rfl
  | _, _, _, .cons _ r => congrArg (· + 1) (readsAll_len r)
section
variable {X : Cx} {pins : List (Addr × Obj)} {σ : L2.St} {H : Hp} {s : Shared}
theorem keys_read {h : Heap} {P : Program} {w : World} : ∀ {es : List DictEntry} {vs : List (Key × Value)}, Pairs (mixKind P w) es vs → ReadsAll h (es.map (·.key)) (vs.map fun kv => kPd kv.1) []
  | _, _, .nil => .nil
  | _, _, .cons (e := e) (kv := kv) h1 _ q => by
    have r := keys_read (h := h) q
    have one : Reads h e.key (kPd kv.1) [] := by
      rcases keyIs_shape h1 with ⟨i, t, e1, e2⟩ | ⟨x, t, e1, e2⟩
      · rw [e1, e2]
        exact .int i t
      · rw [e1, e2]
        exact .str x t
    exact ReadsAll.cons (as := []) (bs := []) one r
theorem pairs_vals {P : Program} {w : World} : ∀ {es : List DictEntry} {vs : List (Key × Value)}, Pairs (mixKind P w) es vs → es.map (·.val) = vs.map (·.2)
  | _, _, .nil => rfl
  | _, _, .cons _ h2 q => by
    rw [List.map_cons, List.map_cons, h2, pairs_vals q]
theorem kv_keys {κ : Type} : ∀ {kvs : List (κ × V)} {vs : List (κ × Value)}, KV kvs vs → kvs.map (·.1) = vs.map (·.1)
  | _, _, .nil => rfl
  | _, _, .cons r t => by
    rw [List.map_cons, List.map_cons, kv_keys t]
    exact congrArg (· :: _) r.1
mutual
theorem Dq.reads (I : Inv X pins σ H s) : ∀ {v : V} {d : PyData}, Dq X.K H v d → ∀ u, RelV v u → ∃ as, Reads s.heap u d as ∧ ∀ b ∈ as, H b ≠ none
  | _, _, .non, u, r => by
    cases r
    exact ⟨_, Reads.none, by simp⟩
  | _, _, .bl b, u, r => by
    cases r
    exact ⟨_, Reads.bool b, by simp⟩
  | _, _, .int i, u, r => by
    obtain ⟨t, rfl⟩ := r
    exact ⟨_, Reads.int i t, by simp⟩
  | _, _, .str x, u, r => by
    obtain ⟨t, rfl⟩ := r
    exact ⟨_, Reads.str x t, by simp⟩
  | _, _, .lst e q, u, r => by
    cases r
    obtain ⟨its, rv, ⟨o, n, ho, hc, _, hd⟩, _⟩ := I.list (SqL.of e)
    obtain ⟨as, hr, ha⟩ := DqAll.reads I q its rv
    refine ⟨_, Reads.list ho hc hd hr, fun b hb => ?_⟩
    rcases List.mem_cons.mp hb with rfl | w
    · rw [e]
      nofun
    · exact ha b w
  | _, _, .tup hs q, u, r => by
    cases r
    obtain ⟨its, rv, ⟨o, ho, hc, n, hd⟩, _⟩ := I.tuple hs
    obtain ⟨as, hr, ha⟩ := DqAll.reads I q its rv
    exact ⟨_, Reads.tuple ho hc hd hr, ha⟩
  | _, _, .dic (kvs := kvs) (ds := ds) e q, u, r => by
    cases r
    obtain ⟨_, _, vs, kv, o, es, ep, ho, hx, hd, _, hp, _⟩ := dk_of I.hok e
    have rv := kv_vals kv
    obtain ⟨as, hr, ha⟩ := DqAll.reads I q _ rv
    have kr := keys_read (h := s.heap) hp
    have l1 : (kvs.map (·.2)).length = ds.length := by
      have := readsAll_len hr
      have l2 : (kvs.map (·.1)).length = (vs.map (·.1)).length := congrArg List.length (kv_keys kv)
      simp at this l2 ⊢
      omega
    have ke : (kvs.map fun kv => kPd kv.1) = vs.map fun kv => kPd kv.1 := by
      have := congrArg (List.map kPd) (kv_keys kv)
      simpa [List.map_map, Function.comp_def] using this
    refine ⟨_, Reads.dict (as := []) (bs := as) ho hx.1 hd ?_ ?_, fun b hb => ?_⟩
    · rw [List.map_fst_zip (by simp at l1 ⊢; omega), ke]
      exact kr
    · rw [List.map_snd_zip (by simp at l1 ⊢; omega), pairs_vals hp]
      exact hr
    · rcases List.mem_cons.mp hb with rfl | w
      · rw [e]
        nofun
      · exact ha b w
theorem DqAll.reads (I : Inv X pins σ H s) : ∀ {vs : List V} {ds : List PyData}, DqAll X.K H vs ds → ∀ us, Vals vs us → ∃ as, ReadsAll s.heap us ds as ∧ ∀ b ∈ as, H b ≠ none
  | _, _, .nil, _, r => by
    cases r
    exact ⟨_, ReadsAll.nil, by simp⟩
  | _, _, .cons h1 h2, _, r => by
    cases r with
    | cons r1 r2 =>
      obtain ⟨as, q1, a1⟩ := Dq.reads I h1 _ r1
      obtain ⟨bs, q2, a2⟩ := DqAll.reads I h2 _ r2
      refine ⟨_, ReadsAll.cons q1 q2, fun b hb => ?_⟩
      rcases List.mem_append.mp hb with w | w
      · exact a1 b w
      · exact a2 b w
end
end
section
variable {W : Wd} {io : List Addr} {H : Hp} {hp : Hep}
end
section
variable {W : Wd} {M : Md W} {E : WX} {X : Cx}
end
end Dn
namespace Dn
open PySem PySem.Spec PyProof.Rows L2
end Dn
namespace Dn
open PySem PySem.Spec PyProof.Rows L2
section
variable {W : Wd} {X : Cx}
end
end Dn
namespace Dn
open PySem PySem.Spec PyProof.Rows L2
section
variable {W : Wd} {M : Md W} {E : WX} {X : Cx} {f : DE} {e : Expr} {es : List Expr} {gs : DGs} {pos tpos p : Pos} {kk i n : Nat}
end
end Dn
namespace Dn
open PySem PySem.Spec PyProof.Rows L2
end Dn
namespace Dn
open PySem PySem.Spec PyProof.Rows L2
end Dn
namespace Dn
open PySem PySem.Spec PyProof.Rows L2
end Dn
namespace PySem
namespace DX
open PySem.W PySem.Calls PyProof.Rows
section
variable {md : Model} {ar : Around} {ex : Value → Shared → Prop} {hp : Heap} {gs : Array GenState} {dr : Drawn} {tc : Nat} {ops : OsState}
variable {cn qn : Str} {C N : Addr} {bs bm bmB : List Value} {hd : Bool} {sl : List Str} {sb : List Value} {ab : Bool} {col : Option Bool} {dd : Option Addr} {k0 k1 k2 k3 k5 : Option Value} {O nid : String} {kw : List (Str × Value)}
end
section
variable {prog : Program} {w : World} {ar : Around} {ex : Value → Shared → Prop} {R : Result → Shared → Prop} {hp : Heap} {gs : Array GenState} {dr : Drawn} {tc : Nat} {ops : OsState}
variable {cn qn : Str} {C N : Addr} {bs bm bmB : List Value} {hd : Bool} {sl : List Str} {sb : List Value} {ab : Bool} {col : Option Bool} {dd : Option Addr} {k0 k1 k2 k3 k5 : Option Value} {O nid : String} {kw : List (Str × Value)}
end
end DX
end PySem

namespace Dn
open PySem PySem.Spec PyProof.Rows L2

section
variable {X : Cx} {E : WX} {C : Addr} {nm : Str} {B newId initId : String} {bmB : List Value} {x : Str} {p pos kpos : Pos} {e : Expr}
end

section
variable {W : Wd} {M : Md W} {E : WX} {X : Cx} {t j k : Nat} {x : Str} {e : Expr} {f : DE} {p p2 pos : Pos}
section
variable {C fI : Addr} {nm : Str} {B newId : String} {bmB : List Value} {fd : FuncData} {ps ks : List Str} {kws : List Keyword} {ta : TA} {fk : DA}
end
end

section
variable {W : Wd} {M : Md W} {E : WX} {X : Cx} {T : XT} {e : Expr} {f : DE} {pos p2 p3 : Pos} {xc : Str}
end
end Dn
namespace Dn
open PySem PySem.Spec PyProof.Rows L2
section
variable {P : Program} {w : World} {H : Hp} {h : Heap} {a : Addr} {x : V} {ep : Nat}
end
section
variable {X : Cx} {pos p2 : Pos} {k v : Expr}
end
section
variable {W : Wd} {M : Md W} {E : WX} {X : Cx} {a b k v : Expr} {es elts : List Expr} {f : DE} {pos p2 apos cpos tpos : Pos} {kk : Nat}
end
end Dn
namespace Dn
open PySem PySem.Spec PyProof.Rows L2
section
variable {H H0 : Hp} {b : Addr} {o : HO}
end
section
variable {P : Program} {w : World} {mg : Str → Option Value} {base : Heap} {W : Wd} {k n : Nat} {x : Str} {ps : List Str} {F : DF} {bs : Bs}
end
end Dn
namespace Dn
open PySem PySem.Spec PyProof.Rows L2
section
variable {M : Model} {A : Around} {E : Value → Shared → Prop} {s : Shared} {Z : Obj → Prop} {base : Heap} {env : Env} {outer l : List Env} {L e : Addr}
end
section
variable {X : Cx} {pins : List (Addr × Obj)} {σ : L2.St} {H : Hp} {s : Shared} {xe : Value → Shared → Prop}
end
section
variable {X : Cx} {W : WX} {pins : List (Addr × Obj)} {σ : L2.St} {H3 : Hp} {s3 : Shared} {scope : Scope} {cenv : Env} {fp : List Addr} {Qf : Value → Shared → Prop} {acc : Value} {xe : Value → Shared → Prop}
end
section
variable {X : Cx}
end
end Dn
namespace Dn
open PySem PySem.Spec PyProof.Rows L2
section
variable {W : Wd} {M : Md W} {E : WX} {X : Cx} {pos : Pos}
end
end Dn
namespace Dn
open PySem PySem.Spec PyProof.Rows L2
end Dn
namespace Dn
open PySem PySem.Spec PyProof.Rows L2 LamX
/-- the function object of a lambda of the frame X -/
def FnL (X : Cx) (params : Arguments) (body : Expr) (scope : Scope) (f c' : Addr) (pm ctv : Value) : HO :=
  .ext fun h => h.get? f = some (PySem.W.kla_obj "<lambda>" (X.env.qual ++ "<lambda>") params body scope (cloFrom X.env.cells scope.names []) pm c' ctv)
section
variable {X : Cx} {pins : List (Addr × Obj)} {σ : L2.St} {H : Hp} {s : Shared}
end
end Dn
namespace Dn
open PySem PySem.Spec PyProof.Rows L2 LamX
/-- a lambda: its code, its reading -/
structure LamT where
  params : Arguments
  body : Expr
  scope : Scope
  d : DE
/-- f is its function object -/
def LamF (X : Cx) (l : LamT) (H : Hp) (f : Addr) : Prop := f ∉ frs X.stack ∧ ∃ c' pm ctv, H f = some (FnL X l.params l.body l.scope f c' pm ctv) ∧ H c' = some (CodeO c' (X.env.qual ++ "<lambda>"))
section
variable {W : Wd} {X : Cx} {io io' : List Addr} {H H' : Hp}
theorem LamF.mono {l : LamT} {f : Addr} (h : LamF X l H f) (e : Ext W io H io' H') : LamF X l H' f := by
  obtain ⟨a, c', pm, ctv, b, c⟩ := h
  exact ⟨a, c', pm, ctv, e.cod _ _ b, e.cod _ _ c⟩
/-- the list at slot ic holds the function objects -/
def Fns (X : Cx) (lams : List LamT) (H : Hp) (fs : List Addr) : Prop := fs.length = lams.length ∧ ∀ (i : Nat) (l : LamT) (f : Addr), lams[i]? = some l → fs[i]? = some f → LamF X l H f
theorem Fns.mono {lams : List LamT} {fs : List Addr} (h : Fns X lams H fs) (e : Ext W io H io' H') : Fns X lams H' fs := ⟨h.1, fun i l f a b => (h.2 i l f a b).mono e⟩
theorem Rl.off (R : Rl W io hp H) {p : Addr} {u ho : HO} (hn : p ∉ io) (hu : H p = some u) (w : Wr u) : Rl W io hp (upd H p ho) := by
  have ex : Ext W io H io (upd H p ho) := Ext.set _ hu w
  refine ⟨R.len, R.nd, fun i a o hi h => ?_, ex.tab R.tb⟩
  obtain ⟨v, e, r⟩ := R.ob i a o hi h
  refine ⟨v, ?_, r.mono ex⟩
  rw [upd_ne (fun z => hn (by rw [← z]; exact List.mem_of_getElem? hi))]
  exact e
end
end Dn
namespace Dn
open PySem PySem.Spec PyProof.Rows L2
section
variable {X : Cx} {pins : List (Addr × Obj)} {σ : L2.St} {H : Hp} {s : Shared} {W : Wd}
open LamX
end
section
variable {X : Cx}
end
/-- the slots within such a block: slot ix holds the function object of l -/
def MB (W : Wd) (X : Cx) (ix : Nat) (σ0 : L2.St) (l : LamT) : Md W where
  rel := fun io H as σ => (std W).rel io H as σ0 ∧ as[ix]? = some none ∧ (∀ j, j ≠ ix → σ[j]? = σ0[j]?) ∧ ∃ f, σ[ix]? = some (some (.ref f)) ∧ LamF X l H f
  mono := fun e h => by
    obtain ⟨a, b, c, f, d, q⟩ := h
    exact ⟨(std W).mono e a, b, c, f, d, q.mono e⟩
  var := fun {io H as σ i v} h a n => by
    obtain ⟨S, b, c, _⟩ := h
    have ni : i ≠ ix := fun z => by
      rw [z, b] at a
      cases a
    obtain ⟨x, e, r⟩ := (std W).var S a n
    exact ⟨x, by rw [c i ni]; exact e, r⟩
  ok := fun _ => False
  set := fun _ _ h => h.elim
  wipe := fun _ h => h.elim
section
variable {X : Cx} {W : Wd}
open LamX
/-- the tests and items of such a comprehension -/
inductive FcOk (W : Wd) (X : Cx) (ix : Nat) (scope : Scope) (elt : Expr) (ifs : List Expr) : List LamT → List (DT × DE) → Prop
  | nil : FcOk W X ix scope elt ifs [] []
  | cons {l : LamT} {ls : List LamT} {t : DT} {e : DE} {qs : List (DT × DE)}
    (ht : ∀ (pins : List (Addr × Obj)) (σ : L2.St) (s : Shared) (H : Hp) (C : Addr) (cl : List (Str × Addr)) (fp : List Addr), Inv X pins σ H s → (∀ b ∈ fp, FpOk X pins H b) → PTs (X.blk s H scope (compEnvC scope cl C X.env) fp) ifs (tDT W (MB W X ix σ l) E0x t))
    (he : ∀ (pins : List (Addr × Obj)) (σ : L2.St) (s : Shared) (H : Hp) (C : Addr) (cl : List (Str × Addr)) (fp : List Addr), Inv X pins σ H s → (∀ b ∈ fp, FpOk X pins H b) → PE (X.blk s H scope (compEnvC scope cl C X.env) fp) elt (tD W (MB W X ix σ l) E0x e))
    (r : FcOk W X ix scope elt ifs ls qs) : FcOk W X ix scope elt ifs (l :: ls) ((t, e) :: qs)
theorem FcOk.zip {ix : Nat} {scope : Scope} {elt : Expr} {ifs : List Expr} {lams : List LamT} {qs : List (DT × DE)} (h : FcOk W X ix scope elt ifs lams qs) : ∃ ls : List (LamT × DT × DE), ls.map (·.1) = lams ∧ ls.map (·.2) = qs ∧
    ∀ q ∈ ls, ∀ (pins : List (Addr × Obj)) (σ : L2.St) (s : Shared) (H : Hp) (C : Addr) (cl : List (Str × Addr)) (fp : List Addr), Inv X pins σ H s → (∀ b ∈ fp, FpOk X pins H b) → PTs (X.blk s H scope (compEnvC scope cl C X.env) fp) ifs (tDT W (MB W X ix σ q.1) E0x q.2.1) ∧ PE (X.blk s H scope (compEnvC scope cl C X.env) fp) elt (tD W (MB W X ix σ q.1) E0x q.2.2) := by
  induction h with
  | nil => exact ⟨[], rfl, rfl, fun q hq => by cases hq⟩
  | @cons l ls0 t e qs0 ht he r ih =>
    obtain ⟨ls, e1, e2, e3⟩ := ih
    refine ⟨(l, t, e) :: ls, by simp [e1], by simp [e2], fun q hq => ?_⟩
    rcases List.mem_cons.mp hq with rfl | hq
    · exact fun pins σ s H C cl fp I f => ⟨ht pins σ s H C cl fp I f, he pins σ s H C cl fp I f⟩
    · exact e3 q hq
end
end Dn
namespace Dn
open PySem PySem.Spec PyProof.Rows L2
section
variable {W : Wd} {M : Md W} {E : WX} {X : Cx}
end
end Dn
namespace Q
open PySem Dn
def subs0 (s t : Nat) : Bool := (s == 0 && t == 0) || (s == 1 && t == 1) || (s == 2 && t == 2) || (s == 2 && t == 0)
def cs0 : List Str := ["Table", "Deque", "Counter"]
def fn0 : List Str := ["held", "places", "first_place", "next_place", "row", "limit", "move_count", "version"]
abbrev ct0 : CT := ctOf cs0.length subs0
def xs0 : List Str := ["BadExpression", "CountError"]
def xt0 : XT := ⟨3, 5, fun s t => (s == 3 && t == 3) || (s == 3 && t == 4) || (s == 4 && t == 4), [(3, "ValueError", true), (4, "ValueError", true)]⟩
end Q
namespace Q
open PySem PySem.Spec PyProof.Rows L2 Dn
set_option maxHeartbeats 0
def top (i : Nat) : Stmt := PySem.Challenge.pw_dequecounts_k35_expressions_known.main.body.getD i (.Pass ⟨0, 0, 0, 0⟩)
def d__law_has_form_0 : DefF := ⟨(pDef "_law_has_form"), "_law_has_form", "_law_has_form", defArgs (top 73), defBody (top 73), defScope (top 73), [], []⟩
def d__law_letters_0 : DefF := ⟨(pDef "_law_letters"), "_law_letters", "_law_letters", defArgs (top 71), defBody (top 71), defScope (top 71), [], []⟩
def d__law_depth_0 : DefF := ⟨(pDef "_law_depth"), "_law_depth", "_law_depth", defArgs (top 72), defBody (top 72), defScope (top 72), [], []⟩
def d_has_form_0 : DefF := ⟨(pDef "has_form"), "has_form", "has_form", defArgs (top 46), defBody (top 46), defScope (top 46), [], []⟩
def d_letters_of_0 : DefF := ⟨(pDef "letters_of"), "letters_of", "letters_of", defArgs (top 45), defBody (top 45), defScope (top 45), [], []⟩
def d_is_expression : DefF := ⟨(pDef "is_expression"), "is_expression", "is_expression", defArgs (top 47), defBody (top 47), defScope (top 47), [], []⟩
def d__law_error : DefF := ⟨(pDef "_law_error"), "_law_error", "_law_error", defArgs (top 75), defBody (top 75), defScope (top 75), [], []⟩
def d_smallest : DefF := ⟨(pDef "smallest"), "smallest", "smallest", defArgs (top 65), defBody (top 65), defScope (top 65), [], []⟩
def d_need_expression : DefF := ⟨(pDef "need_expression"), "need_expression", "need_expression", defArgs (top 48), defBody (top 48), defScope (top 48), [], []⟩
def d_Table_is_plain : DefF := ⟨(pMeth "Table" "is_plain"), "is_plain", "Table.is_plain", defArgs (clsStmt (top 31) 9), defBody (clsStmt (top 31) 9), defScope (clsStmt (top 31) 9), [], []⟩
def d_Counter_is_plain : DefF := ⟨(pMeth "Counter" "is_plain"), "is_plain", "Counter.is_plain", defArgs (clsStmt (top 35) 20), defBody (clsStmt (top 35) 20), defScope (clsStmt (top 35) 20), [], []⟩
def d_Table_ordered : DefF := ⟨(pMeth "Table" "ordered"), "ordered", "Table.ordered", defArgs (clsStmt (top 31) 12), defBody (clsStmt (top 31) 12), defScope (clsStmt (top 31) 12), [], []⟩
def d_Table_pairs : DefF := ⟨(pMeth "Table" "pairs"), "pairs", "Table.pairs", defArgs (clsStmt (top 31) 23), defBody (clsStmt (top 31) 23), defScope (clsStmt (top 31) 23), [], []⟩
def d_Counter_pairs : DefF := ⟨(pMeth "Counter" "pairs"), "pairs", "Counter.pairs", defArgs (clsStmt (top 35) 35), defBody (clsStmt (top 35) 35), defScope (clsStmt (top 35) 35), [], []⟩
def d_is_word : DefF := ⟨(pDef "is_word"), "is_word", "is_word", defArgs (top 17), defBody (top 17), defScope (top 17), [], []⟩
def d_is_integer : DefF := ⟨(pDef "is_integer"), "is_integer", "is_integer", defArgs (top 16), defBody (top 16), defScope (top 16), [], []⟩
def d_is_short : DefF := ⟨(pDef "is_short"), "is_short", "is_short", defArgs (top 18), defBody (top 18), defScope (top 18), [], []⟩
def d_is_item : DefF := ⟨(pDef "is_item"), "is_item", "is_item", defArgs (top 19), defBody (top 19), defScope (top 19), [], []⟩
def d_are_pairs : DefF := ⟨(pDef "are_pairs"), "are_pairs", "are_pairs", defArgs (top 29), defBody (top 29), defScope (top 29), [], []⟩
def d_pairs_of : DefF := ⟨(pDef "pairs_of"), "pairs_of", "pairs_of", defArgs (top 30), defBody (top 30), defScope (top 30), [], []⟩
def d_Table_xinit : DefF := ⟨(pMeth "Table" "__init__"), "__init__", "Table.__init__", defArgs (clsStmt (top 31) 0), defBody (clsStmt (top 31) 0), defScope (clsStmt (top 31) 0), [.adr (He.dflAt ("Table", some "__init__") 0)], []⟩
def d_is_pair : DefF := ⟨(pDef "is_pair"), "is_pair", "is_pair", defArgs (top 33), defBody (top 33), defScope (top 33), [], []⟩
def d_count_pairs : DefF := ⟨(pDef "count_pairs"), "count_pairs", "count_pairs", defArgs (top 34), defBody (top 34), defScope (top 34), [], []⟩
def d_Counter_xinit : DefF := ⟨(pMeth "Counter" "__init__"), "__init__", "Counter.__init__", defArgs (clsStmt (top 35) 0), defBody (clsStmt (top 35) 0), defScope (clsStmt (top 35) 0), [.adr (He.dflAt ("Counter", some "__init__") 0)], []⟩
def d_Counter_copy : DefF := ⟨(pMeth "Counter" "copy"), "copy", "Counter.copy", defArgs (clsStmt (top 35) 34), defBody (clsStmt (top 35) 34), defScope (clsStmt (top 35) 34), [], []⟩
def d_value : DefF := ⟨(pDef "value"), "value", "value", defArgs (top 49), defBody (top 49), defScope (top 49), [], []⟩
def d_unequal : DefF := ⟨(pDef "unequal"), "unequal", "unequal", defArgs (top 54), defBody (top 54), defScope (top 54), [], [("at_least", .non)]⟩
def d_disordered : DefF := ⟨(pDef "disordered"), "disordered", "disordered", defArgs (top 60), defBody (top 60), defScope (top 60), [], [("at_least", .non)]⟩
def d__law_is_right : DefF := ⟨(pDef "_law_is_right"), "_law_is_right", "_law_is_right", defArgs (top 76), defBody (top 76), defScope (top 76), [], []⟩
def d__law_source : DefF := ⟨(pDef "_law_source"), "_law_source", "_law_source", defArgs (top 67), defBody (top 67), defScope (top 67), [], []⟩
def d__law_draw : DefF := ⟨(pDef "_law_draw"), "_law_draw", "_law_draw", defArgs (top 68), defBody (top 68), defScope (top 68), [], []⟩
def d__law_choice : DefF := ⟨(pDef "_law_choice"), "_law_choice", "_law_choice", defArgs (top 69), defBody (top 69), defScope (top 69), [], []⟩
def d__law_expression_0 : DefF := ⟨(pDef "_law_expression"), "_law_expression", "_law_expression", defArgs (top 70), defBody (top 70), defScope (top 70), [], []⟩
def d__law_spoilt_0 : DefF := ⟨(pDef "_law_spoilt"), "_law_spoilt", "_law_spoilt", defArgs (top 74), defBody (top 74), defScope (top 74), [], []⟩
def d_law : DefF := ⟨(pDef "law"), "law", "law", defArgs (top 77), defBody (top 77), defScope (top 77), [], []⟩
def fn : List DefF := [d__law_has_form_0, d__law_letters_0, d__law_depth_0, d_has_form_0, d_letters_of_0, d_is_expression, d__law_error, d_smallest, d_need_expression, d_Table_is_plain, d_Counter_is_plain, d_Table_ordered, d_Table_pairs, d_Counter_pairs, d_is_word, d_is_integer, d_is_short, d_is_item, d_are_pairs, d_pairs_of, d_Table_xinit, d_is_pair, d_count_pairs, d_Counter_xinit, d_Counter_copy, d_value, d_unequal, d_disordered, d__law_is_right, d__law_source, d__law_draw, d__law_choice, d__law_expression_0, d__law_spoilt_0, d_law]
def fa : List He.Fa := [.glo "law", .glo "BadExpression", .free "isinstance", .free "str", .free "tuple", .free "len", .free "all", .glo "_law_has_form", .free "sum", .glo "_law_letters", .free "max", .free "int", .glo "_law_depth", .glo "has_form", .glo "letters_of", .int "MOST_DEPTH" 8, .int "MOST_LETTERS_expressions" 10, .glo "CountError", .free "ValueError", .glo "_law_error", .int "MOST_SMALL" 4, .glo "is_expression", .free "sorted", .int "MOST_LETTERS_items" 6, .str "LETTERS_items" "abcdefghijklmnopqrstuvwxyz", .free "bool", .free "abs", .glo "is_integer", .glo "is_word", .glo "is_short", .free "list", .glo "is_item", .glo "Table", .free "dict", .glo "are_pairs", .free "enumerate", .glo "pairs_of", .glo "is_pair", .glo "count_pairs", .glo "Counter", .glo "need_expression", .free "range", .glo "unequal", .free "repr", .glo "smallest", .glo "value", .glo "disordered", .glo "_law_draw", .glo "_law_choice", .glo "_law_expression", .glo "_law_spoilt", .free "min", .glo "_law_is_right", .glo "_law_source"]
def xt : List (PySem.W.Frag → Bool) := [cdB, ckB, wdXB cs0 xs0 fn0 subs0, fun K => decide (([(tabF K (codF K ((pDef "_law_is_right") K)), (("_law_is_right" : Str) ++ (".<locals>." : Str) ++ ("<lambda>" : Str)))].map (·.1)).Nodup), xwB (cs0 ++ xs0) fn0 xt0, x0B "BadExpression" [.type "ValueError", .type "Exception", .type "BaseException", .type "object"] "ValueError.__new__", tupB "LETTERS_expressions" [(.str "c"), (.str "d")], tupB "ONE_SIDED" [(.str "+"), (.str "-")], tupB "TWO_SIDED" [(.str "+"), (.str "-"), (.str "|"), (.str "&")], xoB (cs0 ++ xs0) xt0 4, methB "Table" "ordered" (pMeth "Table" "ordered"), methB "Counter" "ordered" (pMeth "Table" "ordered"), methB "Table" "pairs" (pMeth "Table" "pairs"), methB "Counter" "pairs" (pMeth "Counter" "pairs"), methB "Table" "is_plain" (pMeth "Table" "is_plain"), methB "Counter" "is_plain" (pMeth "Counter" "is_plain"), etB (He.dflAt ("Table", some "__init__") 0), clsatB "Table" "__init__" (pMeth "Table" "__init__"), etB (He.dflAt ("Counter", some "__init__") 0), mkB "Counter" (pMeth "Counter" "__init__"), methB "Counter" "copy" (pMeth "Counter" "copy")]
abbrev RR : PySem.W.OpenRow := PySem.W.OpenLaw.row PySem.Challenge.rw_dequecounts_k35_expressions_known
def ls : List Pth := [(pDef "_law_is_right")]
def as : List Addr := [3, 2, 31, 94, 201, 206, 213, 220, 513, 529, 536, 712, 723, 728, 989, 1002, 1003, 1004, 1009, 1014, 1021, 1028, 1035, 1067, 1106, 1131, 1138, 1145, 1152, 1159, 1164, 1169, 1174, 1181, 1188, 1193, 1200, 30, 93, 200, 205, 212, 219, 512, 528, 535, 711, 722, 727, 988, 1008, 1013, 1020, 1027, 1034, 1066, 1060, 1105, 1099, 1130, 1137, 1144, 1151, 1158, 1163, 1168, 1173, 1180, 1187, 1192, 1199, 550, 613, 632, 709, 744, 861, 959, 964, 549, 545, 612, 631, 708, 743, 737, 860, 958, 963, 544, 736]
abbrev hk : PySem.W.Hook := hookT as fa fn xt ls
def ob (s : PySem.W.SharedT) : AlF × Bool := obsT as fa fn xt ls (HandSHeadRun.getT s)
theorem ob_eq (s : PySem.W.SharedT) : ob s = hk.obs s.abs := obsT_eq (HandSHeadRun.getT_eq s)
def nms : List PySem.Str := (["_wall", "CountError", "BadItem", "BadBound", "BadPairs", "BadExpression", "Unlike", "Empty", "Full", "BadIndex", "NoKey", "NotFound", "MOST_LETTERS_items", "LETTERS_items", "is_integer", "is_word", "is_short", "is_item", "MOST_BOUND", "need_item", "rank", "is_bound", "place_in", "Deque", "checked", "are_pairs", "pairs_of", "Table", "is_pair", "count_pairs"] : List PySem.Str) ++ (["Counter", "paired_counts", "positive", "MOST_LETTERS_expressions", "MOST_DEPTH", "MOST_SMALL", "LETTERS_expressions", "TWO_SIDED", "ONE_SIDED", "letters_of", "has_form", "is_expression", "need_expression", "value", "computed", "count_in", "pairs_of_sum", "greatest_sum", "unequal", "parts_in", "presences", "examples", "counters_of", "order_of", "disordered", "rays", "joined_counts", "with_signs", "by_counts", "smallest"] : List PySem.Str) ++ (["_law_source", "_law_draw", "_law_choice", "_law_expression", "_law_letters", "_law_depth", "_law_has_form", "_law_spoilt", "_law_error", "_law_is_right"] : List PySem.Str)
theorem run (w : World) : HandSHeadRun.RunEq RR (PySem.W.view RR.prog [77]) hk ob 80000 nms w := by
  intro os
  kernel_rfl
abbrev FactsP : Prop := ∀ (P : Program) (w : World) (K : PySem.W.Frag) (h : Heap) (mg : Str → Option Value) (f : Addr), K.In h → h.Ns mainGlobals mg → mg "law" = some (.ref f) → SaysF fa fn xt K → (∀ l ∈ ls, LamAt K h (l K)) → ∃ fd : FuncData, (∀ (s : Shared) (v : Value), BindsTo s fd ⟨[v], []⟩ [("_law_script", v)]) ∧ ∀ base : Heap, K.In base → base.Ns mainGlobals mg → (∀ p ∈ csOf ls K, LamX.TabB base mg p.1 p.2) → FnG P w K mg base (L2.CX P w) 33 f fd ["_law_script"] (spLT (csOf ls K) K)
end Q
section
open PySem PySem.W PySem.Calls PyProof.Rows
theorem Q.fin_ (hf : Q.FactsP) : PySem.Challenge.rw_dequecounts_k35_expressions_known.Holds := by
  w_on; o_law
  refine HandSHeadRun.head_any (r := OpenLaw.row PySem.Challenge.rw_dequecounts_k35_expressions_known) (q := view (OpenLaw.row PySem.Challenge.rw_dequecounts_k35_expressions_known).prog [77]) (H := Q.hk) (ob := Q.ob) (M := 80000) (loose := Q.nms) (d := HandSHeadRun.topDef (OpenLaw.row PySem.Challenge.rw_dequecounts_k35_expressions_known).prog 77) (kwd := []) Q.ob_eq
    (by kernel_rfl) (fun s => by kernel_rfl) Q.run (by kernel_rfl) (by kernel_rfl) (by kernel_rfl) (by rfl) (by first | assumption | decide +kernel) (by decide +kernel) ⟨rfl, rfl, rfl, rfl, rfl, by decide +kernel⟩ ?hw ?hc
  case hw => w_witness2
  case hc =>
    refine Dn.walk_ofT (l := PySem.Challenge.rw_dequecounts_k35_expressions_known) (n := 63) (k := 33) (x := "_law_script") rfl (by decide) (by kernel_rfl) ⟨rfl, by decide, by decide⟩ ?F
    intro w mg fa h Y G hmg0
    obtain ⟨K, KX, c, hl⟩ := Y
    have hmg : mg ("law" : PySem.Str) = some (.ref fa) := by
      have e : (HandSHeadRun.topDef (OpenLaw.row PySem.Challenge.rw_dequecounts_k35_expressions_known).prog 77).name = ("law" : PySem.Str) := by kernel_rfl
      rw [← e]
      exact hmg0
    obtain ⟨fd, hb, hF⟩ := hf (PySem.Challenge.rw_dequecounts_k35_expressions_known).prog w K h mg fa KX G hmg c hl
    obtain ⟨z1, z2, z3⟩ := Dn.csOf_tab hl
    exact ⟨K, fd, Dn.spLT (Dn.csOf Q.ls K) K, Dn.csOf Q.ls K, KX, z1, z2, z3, hb, fun H a ns hl hO hC hS => ⟨a, ns, rfl, hl, hO, hC, hS, fun _ => rfl⟩, hF⟩
end
namespace Q
open PySem PySem.Spec PyProof.Rows L2 Dn
set_option maxHeartbeats 0
end Q
namespace Dn
open PySem PySem.Spec PyProof.Rows L2

section
variable {W : Wd} {io io' io'' : List Addr} {H H' H'' : Hp}
theorem RVs.app : ∀ {xs ys : List AV} {vs ws : List V}, RVs W io H xs vs → RVs W io H ys ws → RVs W io H (xs ++ ys) (vs ++ ws)
  | _, _, _, _, .nil, q => q
  | _, _, _, _, .cons r t, q => .cons r (RVs.app t q)
theorem RVs.take : ∀ {xs : List AV} {vs : List V} (n : Nat), RVs W io H xs vs → RVs W io H (xs.take n) (vs.take n)
  | _, _, 0, _ => .nil
  | _, _, n + 1, .nil => .nil
  | _, _, n + 1, .cons r t => .cons r (RVs.take n t)
theorem RVs.drop : ∀ {xs : List AV} {vs : List V} (n : Nat), RVs W io H xs vs → RVs W io H (xs.drop n) (vs.drop n)
  | _, _, 0, q => q
  | _, _, n + 1, .nil => .nil
  | _, _, n + 1, .cons r t => RVs.drop n t
theorem RVs.rep {xs : List AV} {vs : List V} (h : RVs W io H xs vs) : ∀ n : Nat, RVs W io H (List.replicate n xs).flatten (List.replicate n vs).flatten
  | 0 => .nil
  | n + 1 => by
    rw [List.replicate_succ, List.replicate_succ, List.flatten_cons, List.flatten_cons]
    exact h.app (RVs.rep h n)
/-- values that are the same in every heap -/
theorem RVs.ints : ∀ ns : List Int, RVs W io H (ns.map .int) (ns.map .int)
  | [] => .nil
  | n :: r => .cons (.int n) (RVs.ints r)
/-- an address of ours is tracked -/
theorem Rl.mem (R : Rl W io hp H) {a : Addr} (h : a ∈ io) : ∃ u, H a = some u := by
  obtain ⟨n, hn⟩ := List.mem_iff_getElem?.mp h
  obtain ⟨_, u, _, e, _⟩ := R.has hn
  exact ⟨u, e⟩
theorem sqT_new {K : PySem.W.Frag} {p : Addr} {ho : HO} (hp : H p = none) {a : Addr} {xs : List V} (h : SqT K H a xs) : SqT K (upd H p ho) a xs := by
  rcases h with (h | ⟨o, h⟩) | h
  · exact .inl (.inl (by rw [upd_ne (ne_of_none h hp)]; exact h))
  · exact .inl (.inr ⟨o, by rw [upd_ne (ne_of_none h hp)]; exact h⟩)
  · exact .inr h
theorem roL_new {K : PySem.W.Frag} {p : Addr} {ho : HO} (hp : H p = none) {a : Addr} {xs : List V} (h : RoL K H a xs) : RoL K (upd H p ho) a xs := by
  rcases h with ⟨o, h⟩ | h
  · exact .inl ⟨o, by rw [upd_ne (ne_of_none h hp)]; exact h⟩
  · exact .inr h
theorem tab_new {p : Addr} {ho : HO} (hp : H p = none) {P : Addr} {q : Str} (t : LamX.TabS H P q) : LamX.TabS (upd H p ho) P q := by
  obtain ⟨ps, h1, h2, h3⟩ := t
  refine ⟨ps, by rw [upd_ne (ne_of_none h1 hp)]; exact h1, h2, fun pos cv hc => ?_⟩
  obtain ⟨c, e1, e2⟩ := h3 pos cv hc
  exact ⟨c, e1, by rw [upd_ne (ne_of_none e2 hp)]; exact e2⟩
theorem Ext.new (io : List Addr) {p : Addr} (ho : HO) (hp : H p = none) (l : List Addr) : Ext W io H (io ++ l) (upd H p ho) :=
  ⟨⟨l, rfl⟩, fun _ _ h => sqT_new hp h, fun _ _ h => roL_new hp h, fun a fs h => by rw [upd_ne (ne_of_none h hp)]; exact h, fun a o u h => by rw [upd_ne (ne_of_none h hp)]; exact h, fun a u h => by rw [upd_ne (ne_of_none h hp)]; exact h, fun h p' hp' => tab_new hp (h p' hp')⟩
theorem Ext.new0 {p : Addr} {ho : HO} (hp : H p = none) : Ext W io H io (upd H p ho) := by
  have e := Ext.new (W := W) io ho hp []
  rwa [List.append_nil] at e
/-- a new thing that is none of ours (a tuple, an exception's dict) -/
theorem Rl.other (R : Rl W io hp H) {p : Addr} {ho : HO} (hn : H p = none) : Rl W io hp (upd H p ho) := by
  refine ⟨R.len, R.nd, fun i a o hi h => ?_, (Ext.new0 (W := W) (io := io) hn).tab R.tb⟩
  obtain ⟨u, e, r⟩ := R.at hi h
  exact ⟨u, by rw [upd_ne (ne_of_none e hn)]; exact e, r.mono (Ext.new0 hn)⟩
/-- a new object -/
theorem Rl.new (R : Rl W io hp H) {p : Addr} {ho : HO} {o : AO} (hn : H p = none) (r : RO W (io ++ [p]) (upd H p ho) o ho) : Rl W (io ++ [p]) (hp ++ [o]) (upd H p ho) := by
  have hp' : p ∉ io := fun h => by
    obtain ⟨u, e⟩ := R.mem h
    rw [hn] at e
    cases e
  refine ⟨by simp [R.len], ?_, fun i a q hi h => ?_, (Ext.new0 (W := W) (io := io) hn).tab R.tb⟩
  · refine List.nodup_append.mpr ⟨R.nd, by simp, fun a ha b hb => ?_⟩
    rw [List.mem_singleton] at hb
    subst hb
    rintro rfl
    exact hp' ha
  · by_cases hl : i < io.length
    · rw [List.getElem?_append_left hl] at hi
      rw [List.getElem?_append_left (by rw [← R.len]; exact hl)] at h
      obtain ⟨u, e, r'⟩ := R.at hi h
      exact ⟨u, by rw [upd_ne (ne_of_none e hn)]; exact e, r'.mono (Ext.new io ho hn [p])⟩
    · rw [List.getElem?_append_right (by omega)] at hi
      rw [List.getElem?_append_right (by rw [← R.len]; omega)] at h
      rw [R.len] at hi
      have z : i - hp.length = 0 := by
        obtain ⟨hh, _⟩ := List.getElem?_eq_some_iff.mp hi
        simp at hh
        omega
      rw [z] at hi h
      simp at hi h
      subst hi
      subst h
      exact ⟨ho, upd_same, r⟩
/-- the heap grows by things that are none of ours -/
theorem Rl.grow (R : Rl W io hp H) (k : ∀ a o, H a = some o → H' a = some o) : Rl W io hp H' ∧ Ext W io H io H' := by
  have e : Ext W io H io H' := ⟨⟨[], by simp⟩, fun a xs h => by
      rcases h with (h | ⟨o, h⟩) | h
      · exact .inl (.inl (k _ _ h))
      · exact .inl (.inr ⟨o, k _ _ h⟩)
      · exact .inr h, fun a xs h => by
      rcases h with ⟨o, h⟩ | h
      · exact .inl ⟨o, k _ _ h⟩
      · exact .inr h, fun a fs h => k _ _ h, fun a o u h => k _ _ h, fun a u h => k _ _ h, fun h p hp => (h p hp).ext k⟩
  refine ⟨⟨R.len, R.nd, fun i a o hi h => ?_, e.tab R.tb⟩, e⟩
  obtain ⟨u, eu, r⟩ := R.at hi h
  exact ⟨u, k _ _ eu, r.mono e⟩
end
end Dn
namespace Dn
open PySem PySem.Spec PyProof.Rows L2

abbrev DA := Sl → Hep → R (List AV)
def R.st {T : Type} (r : R T) (s : Sl) (k : T → Hep → SR) : SR := match r with
  | .ok a h => k a h
  | .exc t fs h => .exc t fs s h
  | .stuck => .stuck
section
variable {W : Wd} {M : Md W} {T T' U U' : Type}
abbrev tDA (W : Wd) (M : Md W) (E : WX) (f : DA) : TA := tG W M (RVs W) E f
section
variable {rh : Rel T U} {rh' : Rel T' U'} {E : WX} {D : Ends} {σ : L2.St} {H H1 : Hp} {io io1 : List Addr} {hp : Hep} {as : Sl}
/-- a part of an expression, then the rest -/
theorem step {f : Sl → Hep → R T} {k : T → Hep → R T'} {Q : U' → Hp → Prop} (rl : Rl W io hp H) (S : M.rel io H as σ) (P : Pst W rh' E σ Q io H ((f as hp).bind k)) :
    tG W M rh E f σ H (fun x H1 => ∃ io1 hp1 a, Ext W io H io1 H1 ∧ Rl W io1 hp1 H1 ∧ rh io1 H1 a x ∧ Pst W rh' E σ Q io1 H1 (k a hp1)) := by
  refine ⟨io, hp, as, rl, S, ?_⟩
  cases e : f as hp with
  | ok a hp1 =>
    rw [e] at P
    exact fun io' H' x e' r' q => ⟨io', hp1, a, e', r', q, Pst.later P e'⟩
  | exc t fs hp1 =>
    rw [e] at P
    exact P
  | stuck =>
    rw [e] at P
    exact P
/-- a part of a statement, then the rest -/
theorem stepS {f : Sl → Hep → R T} {k : T → Hep → SR} (rl : Rl W io hp H) (S : M.rel io H as σ) (P : Pss W M E D io H ((f as hp).st as k)) :
    tG W M rh E f σ H (fun x H1 => ∃ io1 hp1 a, Ext W io H io1 H1 ∧ Rl W io1 hp1 H1 ∧ rh io1 H1 a x ∧ Pss W M E D io1 H1 (k a hp1)) := by
  refine ⟨io, hp, as, rl, S, ?_⟩
  cases e : f as hp with
  | ok a hp1 =>
    rw [e] at P
    exact fun io' H' x e' r' q => ⟨io', hp1, a, e', r', q, Pss.later P e'⟩
  | exc t fs hp1 =>
    rw [e] at P
    exact fun io' H' c d e' r' q => P io' H' σ c d e' r' (M.mono e' S) q
  | stuck =>
    rw [e] at P
    exact P
end
end

section
variable {X : Cx}
theorem peI {e : Expr} {t t' : TE} (h : PE X e t) (i : ∀ σ H Q, t' σ H Q → t σ H Q) : PE X e t' := ⟨fun pins s σ H Q I q => h.run pins s σ H Q I (i σ H Q q)⟩
theorem ptI {e : Expr} {t t' : TT} (h : PT X e t) (i : ∀ σ H Q, t' σ H Q → t σ H Q) : PT X e t' := ⟨fun pins s σ H Q I q => h.run pins s σ H Q I (i σ H Q q)⟩
theorem paI {e : List Expr} {t t' : TA} (h : PA X e t) (i : ∀ σ H Q, t' σ H Q → t σ H Q) : PA X e t' := ⟨fun pos pins s σ H Q I q => h.run pos pins s σ H Q I (i σ H Q q)⟩
theorem psI {e : Stmt} {t t' : TS} (h : PS X e t) (i : ∀ D σ H, t' D σ H → t D σ H) : PS X e t' := ⟨fun pins s σ H D I q => h.run pins s σ H D I (i D σ H q)⟩
theorem pssI {e : List Stmt} {t t' : TS} (h : PSs X e t) (i : ∀ D σ H, t' D σ H → t D σ H) : PSs X e t' := ⟨fun pins s σ H D I q => h.run pins s σ H D I (i D σ H q)⟩
end

def dVar (i : Nat) : DE := fun s h => match s[i]? with
  | some (some (.exn _ _)) => .stuck
  | some (some v) => .ok v h
  | _ => .stuck
def dC (v : AV) : DE := fun _ h => .ok v h
/-- values that lie in the written part, or nowhere -/
def RW0 (W : Wd) (v : AV) (x : V) : Prop := ∀ io H, RV W io H v x

section
variable {W : Wd} {M : Md W} {E : WX} {X : Cx}
theorem vD {i : Nat} {e : Expr} (h : PE X e (tVar i)) : PE X e (tD W M E (dVar i)) := peI h fun σ H Q ⟨io, hp, as, rl, S, P⟩ => by
  unfold dVar at P
  cases z : as[i]? with
  | none =>
    rw [z] at P
    exact P.elim
  | some o =>
    rw [z] at P
    cases o with
    | none => exact P.elim
    | some v =>
      have hn : ∀ t fs, v ≠ .exn t fs := fun t fs q => by
        subst q
        exact P.elim
      obtain ⟨x, e, r⟩ := M.var S z hn
      refine ⟨x, e, ?_⟩
      cases v with
      | exn t fs => exact absurd rfl (hn t fs)
      | _ => exact P.ok rl r
theorem cD {v : AV} {x : V} {e : Expr} (h : PE X e (tC x)) (r : RW0 W v x) : PE X e (tD W M E (dC v)) := peI h fun σ H Q ⟨io, hp, as, rl, S, P⟩ => P.ok rl (r io H)
end

abbrev D1 := AV → Hep → Op AV
abbrev DL := List AV → Hep → Op AV
def t1 (W : Wd) (r : D1) : V → Hp → VK → Prop := fun x H Q => ∃ io hp a, Rl W io hp H ∧ RV W io H a x ∧ Pop W (RV W) Q io H (r a hp)
def tl (W : Wd) (r : DL) : List V → Hp → VK → Prop := fun xs H Q => ∃ io hp as, Rl W io hp H ∧ RVs W io H as xs ∧ Pop W (RV W) Q io H (r as hp)
def dOp (r : D2) (f g : DE) : DE := fun s h => (f s h).bind fun a h1 => (g s h1).bind fun b h2 => R.of (r a b h2)
def dCB (r : DL) (f : DA) : DE := fun s h => (f s h).bind fun a h1 => R.of (r a h1)
def dNil : DA := fun _ h => .ok [] h
def dCons (f : DE) (g : DA) : DA := fun s h => (f s h).bind fun a h1 => (g s h1).bind fun b h2 => .ok (a :: b) h2

section
variable {W : Wd} {M : Md W} {E : WX} {X : Cx} {a b c : Expr} {es : List Expr} {f g k : DE} {fa ga : DA} {r : D2} {pos : Pos}
theorem op_imp {F : Value → Value → Sem Value} {r r' : R2} (h : OpR X F r) (i : ∀ x y H Q, r' x y H Q → r x y H Q) : OpR X F r' := fun pins s σ H x y v u Q I r1 r2 q => h pins s σ H x y v u Q I r1 r2 (i x y H Q q)
theorem call_imp {F : Value} {r r' : List V → Hp → VK → Prop} (h : CallR X F r) (i : ∀ x H Q, r' x H Q → r x H Q) : CallR X F r' := fun pins s σ H xs us Q I rr q => h pins s σ H xs us Q I rr (i xs H Q q)
/-- two parts -/
theorem op_in {σ : L2.St} {H : Hp} {Q : VK} (h : tD W M E (dOp r f g) σ H Q) : tOp (t2 W r) (tD W M E f) (tD W M E g) σ H Q := by
  obtain ⟨io, hp, as, rl, S, P⟩ := h
  refine (step (rh := RV W) (f := f) rl S P).imp fun x H1 ⟨io2, hp2, a, e2, rl2, ra, P2⟩ => ?_
  refine (step (rh := RV W) (f := g) rl2 (M.mono e2 S) P2).imp fun y H4 ⟨io5, hp5, b, e5, rl5, rb, P5⟩ => ?_
  exact ⟨io5, hp5, a, b, rl5, ra.mono e5, rb, P5.of⟩
theorem cb_in {r : DL} {σ : L2.St} {H : Hp} {Q : VK} (h : tD W M E (dCB r fa) σ H Q) : tCB (tl W r) (tDA W M E fa) σ H Q := by
  obtain ⟨io, hp, as, rl, S, P⟩ := h
  exact (step (rh := RVs W) (f := fa) rl S P).imp fun x H1 ⟨io2, hp2, a, e2, rl2, ra, P2⟩ => ⟨io2, hp2, a, rl2, ra, P2.of⟩
theorem nil_in {σ : L2.St} {H : Hp} {Q : List V → Hp → Prop} (h : tDA W M E dNil σ H Q) : tNil σ H Q := by
  obtain ⟨io, hp, as, rl, S, P⟩ := h
  exact P.ok rl .nil
theorem cons_in {σ : L2.St} {H : Hp} {Q : List V → Hp → Prop} (h : tDA W M E (dCons f fa) σ H Q) : tCons (tD W M E f) (tDA W M E fa) σ H Q := by
  obtain ⟨io, hp, as, rl, S, P⟩ := h
  refine (step (rh := RV W) (f := f) rl S P).imp fun x H1 ⟨io2, hp2, a, e2, rl2, ra, P2⟩ => ?_
  refine (step (rh := RVs W) (f := fa) rl2 (M.mono e2 S) P2).imp fun y H4 ⟨io5, hp5, b, e5, rl5, rb, P5⟩ => ?_
  exact P5.ok rl5 (.cons (ra.mono e5) rb)
theorem nD : PA X [] (tDA W M E dNil) := paI pa_nil fun _ _ _ h => nil_in h
theorem aD (ha : PE X a (tD W M E f)) (hr : PA X es (tDA W M E fa)) (hs : starEach (a :: es) X.env = (false, eval a X.env) :: starEach es X.env := by rfl) : PA X (a :: es) (tDA W M E (dCons f fa)) :=
  paI (pa_cons ha hr hs) fun _ _ _ h => cons_in h
theorem opD {op : Operator} (ho : OpR X (binaryOp op) (t2 W r)) (ha : PE X a (tD W M E f)) (hb : PE X b (tD W M E g)) : PE X (.BinOp a op b pos) (tD W M E (dOp r f g)) := peI (pe_op ho ha hb) fun _ _ _ h => op_in h
theorem cmD {op : CmpOp} (ho : OpR X (compareOp op) (t2 W r)) (ha : PE X a (tD W M E f)) (hb : PE X b (tD W M E g)) (hm : behindInMarks op b = false) : PE X (.Compare a [op] [b] pos) (tD W M E (dOp r f g)) := peI (pe_cmpR ho ha hb hm) fun _ _ _ h => op_in h
end

def dTst (f : DE) : DT := fun s h => (f s h).bind fun a h1 => match a with
  | .bl b => .ok b h1
  | _ => .stuck
def dAnd (f g : DT) : DT := fun s h => (f s h).bind fun b h1 => match b with
  | true => g s h1
  | false => .ok false h1
def dOr (f g : DT) : DT := fun s h => (f s h).bind fun b h1 => match b with
  | true => .ok true h1
  | false => g s h1
def dNot (f : DT) : DT := fun s h => (f s h).bind fun b h1 => .ok (!b) h1
def dIf (c : DT) (f g : DE) : DE := fun s h => (c s h).bind fun b h1 => match b with
  | true => f s h1
  | false => g s h1
/-- a and b, a or b as values of truth -/
def dAndV (f g : DE) : DE := fun s h => (f s h).bind fun a h1 => match a with
  | .bl true => g s h1
  | .bl false => .ok (.bl false) h1
  | _ => .stuck
def dOrV (f g : DE) : DE := fun s h => (f s h).bind fun a h1 => match a with
  | .bl true => .ok (.bl true) h1
  | .bl false => g s h1
  | _ => .stuck
def dNotV (f : DE) : DE := fun s h => (f s h).bind fun a h1 => match a with
  | .bl b => .ok (.bl (!b)) h1
  | _ => .stuck
/-- a op b op' c -/
def dChn (r r' : D2) (f g k : DE) : DE := fun s h => (f s h).bind fun a h1 => (g s h1).bind fun b h2 => (R.of (r a b h2)).bind fun z h3 => match z with
  | .bl true => (k s h3).bind fun c h4 => R.of (r' b c h4)
  | .bl false => .ok (.bl false) h3
  | _ => .stuck
section
variable {W : Wd} {M : Md W} {E : WX} {X : Cx} {a b c : Expr} {es : List Expr} {f g k : DE} {ft gt : DT} {r r' : D2} {pos : Pos}
theorem RV.bl_inv {io : List Addr} {H : Hp} {b : Bool} {x : V} (h : RV W io H (.bl b) x) : x = .bl b := by
  cases h
  rfl
theorem RV.int_inv {io : List Addr} {H : Hp} {b : Int} {x : V} (h : RV W io H (.int b) x) : x = .int b := by
  cases h
  rfl
theorem RV.str_inv {io : List Addr} {H : Hp} {b : Str} {x : V} (h : RV W io H (.str b) x) : x = .str b := by
  cases h
  rfl
theorem RV.non_inv {io : List Addr} {H : Hp} {x : V} (h : RV W io H .non x) : x = .non := by
  cases h
  rfl
theorem tst_in {σ : L2.St} {H : Hp} {Q : Bool → Hp → Prop} (h : tDT W M E (dTst f) σ H Q) : tB (tD W M E f) σ H Q := by
  obtain ⟨io, hp, as, rl, S, P⟩ := h
  refine (step (rh := RV W) (f := f) rl S P).imp fun x H1 ⟨io2, hp2, a, e2, rl2, ra, P2⟩ => ?_
  cases a with
  | bl b =>
    obtain rfl := ra.bl_inv
    exact ⟨b, rfl, P2.ok rl2 rfl⟩
  | _ => exact P2.elim
theorem tstD (h : PE X a (tD W M E f)) (he : ∀ whole, isTrue a X.env whole = (do let v ← whole; standAt a.pos; holding [v] (truthy v)) := by intro _; rfl) : PT X a (tDT W M E (dTst f)) := ptI (pt_val h he) fun _ _ _ q => tst_in q
theorem and_in {σ : L2.St} {H : Hp} {Q : Bool → Hp → Prop} (h : tDT W M E (dAnd ft gt) σ H Q) : tAnd (tDT W M E ft) (tDT W M E gt) σ H Q := by
  obtain ⟨io, hp, as, rl, S, P⟩ := h
  refine (step (rh := fun _ _ b c => b = c) (f := ft) rl S P).imp fun x H1 ⟨io2, hp2, a, e2, rl2, ra, P2⟩ => ?_
  subst ra
  cases a with
  | true => exact iteT ⟨io2, hp2, as, rl2, M.mono e2 S, P2⟩
  | false => exact iteF (P2.ok rl2 rfl)
theorem or_in {σ : L2.St} {H : Hp} {Q : Bool → Hp → Prop} (h : tDT W M E (dOr ft gt) σ H Q) : tOr (tDT W M E ft) (tDT W M E gt) σ H Q := by
  obtain ⟨io, hp, as, rl, S, P⟩ := h
  refine (step (rh := fun _ _ b c => b = c) (f := ft) rl S P).imp fun x H1 ⟨io2, hp2, a, e2, rl2, ra, P2⟩ => ?_
  subst ra
  cases a with
  | true => exact iteT (P2.ok rl2 rfl)
  | false => exact iteF ⟨io2, hp2, as, rl2, M.mono e2 S, P2⟩
theorem not_in {σ : L2.St} {H : Hp} {Q : Bool → Hp → Prop} (h : tDT W M E (dNot ft) σ H Q) : tNot (tDT W M E ft) σ H Q := by
  obtain ⟨io, hp, as, rl, S, P⟩ := h
  refine (step (rh := fun _ _ b c => b = c) (f := ft) rl S P).imp fun x H1 ⟨io2, hp2, a, e2, rl2, ra, P2⟩ => ?_
  subst ra
  exact P2.ok rl2 rfl
/-- the words for tests: and, or with their last part, not, another -/
theorem and1D (ha : PT X a (tDT W M E ft)) : PW X (.BoolOp .And [a] pos) (tDT W M E ft) := pw_and1 ha
theorem or1D (ha : PT X a (tDT W M E ft)) : PW X (.BoolOp .Or [a] pos) (tDT W M E ft) := pw_or1 ha
theorem pwI {e : Expr} {t t' : TT} (h : PW X e t) (i : ∀ σ H Q, t' σ H Q → t σ H Q) : PW X e t' := ⟨fun wh pins s σ H Q I q => h.run wh pins s σ H Q I (i σ H Q q)⟩
theorem andD (ha : PT X a (tDT W M E ft)) (hb : PW X (.BoolOp .And (b :: es) pos) (tDT W M E gt)) : PW X (.BoolOp .And (a :: b :: es) pos) (tDT W M E (dAnd ft gt)) := pwI (pw_and ha hb) fun _ _ _ h => and_in h
theorem orD (ha : PT X a (tDT W M E ft)) (hb : PW X (.BoolOp .Or (b :: es) pos) (tDT W M E gt)) : PW X (.BoolOp .Or (a :: b :: es) pos) (tDT W M E (dOr ft gt)) := pwI (pw_or ha hb) fun _ _ _ h => or_in h
theorem notD (ha : PT X a (tDT W M E ft)) : PT X (.UnaryOp .Not a pos) (tDT W M E (dNot ft)) := ptI (pt_not ha) fun _ _ _ h => not_in h
theorem if_in {σ : L2.St} {H : Hp} {Q : VK} (h : tD W M E (dIf ft f g) σ H Q) : tIf (tDT W M E ft) (tD W M E f) (tD W M E g) σ H Q := by
  obtain ⟨io, hp, as, rl, S, P⟩ := h
  refine (step (rh := fun _ _ b c => b = c) (f := ft) rl S P).imp fun x H1 ⟨io2, hp2, a, e2, rl2, ra, P2⟩ => ?_
  subst ra
  cases a with
  | true => exact iteT ⟨io2, hp2, as, rl2, M.mono e2 S, P2⟩
  | false => exact iteF ⟨io2, hp2, as, rl2, M.mono e2 S, P2⟩
theorem ifD (hc : PT X c (tDT W M E ft)) (ha : PE X a (tD W M E f)) (hb : PE X b (tD W M E g)) : PE X (.IfExp c a b pos) (tD W M E (dIf ft f g)) := peI (pe_ifExp hc ha hb) fun _ _ _ h => if_in h
theorem andV_in {σ : L2.St} {H : Hp} {Q : VK} (h : tD W M E (dAndV f g) σ H Q) : tAndV (tD W M E f) (tD W M E g) σ H Q := by
  obtain ⟨io, hp, as, rl, S, P⟩ := h
  refine (step (rh := RV W) (f := f) rl S P).imp fun x H1 ⟨io2, hp2, a, e2, rl2, ra, P2⟩ => ?_
  cases a with
  | bl b =>
    obtain rfl := ra.bl_inv
    refine ⟨b, rfl, ?_⟩
    cases b with
    | true => exact iteT ⟨io2, hp2, as, rl2, M.mono e2 S, P2⟩
    | false => exact iteF (P2.ok rl2 (.bl false))
  | _ => exact P2.elim
theorem orV_in {σ : L2.St} {H : Hp} {Q : VK} (h : tD W M E (dOrV f g) σ H Q) : tOrV (tD W M E f) (tD W M E g) σ H Q := by
  obtain ⟨io, hp, as, rl, S, P⟩ := h
  refine (step (rh := RV W) (f := f) rl S P).imp fun x H1 ⟨io2, hp2, a, e2, rl2, ra, P2⟩ => ?_
  cases a with
  | bl b =>
    obtain rfl := ra.bl_inv
    refine ⟨b, rfl, ?_⟩
    cases b with
    | true => exact iteT (P2.ok rl2 (.bl true))
    | false => exact iteF ⟨io2, hp2, as, rl2, M.mono e2 S, P2⟩
  | _ => exact P2.elim
theorem notV_in {σ : L2.St} {H : Hp} {Q : VK} (h : tD W M E (dNotV f) σ H Q) : tNotV (tD W M E f) σ H Q := by
  obtain ⟨io, hp, as, rl, S, P⟩ := h
  refine (step (rh := RV W) (f := f) rl S P).imp fun x H1 ⟨io2, hp2, a, e2, rl2, ra, P2⟩ => ?_
  cases a with
  | bl b =>
    obtain rfl := ra.bl_inv
    exact ⟨b, rfl, P2.ok rl2 (.bl (!b))⟩
  | _ => exact P2.elim
theorem andVD (ha : PE X a (tD W M E f)) (hb : PE X (.BoolOp .And (b :: es) pos) (tD W M E g)) : PE X (.BoolOp .And (a :: b :: es) pos) (tD W M E (dAndV f g)) := peI (pe_and ha hb) fun _ _ _ h => andV_in h
theorem orVD (ha : PE X a (tD W M E f)) (hb : PE X (.BoolOp .Or (b :: es) pos) (tD W M E g)) : PE X (.BoolOp .Or (a :: b :: es) pos) (tD W M E (dOrV f g)) := peI (pe_or ha hb) fun _ _ _ h => orV_in h
theorem notVD (ha : PE X a (tD W M E f)) : PE X (.UnaryOp .Not a pos) (tD W M E (dNotV f)) := peI (pe_not ha) fun _ _ _ h => notV_in h
theorem oneVD {op} (ha : PE X a (tD W M E f)) : PE X (.BoolOp op [a] pos) (tD W M E f) := pe_one ha
theorem chn_in {σ : L2.St} {H : Hp} {Q : VK} (h : tD W M E (dChn r r' f g k) σ H Q) : tChain (t2 W r) (t2 W r') (tD W M E f) (tD W M E g) (tD W M E k) σ H Q := by
  obtain ⟨io, hp, as, rl, S, P⟩ := h
  refine (step (rh := RV W) (f := f) rl S P).imp fun x H1 ⟨io2, hp2, a, e2, rl2, ra, P2⟩ => ?_
  refine (step (rh := RV W) (f := g) rl2 (M.mono e2 S) P2).imp fun y H4 ⟨io5, hp5, b, e5, rl5, rb, P5⟩ => ?_
  refine ⟨io5, hp5, a, b, rl5, ra.mono e5, rb, ?_⟩
  cases z : r a b hp5 with
  | none =>
    rw [z] at P5
    exact P5
  | some q =>
    obtain ⟨v, h3⟩ := q
    rw [z] at P5
    intro io6 H6 w e6 rl6 rw6
    cases v with
    | bl c =>
      obtain rfl := rw6.bl_inv
      refine ⟨c, rfl, ?_⟩
      have P6 := Pst.later P5 e6
      cases c with
      | true =>
        refine iteT ((step (rh := RV W) (f := k) rl6 (M.mono e6 (M.mono e5 (M.mono e2 S))) P6).imp fun w7 H7 ⟨io7, hp7, d, e7, rl7, rd, P7⟩ => ?_)
        exact ⟨io7, hp7, b, d, rl7, rb.mono (e6.trans e7), rd, P7.of⟩
      | false => exact iteF (P6.ok rl6 (.bl false))
    | _ => exact P5.elim
theorem chnD {op op' : CmpOp} (ho : OpR X (compareOp op) (t2 W r)) (ho' : OpR X (compareOp op') (t2 W r')) (ha : PE X a (tD W M E f)) (hb : PE X b (tD W M E g)) (hc : PE X c (tD W M E k)) (hm : lastMarks [op, op'] [b, c] = false := by rfl) : PE X (.Compare a [op, op'] [b, c] pos) (tD W M E (dChn r r' f g k)) := peI (pe_chain ho ho' ha hb hc hm) fun _ _ _ h => chn_in h
theorem cmT {op : CmpOp} (ho : OpR X (compareOp op) (t2 W r)) (ha : PE X a (tD W M E f)) (hb : PE X b (tD W M E g)) (hm : behindInMarks op b = false) : PT X (.Compare a [op] [b] pos) (tDT W M E (dTst (dOp r f g))) :=
  ptI (pt_cmpR ho ha hb hm) fun σ H Q h => by
    obtain ⟨io, hp, as, rl, S, P⟩ := h
    refine op_in (M := M) (E := E) ?_
    exact (tst_in (f := dOp r f g) ⟨io, hp, as, rl, S, P⟩ : tB (tD W M E (dOp r f g)) σ H Q)
end

def dSkip : DS := fun s h => .nx s h
def dSeq (f g : DS) : DS := fun s h => (f s h).then g
def dDrop (f : DE) : DS := fun s h => (f s h).st s fun _ h1 => .nx s h1
def dRet (f : DE) : DS := fun s h => (f s h).st s fun v h1 => .rt v h1
def dSet (i : Nat) (f : DE) : DS := fun s h => (f s h).st s fun v h1 => .nx (s.set i (some v)) h1
def dIfS (c : DT) (f g : DS) : DS := fun s h => (c s h).st s fun b h1 => match b with
  | true => f s h1
  | false => g s h1
section
variable {W : Wd} {M : Md W} {E : WX} {X : Cx} {a b c : Expr} {st : Stmt} {sts sts' : List Stmt} {f g k : DE} {ft gt : DT} {fs gs : DS} {pos : Pos}
theorem skip_in {D : Ends} {σ : L2.St} {H : Hp} (h : tS W M E dSkip D σ H) : tNext D σ H := by
  obtain ⟨io, hp, as, rl, S, P⟩ := h
  exact P io H σ Ext.refl rl S
theorem seq_in {D : Ends} {σ : L2.St} {H : Hp} (h : tS W M E (dSeq fs gs) D σ H) : tSeq (tS W M E fs) (tS W M E gs) D σ H := by
  obtain ⟨io, hp, as, rl, S, P⟩ := h
  refine ⟨io, hp, as, rl, S, ?_⟩
  have P' : Pss W M E D io H ((fs as hp).then gs) := P
  cases z : fs as hp with
  | nx s h =>
    rw [z] at P'
    exact fun io' H' σ' e rl' S' => ⟨io', h, s, rl', S', Pss.later P' e⟩
  | rt s h =>
    rw [z] at P'
    exact P'
  | bk s h =>
    rw [z] at P'
    exact P'
  | ct s h =>
    rw [z] at P'
    exact P'
  | exc t fs s h =>
    rw [z] at P'
    exact P'
  | stuck =>
    rw [z] at P'
    exact P'
theorem ss0 : PSs X [] (tS W M E dSkip) := pssI pss_nil fun _ _ _ h => skip_in h
theorem ssC (h1 : PS X st (tS W M E fs)) (h2 : PSs X sts (tS W M E gs)) : PSs X (st :: sts) (tS W M E (dSeq fs gs)) := pssI (pss_cons h1 h2) fun _ _ _ h => seq_in h
theorem ss1 (h1 : PS X st (tS W M E fs)) : PSs X [st] (tS W M E fs) := pss_one h1
theorem sExpr (he : PE X a (tD W M E f)) (hs : swapsWith a none pos.line X.env = pure false := by rfl) : PS X (.Expr a pos) (tS W M E (dDrop f)) := psI (ps_expr he hs) fun D σ H h => by
  obtain ⟨io, hp, as, rl, S, P⟩ := h
  exact (stepS (rh := RV W) (f := f) rl S P).imp fun x H1 ⟨io2, hp2, a, e2, rl2, ra, P2⟩ => P2 io2 H1 σ Ext.refl rl2 (M.mono e2 S)
theorem sRet (he : PE X a (tD W M E f)) : PS X (.Return (some a) pos) (tS W M E (dRet f)) := psI (ps_ret he) fun D σ H h => by
  obtain ⟨io, hp, as, rl, S, P⟩ := h
  exact (stepS (rh := RV W) (f := f) rl S P).imp fun x H1 ⟨io2, hp2, a, e2, rl2, ra, P2⟩ => P2 io2 H1 x Ext.refl rl2 ra
theorem sSet {i : Nat} {x : Str} {pos' : Pos} (hN : X.N.Nodup) (hi : X.N[i]? = some x) (hx : Loc X.env.scope x) (he : PE X a (tD W M E f)) (ho : M.ok i) (hs : swapsWith a (some (.Name x pos')) pos.line X.env = pure false := by rfl)
    (hf : X.fn x = true ∨ X.env.scope.names.lookup x = some .local := by first | exact .inl rfl | exact .inr rfl | assumption) : PS X (.Assign [.Name x pos'] a pos) (tS W M E (dSet i f)) := psI (ps_set hN hi hx he hs hf) fun D σ H h => by
  obtain ⟨io, hp, as, rl, S, P⟩ := h
  exact (stepS (rh := RV W) (f := f) rl S P).imp fun x H1 ⟨io2, hp2, a, e2, rl2, ra, P2⟩ => P2 io2 H1 _ Ext.refl rl2 (M.set (M.mono e2 S) ra ho)
theorem sIf (hc : PT X c (tDT W M E ft)) (ha : PSs X sts (tS W M E fs)) (hb : PSs X sts' (tS W M E gs)) : PS X (.If c sts sts' pos) (tS W M E (dIfS ft fs gs)) := psI (ps_if hc ha hb) fun D σ H h => by
  obtain ⟨io, hp, as, rl, S, P⟩ := h
  refine (stepS (rh := fun _ _ b c => b = c) (f := ft) rl S P).imp fun x H1 ⟨io2, hp2, a, e2, rl2, ra, P2⟩ => ?_
  subst ra
  cases a with
  | true => exact iteT ⟨io2, hp2, as, rl2, M.mono e2 S, P2⟩
  | false => exact iteF ⟨io2, hp2, as, rl2, M.mono e2 S, P2⟩
end
end Dn
namespace L2
open PySem PySem.Spec PyProof.Rows
theorem tuple_mul1 (l : Addr) (items : Array Value) (n : Nat) (dd : Option Addr) (sl : Array (Option Value)) (u : Tok) :
    Meets (Builtin.«tuple.__mul__» ⟨[.ref l, .int 1 u], []⟩) (fun _ R s => s.heap.get? l = some { cls := .type "tuple", dict := dd, data := .seq items n, slots := sl } ∧ R (.ok (.ret (Value.ref l))) s) :=
  .of_wp fun prog w A R s h => by
    obtain ⟨hp, g, d, tk, os⟩ := s
    obtain ⟨hl, h⟩ := h
    have f1 := AutoSeq1.idx_int
    wp_walk using wpAny_loadPart' hl
    exact ⟨_, rfl, h⟩
theorem tuple_mul0 (l : Addr) (items : Array Value) (n : Nat) (dd : Option Addr) (sl : Array (Option Value)) (u : Tok) (c1 : items.isEmpty = false) :
    Meets (Builtin.«tuple.__mul__» ⟨[.ref l, .int 0 u], []⟩) (fun _ R s => s.heap.get? l = some { cls := .type "tuple", dict := dd, data := .seq items n, slots := sl } ∧
      R (.ok (.ret (Value.ref s.heap.objs.size))) { s with heap := s.heap.push { cls := Value.type "tuple", data := Data.seq #[] }, toks := s.toks }) :=
  .of_wp fun prog w A R s h => by
    obtain ⟨hp, g, d, tk, os⟩ := s
    obtain ⟨hl, h⟩ := h
    have f1 := AutoSeq1.idx_int
    wp_walk using wpAny_loadPart' hl
    exact ⟨_, rfl, h⟩
def rRepT1 (K : PySem.W.Frag) : R2 := fun x y H Q => ∃ l xs, x = .ref l ∧ y = .int 1 ∧ SqT K H l xs ∧ Q (.ref l) H
def rRepT0 (K : PySem.W.Frag) : R2 := fun x y H Q => ∃ l xs, x = .ref l ∧ y = .int 0 ∧ SqT K H l xs ∧ xs ≠ [] ∧ ∀ p, H p = none → Q (.ref p) (upd H p (.tup []))
section
variable {X : Cx}
theorem op_repT1 : OpR X (binaryOp .Mult) (rRepT1 X.K) := by
  intro pins s σ H x y v u Q I rx ry h
  obtain ⟨l, xs, rfl, rfl, hT, q⟩ := h
  cases rx
  obtain ⟨t, rfl⟩ := ry
  obtain ⟨its, r, ⟨⟨cls, dd, data, sl⟩, ho, hc, n, hd⟩, hs⟩ := I.tuple hT
  simp only at hc hd
  subst hc hd
  refine wpAny_binaryOp_repeat_ref (T := "tuple") (U := "int") (by decide) ⟨_, ho, rfl⟩ (fun s' => typeIs_int s' 1 t) noFill_tuple_mul F.fills_int_mul F.slot_int_rmul repeat_tuple F.slot_int_index.lookup
    (call_meets F.slot_int_rmul (typeIs_int s 1 t) F.entry_int_rmul (F.args_int_rmul_2 _ _) (int_rmul_tuple 1 t l its.toArray n dd sl)
      ⟨ho, rfl, ⟨_, ho, rfl⟩, call_meets F.slot_tuple_mul ⟨_, ho, rfl⟩ F.entry_tuple_mul (F.args_tuple_mul_2 _ _) (tuple_mul1 l its.toArray n dd sl t) ⟨ho, ?_⟩⟩)
  exact ⟨.ref l, H, I, rfl, q⟩
theorem op_repT0 : OpR X (binaryOp .Mult) (rRepT0 X.K) := by
  intro pins s σ H x y v u Q I rx ry h
  obtain ⟨l, xs, rfl, rfl, hT, hne, q⟩ := h
  cases rx
  obtain ⟨t, rfl⟩ := ry
  obtain ⟨its, r, ⟨⟨cls, dd, data, sl⟩, ho, hc, n, hd⟩, hs⟩ := I.tuple hT
  simp only at hc hd
  subst hc hd
  have hle : its.length = xs.length := r.length.symm
  have hi : its.toArray.isEmpty = false := by
    cases its with
    | nil => exact absurd (List.eq_nil_of_length_eq_zero hle.symm) hne
    | cons a b => rfl
  refine wpAny_binaryOp_repeat_ref (T := "tuple") (U := "int") (by decide) ⟨_, ho, rfl⟩ (fun s' => typeIs_int s' 0 t) noFill_tuple_mul F.fills_int_mul F.slot_int_rmul repeat_tuple F.slot_int_index.lookup
    (call_meets F.slot_int_rmul (typeIs_int s 0 t) F.entry_int_rmul (F.args_int_rmul_2 _ _) (int_rmul_tuple 0 t l its.toArray n dd sl)
      ⟨ho, rfl, ⟨_, ho, rfl⟩, call_meets F.slot_tuple_mul ⟨_, ho, rfl⟩ F.entry_tuple_mul (F.args_tuple_mul_2 _ _) (tuple_mul0 l its.toArray n dd sl t hi) ⟨ho, ?_⟩⟩)
  refine ⟨.ref s.heap.objs.size, _, I.laid (t' := s.toks) (o := .tup []) (fun b ob q => Heap.get?_push_of_some _ q) (Nat.le_refl _) ?_, rfl, q _ (I.hok.fresh (Nat.le_refl _))⟩
  exact ⟨by decide, [], .nil, IsTup.new _ _⟩
end
end L2
namespace Dn
open PySem PySem.Spec PyProof.Rows L2

/-- the longest list, the longest text -/
abbrev SZ : Nat := 1000000
theorem szL {n : Nat} (h : n ≤ SZ) : n ≤ sizeLine := by
  rw [sizeLine_eq]
  exact Nat.le_trans h (by decide)
theorem szT {n : Nat} (h : n < SZ) : n < sizeLine := by
  rw [sizeLine_eq]
  exact Nat.lt_of_lt_of_le h (by decide)

def mkL (xs : List AV) (h : Hep) : Op AV := if xs.length ≤ SZ then some (.ref h.length, h ++ [AO.lst xs]) else none
def mkT (xs : List AV) (h : Hep) : Op AV := if xs.length ≤ SZ then some (.tup xs, h) else none
/-- a list that may be read -/
def lstOf (h : Hep) : AV → Option (List AV)
  | .ref n => match h[n]? with
    | some (.lst xs) => some xs
    | _ => none
  | .rol xs => some xs
  | _ => none
def seqOf (h : Hep) (a : AV) : Option (List AV) := match tupOf a with
  | some xs => some xs
  | none => lstOf h a

section
variable {W : Wd} {io : List Addr} {H : Hp} {hp : Hep}
theorem Rl.atLen (R : Rl W io hp H) (p : Addr) : (io ++ [p])[hp.length]? = some p := by
  rw [List.getElem?_append_right (by rw [R.len]; exact Nat.le_refl _), R.len]
  simp
theorem mkL_in {Q : VK} {xs : List AV} {vs : List V} (P : Pop W (RV W) Q io H (mkL xs hp)) (R : Rl W io hp H) (r : RVs W io H xs vs) : vs.length ≤ sizeLine ∧ ∀ p, H p = none → Q (.ref p) (upd H p (.lst vs)) := by
  unfold mkL at P
  by_cases h : xs.length ≤ SZ
  · rw [if_pos h] at P
    refine ⟨by rw [← r.len]; exact szL h, fun p hn => ?_⟩
    have e := Ext.new (W := W) io (.lst vs) hn [p]
    exact P _ _ _ e (R.new hn (.lst (r.mono e))) (.ref (R.atLen p))
  · rw [if_neg h] at P
    exact P.elim
theorem mkT_in {Q : VK} {xs : List AV} {vs : List V} (P : Pop W (RV W) Q io H (mkT xs hp)) (R : Rl W io hp H) (r : RVs W io H xs vs) :
    vs.length ≤ sizeLine ∧ (∀ p, H p = none → Q (.ref p) (upd H p (.tup vs))) ∧ ∀ a, SqT W.K H a vs → Q (.ref a) H := by
  unfold mkT at P
  by_cases h : xs.length ≤ SZ
  · rw [if_pos h] at P
    refine ⟨by rw [← r.len]; exact szL h, fun p hn => ?_, fun a ha => ?_⟩
    · have e : Ext W io H io (upd H p (.tup vs)) := Ext.new0 hn
      exact P _ _ _ e (R.other hn) (.tup (SqT.of upd_same) (r.mono e))
    · exact P _ _ _ Ext.refl R (.tup ha r)
  · rw [if_neg h] at P
    exact P.elim
theorem roL_sq {K : PySem.W.Frag} {a : Addr} {vs : List V} (h : RoL K H a vs) : SqL K H a vs := by
  rcases h with ⟨o, h⟩ | (h | h)
  · exact .inl (.inr ⟨o, h⟩)
  · rcases h with h | ⟨o, h⟩
    · cases h
    · cases h
  · exact .inr h
theorem lstOf_in {a : AV} {v : V} {xs : List AV} (e : lstOf hp a = some xs) (R : Rl W io hp H) (r : RV W io H a v) : ∃ p vs, v = .ref p ∧ SqL W.K H p vs ∧ RVs W io H xs vs := by
  cases r with
  | ref h =>
    rename_i n p
    unfold lstOf at e
    cases z : hp[n]? with
    | none =>
      simp only [z] at e
      cases e
    | some o =>
      simp only [z] at e
      cases o with
      | lst ys =>
        cases e
        obtain ⟨vs, e1, r1⟩ := R.lst h z
        exact ⟨p, vs, rfl, SqL.of e1, r1⟩
      | _ => cases e
  | rol h q =>
    cases e
    exact ⟨_, _, rfl, roL_sq h, q⟩
  | _ => cases e
theorem tupOf_in {a : AV} {v : V} {xs : List AV} (e : tupOf a = some xs) (r : RV W io H a v) : ∃ p vs, v = .ref p ∧ SqT W.K H p vs ∧ RVs W io H xs vs := by
  cases r with
  | tup h q =>
    cases e
    exact ⟨_, _, rfl, h, q⟩
  | _ => cases e
theorem seqOf_in {a : AV} {v : V} {xs : List AV} (e : seqOf hp a = some xs) (R : Rl W io hp H) (r : RV W io H a v) : ∃ p vs, v = .ref p ∧ (SqL W.K H p vs ∨ SqT W.K H p vs) ∧ RVs W io H xs vs := by
  unfold seqOf at e
  cases z : tupOf a with
  | some ys =>
    rw [z] at e
    cases e
    obtain ⟨p, vs, a1, a2, a3⟩ := tupOf_in z r
    exact ⟨p, vs, a1, .inr a2, a3⟩
  | none =>
    rw [z] at e
    obtain ⟨p, vs, a1, a2, a3⟩ := lstOf_in e R r
    exact ⟨p, vs, a1, .inl a2, a3⟩
end

def mulOk (i j : Int) : Bool := decide (-(2 ^ 64) < i ∧ i < 2 ^ 64) || (decide (-(2 ^ 64) < j ∧ j < 2 ^ 64) || decide (i.natAbs < 2 ^ 1000 ∧ j.natAbs < 2 ^ 1000))
def addAV : D2 := fun a b h => match a, b with
  | .int i, .int j => some (.int (i + j), h)
  | .str x, .str y => if x.length + y.length ≤ SZ then some (.str (x ++ y), h) else none
  | .tup xs, .tup ys => mkT (xs ++ ys) h
  | .ref m, .ref n => (match h[m]?, h[n]? with
    | some (.lst xs), some (.lst ys) => mkL (xs ++ ys) h
    | _, _ => none)
  | _, _ => none
def subAV : D2 := fun a b h => match a, b with
  | .int i, .int j => some (.int (i - j), h)
  | _, _ => none
def mulAV : D2 := fun a b h => match a, b with
  | .int i, .int j => if mulOk i j = true then some (.int (i * j), h) else none
  | .ref m, .int k => (match h[m]? with
    | some (.lst xs) => if -(2 ^ 63) ≤ k ∧ k < 2 ^ 63 then mkL (List.replicate k.toNat xs).flatten h else none
    | _ => none)
  | .tup xs, .int k => if xs ≠ [] ∧ xs.length ≤ 1000 ∧ 0 ≤ k ∧ k ≤ 1000 then mkT (List.replicate k.toNat xs).flatten h else none
  | _, _ => none
def fdivAV : D2 := fun a b h => match a, b with
  | .int i, .int j => if 0 < j ∧ j < 1073741824 then some (.int (i / j), h) else none
  | _, _ => none
def modAV : D2 := fun a b h => match a, b with
  | .int i, .int j => if 0 < j then some (.int (i % j), h) else none
  | _, _ => none
def powAV : D2 := fun a b h => match a, b with
  | .int i, .int j => if 0 ≤ j ∧ j ≤ 100 ∧ i.natAbs < 2 ^ 1000 then some (.int (i ^ j.toNat), h) else none
  | _, _ => none
section
variable {W : Wd} {X : Cx}
theorem oAdd (hK : X.K = W.K) : OpR X (binaryOp .Add) (t2 W addAV) := op_imp (((op_add.or op_add_str).or op_cat).or op_catA) fun x y H Q ⟨io, hp, a, b, rl, ra, rb, P⟩ => by
  rw [hK]
  cases a with
  | int i =>
    cases b with
    | int j =>
      obtain rfl := ra.int_inv
      obtain rfl := rb.int_inv
      exact .inl (.inl (.inl ⟨i, j, rfl, rfl, P.ok rl (.int _)⟩))
    | _ => exact P.elim
  | str i =>
    cases b with
    | str j =>
      obtain rfl := ra.str_inv
      obtain rfl := rb.str_inv
      have P' : Pop W (RV W) Q io H (if i.length + j.length ≤ SZ then some (.str (i ++ j), hp) else none) := P
      by_cases h : i.length + j.length ≤ SZ
      · rw [if_pos h] at P'
        exact .inl (.inl (.inr ⟨i, j, rfl, rfl, szL h, P'.ok rl (.str _)⟩))
      · rw [if_neg h] at P'
        exact P'.elim
    | _ => exact P.elim
  | tup xs =>
    cases b with
    | tup ys =>
      obtain ⟨p, vs, rfl, h1, r1⟩ := tupOf_in (xs := xs) rfl ra
      obtain ⟨q, ws, rfl, h2, r2⟩ := tupOf_in (xs := ys) rfl rb
      obtain ⟨z, k1, k2⟩ := mkT_in P rl (r1.app r2)
      refine .inr ⟨p, q, vs, ws, rfl, rfl, h1, h2, by simpa using z, fun e => ?_, fun _ e => ?_, fun _ _ => k1⟩
      · subst e
        exact k2 q (by simpa using h2)
      · subst e
        exact k2 p (by simpa using h1)
    | _ => exact P.elim
  | ref m =>
    cases b with
    | ref n =>
      have P' : Pop W (RV W) Q io H (match hp[m]?, hp[n]? with
        | some (.lst xs), some (.lst ys) => mkL (xs ++ ys) hp
        | _, _ => none) := P
      cases z1 : hp[m]? with
      | none =>
        rw [z1] at P'
        exact P'.elim
      | some o1 =>
        cases o1 with
        | lst xs =>
          cases z2 : hp[n]? with
          | none =>
            rw [z1, z2] at P'
            exact P'.elim
          | some o2 =>
            cases o2 with
            | lst ys =>
              rw [z1, z2] at P'
              cases ra with
              | ref e1 =>
                cases rb with
                | ref e2 =>
                  obtain ⟨vs, a1, r1⟩ := rl.lst e1 z1
                  obtain ⟨ws, a2, r2⟩ := rl.lst e2 z2
                  obtain ⟨z, k1⟩ := mkL_in P' rl (r1.app r2)
                  exact .inl (.inr ⟨_, _, vs, ws, rfl, rfl, a1, a2, by simpa using z, k1⟩)
            | _ =>
              rw [z1, z2] at P'
              exact P'.elim
        | _ =>
          rw [z1] at P'
          exact P'.elim
    | _ => exact P.elim
  | _ => exact P.elim
theorem oSub : OpR X (binaryOp .Sub) (t2 W subAV) := op_imp op_sub fun x y H Q ⟨io, hp, a, b, rl, ra, rb, P⟩ => by
  cases a with
  | int i =>
    cases b with
    | int j =>
      obtain rfl := ra.int_inv
      obtain rfl := rb.int_inv
      exact ⟨i, j, rfl, rfl, P.ok rl (.int _)⟩
    | _ => exact P.elim
  | _ => exact P.elim
theorem mulOk_ok {i j : Int} (h : mulOk i j = true) : IntMulOk i j := by
  unfold mulOk at h
  simp only [Bool.or_eq_true, decide_eq_true_eq] at h
  rcases h with h | h | h
  · exact CMul.ok (.inl h)
  · exact CMul.ok (.inr h)
  · exact CMulW.ok (wide_mul h.1 h.2 (by decide) (by decide) (by decide))
theorem op_mulA : OpR X (binaryOp .Mult) (rI (fun i j => mulOk i j = true) fun i j => .int (i * j)) := opI fun _ _ _ _ _ _ _ hc q => mul_int q (mulOk_ok hc)
theorem oMul (hK : X.K = W.K) : OpR X (binaryOp .Mult) (t2 W mulAV) := op_imp ((op_mulA.or op_rep).or ((op_repT.or op_repT1).or op_repT0)) fun x y H Q ⟨io, hp, a, b, rl, ra, rb, P⟩ => by
  rw [hK]
  cases a with
  | int i =>
    cases b with
    | int j =>
      obtain rfl := ra.int_inv
      obtain rfl := rb.int_inv
      have P' : Pop W (RV W) Q io H (if mulOk i j = true then some (.int (i * j), hp) else none) := P
      by_cases h : mulOk i j = true
      · rw [if_pos h] at P'
        exact .inl (.inl ⟨i, j, rfl, rfl, h, P'.ok rl (.int _)⟩)
      · rw [if_neg h] at P'
        exact P'.elim
    | _ => exact P.elim
  | ref m =>
    cases b with
    | int k =>
      obtain rfl := rb.int_inv
      have P' : Pop W (RV W) Q io H (match hp[m]? with
        | some (.lst xs) => if -(2 ^ 63) ≤ k ∧ k < 2 ^ 63 then mkL (List.replicate k.toNat xs).flatten hp else none
        | _ => none) := P
      cases z1 : hp[m]? with
      | none =>
        rw [z1] at P'
        exact P'.elim
      | some o1 =>
        rw [z1] at P'
        cases o1 with
        | lst xs =>
          have P2 : Pop W (RV W) Q io H (if -(2 ^ 63) ≤ k ∧ k < 2 ^ 63 then mkL (List.replicate k.toNat xs).flatten hp else none) := P'
          by_cases h : -(2 ^ 63) ≤ k ∧ k < 2 ^ 63
          · rw [if_pos h] at P2
            cases ra with
            | ref e1 =>
              obtain ⟨vs, a1, r1⟩ := rl.lst e1 z1
              obtain ⟨z, k1⟩ := mkL_in P2 rl (r1.rep k.toNat)
              refine .inl (.inr ⟨_, k, vs, rfl, rfl, a1, h.1, h.2, ?_, k1⟩)
              simpa [Nat.mul_comm] using z
          · rw [if_neg h] at P2
            exact P2.elim
        | _ => exact P'.elim
    | _ => exact P.elim
  | tup xs =>
    cases b with
    | int k =>
      obtain rfl := rb.int_inv
      have P' : Pop W (RV W) Q io H (if xs ≠ [] ∧ xs.length ≤ 1000 ∧ 0 ≤ k ∧ k ≤ 1000 then mkT (List.replicate k.toNat xs).flatten hp else none) := P
      by_cases h : xs ≠ [] ∧ xs.length ≤ 1000 ∧ 0 ≤ k ∧ k ≤ 1000
      · rw [if_pos h] at P'
        obtain ⟨p, vs, rfl, h1, r1⟩ := tupOf_in (xs := xs) rfl ra
        obtain ⟨z, k1, k2⟩ := mkT_in P' rl (r1.rep k.toNat)
        have hl : vs.length = xs.length := r1.len.symm
        have hne : vs ≠ [] := fun e => h.1 (List.eq_nil_of_length_eq_zero (by rw [← hl, e]; rfl))
        by_cases h2 : 2 ≤ k
        · exact .inr (.inl (.inl ⟨p, k, vs, rfl, rfl, h1, hne, h2, h.2.2.2, by rw [hl]; exact h.2.1, k1⟩))
        · by_cases h3 : k = 1
          · subst h3
            exact .inr (.inl (.inr ⟨p, vs, rfl, rfl, h1, k2 p (by simpa using h1)⟩))
          · have h4 : k = 0 := by omega
            subst h4
            exact .inr (.inr ⟨p, vs, rfl, rfl, h1, hne, k1⟩)
      · rw [if_neg h] at P'
        exact P'.elim
    | _ => exact P.elim
  | _ => exact P.elim
theorem oFdiv : OpR X (binaryOp .FloorDiv) (t2 W fdivAV) := op_imp op_fdiv fun x y H Q ⟨io, hp, a, b, rl, ra, rb, P⟩ => by
  cases a with
  | int i =>
    cases b with
    | int j =>
      obtain rfl := ra.int_inv
      obtain rfl := rb.int_inv
      have P' : Pop W (RV W) Q io H (if 0 < j ∧ j < 1073741824 then some (.int (i / j), hp) else none) := P
      by_cases h : 0 < j ∧ j < 1073741824
      · rw [if_pos h] at P'
        exact ⟨i, j, rfl, rfl, h, P'.ok rl (.int _)⟩
      · rw [if_neg h] at P'
        exact P'.elim
    | _ => exact P.elim
  | _ => exact P.elim
theorem oMod : OpR X (binaryOp .Mod) (t2 W modAV) := op_imp op_mod fun x y H Q ⟨io, hp, a, b, rl, ra, rb, P⟩ => by
  cases a with
  | int i =>
    cases b with
    | int j =>
      obtain rfl := ra.int_inv
      obtain rfl := rb.int_inv
      have P' : Pop W (RV W) Q io H (if 0 < j then some (.int (i % j), hp) else none) := P
      by_cases h : 0 < j
      · rw [if_pos h] at P'
        exact ⟨i, j, rfl, rfl, h, P'.ok rl (.int _)⟩
      · rw [if_neg h] at P'
        exact P'.elim
    | _ => exact P.elim
  | _ => exact P.elim
theorem op_powA : OpR X (binaryOp .Pow) (rI (fun i j => 0 ≤ j ∧ j ≤ 100 ∧ i.natAbs < 2 ^ 1000) fun i j => .int (i ^ j.toNat)) := opI fun i j _ _ _ _ _ hc q => pow_int hc.1 (by
  have hb : Builtin.Int.intBits i ≤ 1000 := by
    unfold Builtin.Int.intBits
    split
    · omega
    · have := PySem.Flt.log2_lt_of (k := 1000) (by decide) hc.2.2
      omega
  have h2 := hc.2.1
  have h0 := hc.1
  have : (Builtin.Int.intBits i : Int) * j ≤ 1000 * 100 := Int.mul_le_mul (by omega) h2 h0 (by decide)
  exact Int.le_trans this (by decide)) q
theorem oPow : OpR X (binaryOp .Pow) (t2 W powAV) := op_imp op_powA fun x y H Q ⟨io, hp, a, b, rl, ra, rb, P⟩ => by
  cases a with
  | int i =>
    cases b with
    | int j =>
      obtain rfl := ra.int_inv
      obtain rfl := rb.int_inv
      have P' : Pop W (RV W) Q io H (if 0 ≤ j ∧ j ≤ 100 ∧ i.natAbs < 2 ^ 1000 then some (.int (i ^ j.toNat), hp) else none) := P
      by_cases h : 0 ≤ j ∧ j ≤ 100 ∧ i.natAbs < 2 ^ 1000
      · rw [if_pos h] at P'
        exact ⟨i, j, rfl, rfl, h, P'.ok rl (.int _)⟩
      · rw [if_neg h] at P'
        exact P'.elim
    | _ => exact P.elim
  | _ => exact P.elim
end

section
variable {W : Wd} {io : List Addr} {H : Hp} {hp : Hep}
theorem mapM_cons_some {A B : Type} {f : A → Option B} {x : A} {xs : List A} {ds : List B} (h : (x :: xs).mapM f = some ds) : ∃ d r, f x = some d ∧ xs.mapM f = some r ∧ ds = d :: r := by
  rw [List.mapM_cons] at h
  cases e : f x with
  | none =>
    rw [e] at h
    cases h
  | some d =>
    rw [e] at h
    cases e2 : xs.mapM f with
    | none =>
      rw [e2] at h
      cases h
    | some r =>
      rw [e2] at h
      cases h
      exact ⟨d, r, rfl, rfl, rfl⟩
theorem toD_list (n : Nat) (ih : ∀ (a : AV) (v : V) (d : PyData), toD n hp a = some d → RV W io H a v → Dp W.K H v d) : ∀ (xs : List AV) (vs : List V) (ds : List PyData), xs.mapM (toD n hp) = some ds → RVs W io H xs vs → DpAll W.K H vs ds
  | [], _, ds, h, .nil => by
    cases h
    exact .nil
  | x :: xs, _, ds, h, .cons r q => by
    obtain ⟨d, rr, h1, h2, rfl⟩ := mapM_cons_some h
    exact .cons (ih x _ d h1 r) (toD_list n ih xs _ rr h2 q)
theorem toD_in (R : Rl W io hp H) : ∀ (n : Nat) (a : AV) (v : V) (d : PyData), toD n hp a = some d → RV W io H a v → Dp W.K H v d
  | 0, _, _, _, h, _ => by cases h
  | n + 1, a, v, d, h, r => by
    have ih := toD_in R n
    cases r with
    | non =>
      cases h
      exact .non
    | bl b =>
      cases h
      exact .bl b
    | int i =>
      cases h
      exact .int i
    | str x =>
      cases h
      exact .str x
    | tup s q =>
      rename_i xs
      have h' : (xs.mapM (toD n hp)).map .tuple = some d := h
      obtain ⟨ds, h1, rfl⟩ := Option.map_eq_some_iff.mp h'
      exact .tup s (toD_list n ih _ _ ds h1 q)
    | rol s q =>
      rename_i xs
      have h' : (xs.mapM (toD n hp)).map .list = some d := h
      obtain ⟨ds, h1, rfl⟩ := Option.map_eq_some_iff.mp h'
      exact .lst (roL_sq s) (toD_list n ih _ _ ds h1 q)
    | ref e =>
      rename_i k p
      have h' : (match hp[k]? with
        | some (.lst xs) => (xs.mapM (toD n hp)).map .list
        | _ => none) = some d := h
      cases z : hp[k]? with
      | none =>
        rw [z] at h'
        cases h'
      | some o =>
        rw [z] at h'
        cases o with
        | lst xs =>
          have h2 : (xs.mapM (toD n hp)).map .list = some d := h'
          obtain ⟨ds, h1, rfl⟩ := Option.map_eq_some_iff.mp h2
          obtain ⟨vs, e1, r1⟩ := R.lst e z
          exact .lst (SqL.of e1) (toD_list n ih _ _ ds h1 r1)
        | _ => cases h'
    | adr a => cases h
    | exi _ => cases h
    | ndc _ => cases h
    | ty a => cases h
    | cls a => cases h
end
/-- the depth of data -/
abbrev DD : Nat := 50
def eqD (a b : AV) (h : Hep) : Option Bool := match toD DD h a, toD DD h b with
  | some d, some e => if SeqAt.shaped d = true ∧ SeqAt.shaped e = true then some (PyData.eqv d e) else none
  | _, _ => none
def eqAV : D2 := fun a b h => (eqD a b h).map fun c => (.bl c, h)
def neAV : D2 := fun a b h => (eqD a b h).map fun c => (.bl (!c), h)
section
variable {W : Wd} {X : Cx}
theorem eqD_in {io : List Addr} {H : Hp} {hp : Hep} {a b : AV} {x y : V} {c : Bool} (e : eqD a b hp = some c) (R : Rl W io hp H) (ra : RV W io H a x) (rb : RV W io H b y) :
    ∃ d f, Dp W.K H x d ∧ Dp W.K H y f ∧ SeqAt.shaped d = true ∧ SeqAt.shaped f = true ∧ c = PyData.eqv d f := by
  unfold eqD at e
  cases z1 : toD DD hp a with
  | none =>
    rw [z1] at e
    cases e
  | some d =>
    cases z2 : toD DD hp b with
    | none =>
      rw [z1, z2] at e
      cases e
    | some f =>
      rw [z1, z2] at e
      have e' : (if SeqAt.shaped d = true ∧ SeqAt.shaped f = true then some (PyData.eqv d f) else none) = some c := e
      by_cases h : SeqAt.shaped d = true ∧ SeqAt.shaped f = true
      · rw [if_pos h] at e'
        cases e'
        exact ⟨d, f, toD_in R DD a x d z1 ra, toD_in R DD b y f z2 rb, h.1, h.2, rfl⟩
      · rw [if_neg h] at e'
        cases e'
theorem oEq (hK : X.K = W.K) (hu : X.A.units + 64 < cLine) : OpR X (compareOp .Eq) (t2 W eqAV) := op_imp (op_eqD hu) fun x y H Q ⟨io, hp, a, b, rl, ra, rb, P⟩ => by
  rw [hK]
  unfold eqAV at P
  cases z : eqD a b hp with
  | none =>
    rw [z] at P
    exact P.elim
  | some c =>
    rw [z] at P
    obtain ⟨d, f, h1, h2, h3, h4, rfl⟩ := eqD_in z rl ra rb
    exact ⟨d, f, h1, h2, h3, h4, Pop.ok P rl (.bl _)⟩
theorem oNe (hK : X.K = W.K) (hu : X.A.units + 64 < cLine) : OpR X (compareOp .NotEq) (t2 W neAV) := op_imp (op_neD hu) fun x y H Q ⟨io, hp, a, b, rl, ra, rb, P⟩ => by
  rw [hK]
  unfold neAV at P
  cases z : eqD a b hp with
  | none =>
    rw [z] at P
    exact P.elim
  | some c =>
    rw [z] at P
    obtain ⟨d, f, h1, h2, h3, h4, rfl⟩ := eqD_in z rl ra rb
    exact ⟨d, f, h1, h2, h3, h4, Pop.ok P rl (.bl _)⟩
end
end Dn
namespace Dn
open PySem PySem.Spec PyProof.Rows L2

section
variable {k : Type} [DecidableEq k]
def dput (kvs : List (k × AV)) (q : k) (v : AV) : List (k × AV) :=
  if (kvs.any fun kv => decide (kv.1 = q)) = true then kvs.map (fun kv => if kv.1 = q then (kv.1, v) else kv) else kvs ++ [(q, v)]
def ddrop (kvs : List (k × AV)) (q : k) : List (k × AV) := kvs.filter fun kv => decide (kv.1 ≠ q)
variable {W : Wd} {io : List Addr} {H : Hp}
theorem RKs.repl : ∀ {xs : List (k × AV)} {vs : List (k × V)} (q : k) {a : AV} {v : V}, RV W io H a v → RKs W io H xs vs →
    RKs W io H (xs.map fun kv => if kv.1 = q then (kv.1, a) else kv) (vs.map fun kv => if kv.1 = q then (kv.1, v) else kv)
  | _, _, _, _, _, _, .nil => .nil
  | (q', x) :: xs, (_, w) :: vs, q, a, v, ra, .cons r t => by
    rw [List.map_cons, List.map_cons]
    by_cases e : q' = q
    · simp only [e, if_true]
      exact .cons ra (RKs.repl q ra t)
    · simp only [e, if_false]
      exact .cons r (RKs.repl q ra t)
theorem RKs.app : ∀ {xs ys : List (k × AV)} {vs ws : List (k × V)}, RKs W io H xs vs → RKs W io H ys ws → RKs W io H (xs ++ ys) (vs ++ ws)
  | _, _, _, _, .nil, q => q
  | _, _, _, _, .cons r t, q => .cons r (RKs.app t q)
theorem RKs.put {xs : List (k × AV)} {vs : List (k × V)} (q : k) {a : AV} {v : V} (ra : RV W io H a v) (r : RKs W io H xs vs) : RKs W io H (dput xs q a) (putK vs q v) := by
  unfold dput putK
  rw [r.any q]
  by_cases e : (vs.any fun kv => decide (kv.1 = q)) = true
  · rw [if_pos e, if_pos e]
    exact r.repl q ra
  · rw [if_neg e, if_neg e]
    exact r.app (.cons ra .nil)
theorem RKs.drop : ∀ {xs : List (k × AV)} {vs : List (k × V)} (q : k), RKs W io H xs vs → RKs W io H (ddrop xs q) (dropK vs q)
  | _, _, _, .nil => .nil
  | (q', x) :: xs, (_, w) :: vs, q, .cons r t => by
    have ih := RKs.drop q t
    unfold ddrop dropK at ih ⊢
    by_cases e : q' = q
    · simp only [List.filter_cons, e, ne_eq, not_true_eq_false, decide_false]
      exact ih
    · simp only [List.filter_cons, ne_eq, e, not_false_eq_true, decide_true, if_true]
      exact .cons r ih
end
def keyOf : AV → Option Key
  | .int i => some (.inl i)
  | .str x => some (.inr x)
  | _ => none
section
variable {W : Wd} {io : List Addr} {H : Hp}
theorem keyOf_in {a : AV} {v : V} {q : Key} (e : keyOf a = some q) (r : RV W io H a v) : v = kV q := by
  cases r with
  | int i =>
    cases e
    rfl
  | str x =>
    cases e
    rfl
  | _ => cases e
theorem rv_key (q : Key) : RV W io H (ofKey q) (kV q) := by
  cases q with
  | inl i => exact .int i
  | inr x => exact .str x
end

def cmpAV (fi : Int → Int → Bool) (fs : List Nat → List Nat → Bool) : D2 := fun a b h => match a, b with
  | .int i, .int j => some (.bl (fi i j), h)
  | .str x, .str y => some (.bl (fs x.cps.toList y.cps.toList), h)
  | _, _ => none
abbrev ltAV : D2 := cmpAV (fun i j => decide (i < j)) (fun x y => decide (x < y))
abbrev leAV : D2 := cmpAV (fun i j => decide (i ≤ j)) (fun x y => !decide (y < x))
abbrev gtAV : D2 := cmpAV (fun i j => decide (j < i)) (fun x y => decide (y < x))
abbrev geAV : D2 := cmpAV (fun i j => decide (j ≤ i)) (fun x y => !decide (x < y))
def isNonB : AV → Bool
  | .non => true
  | _ => false
def notNonAV : D2 := fun a b h => match b with
  | .non => some (.bl (!isNonB a), h)
  | _ => none
section
variable {W : Wd} {X : Cx}
theorem cmp_in {op : CmpOp} {fi : Int → Int → Bool} {fs : List Nat → List Nat → Bool} (h1 : OpR X (compareOp op) (rI0 fun i j => .bl (fi i j))) (h2 : OpR X (compareOp op) (fun x y H Q => ∃ i j, x = .str i ∧ y = .str j ∧ Q (.bl (fs i.cps.toList j.cps.toList)) H)) :
    OpR X (compareOp op) (t2 W (cmpAV fi fs)) := op_imp (h1.or h2) fun x y H Q ⟨io, hp, a, b, rl, ra, rb, P⟩ => by
  cases a with
  | int i =>
    cases b with
    | int j =>
      obtain rfl := ra.int_inv
      obtain rfl := rb.int_inv
      exact .inl ⟨i, j, rfl, rfl, P.ok rl (.bl _)⟩
    | _ => exact P.elim
  | str i =>
    cases b with
    | str j =>
      obtain rfl := ra.str_inv
      obtain rfl := rb.str_inv
      exact .inr ⟨i, j, rfl, rfl, P.ok rl (.bl _)⟩
    | _ => exact P.elim
  | _ => exact P.elim
theorem oLt : OpR X (compareOp .Lt) (t2 W ltAV) := cmp_in op_lt op_lt_str
theorem oLe : OpR X (compareOp .LtE) (t2 W leAV) := cmp_in op_le op_le_str
theorem oGt : OpR X (compareOp .Gt) (t2 W gtAV) := cmp_in op_gt op_gt_str
theorem oGe : OpR X (compareOp .GtE) (t2 W geAV) := cmp_in op_ge op_ge_str
theorem non_dec {io : List Addr} {H : Hp} {a : AV} {v : V} (r : RV W io H a v) : isNonB a = decide (v = .non) := by
  cases r <;> rfl
theorem oIsNot : OpR X (compareOp .IsNot) (t2 W notNonAV) := op_imp op_notN fun x y H Q ⟨io, hp, a, b, rl, ra, rb, P⟩ => by
  cases b with
  | non =>
    obtain rfl := rb.non_inv
    refine ⟨rfl, ?_⟩
    rw [← non_dec ra]
    exact Pop.ok P rl (.bl _)
  | _ => exact P.elim
end

def flatA : AV → Bool
  | .non => true
  | .bl _ => true
  | .int _ => true
  | .str _ => true
  | _ => false
def toV0 : AV → V
  | .bl b => .bl b
  | .int i => .int i
  | .str x => .str x
  | _ => .non
def inStr (x y : Str) : Bool := !(Builtin.Str.occurrences y x 0 y.length 1).isEmpty
/-- is a in b -/
def inB (a b : AV) (h : Hep) : Option Bool := match b with
  | .str y => (match a with
    | .str x => some (inStr x y)
    | _ => none)
  | .tup xs => if flatA a = true ∧ xs.all flatA = true then some (inV (toV0 a) (xs.map toV0)) else none
  | .ref n => (match h[n]? with
    | some (.lst xs) => (match toD DD h a, xs.mapM (toD DD h) with
      | some d, some ds => if SeqAt.shaped d = true ∧ SeqAt.shaped (.list ds) = true then some (ds.any fun z => PyData.eqv z d) else none
      | _, _ => none)
    | some (.dK kvs) => (keyOf a).map fun q => (dget kvs q).isSome
    | some (.frz (.dK kvs)) => (keyOf a).map fun q => (dget kvs q).isSome
    | _ => none)
  | _ => none
def inAV : D2 := fun a b h => (inB a b h).map fun c => (.bl c, h)
def notInAV : D2 := fun a b h => (inB a b h).map fun c => (.bl (!c), h)
section
variable {W : Wd} {X : Cx}
theorem flat_in {io : List Addr} {H : Hp} {a : AV} {v : V} (r : RV W io H a v) (f : flatA a = true) : v = toV0 a ∧ flatV v = true := by
  cases r with
  | non => exact ⟨rfl, rfl⟩
  | bl b => exact ⟨rfl, rfl⟩
  | int b => exact ⟨rfl, rfl⟩
  | str b => exact ⟨rfl, rfl⟩
  | _ => cases f
theorem flats_in {io : List Addr} {H : Hp} : ∀ {xs : List AV} {vs : List V}, RVs W io H xs vs → xs.all flatA = true → vs = xs.map toV0 ∧ vs.all flatV = true
  | _, _, .nil, _ => ⟨rfl, rfl⟩
  | _, _, .cons r t, f => by
    rw [List.all_cons, Bool.and_eq_true] at f
    obtain ⟨e1, e2⟩ := flat_in r f.1
    obtain ⟨e3, e4⟩ := flats_in t f.2
    refine ⟨by rw [List.map_cons, ← e1, ← e3], ?_⟩
    rw [List.all_cons, e2, e4]
    rfl
/-- what a dict gives, by values -/
def rDIn (neg : Bool) : R2 := fun y x H Q => ∃ a o, x = .ref a ∧ DGet H a y o ∧ Q (.bl (if neg then !o.isSome else o.isSome)) H
theorem op_dIn (hu : X.A.units + 1 < cLine) : OpR X (compareOp .In) (rDIn false) := fun pins s σ H x y v u Q I rx ry ⟨a, o, ey, g, q⟩ => by
  subst ey
  obtain rfl : u = Value.ref a := ry
  exact d_in hu I g rx fun s3 I3 => ⟨.bl o.isSome, H, I3, rfl, q⟩
theorem op_dNotIn (hu : X.A.units + 1 < cLine) : OpR X (compareOp .NotIn) (rDIn true) := fun pins s σ H x y v u Q I rx ry ⟨a, o, ey, g, q⟩ => by
  subst ey
  obtain rfl : u = Value.ref a := ry
  exact d_notIn hu I g rx fun s3 I3 => ⟨.bl (!o.isSome), H, I3, rfl, q⟩
/-- the four ways of «in» -/
def rIn4 (K : PySem.W.Frag) (neg : Bool) : R2 := fun x y H Q =>
  ((∃ i j, x = .str i ∧ y = .str j ∧ Q (.bl (if neg then !(inStr i j) else inStr i j)) H) ∨ rIn K neg x y H Q) ∨
  ((∃ d ds, Dp K H x d ∧ Dp K H y (.list ds) ∧ SeqAt.shaped d = true ∧ SeqAt.shaped (.list ds) = true ∧ Q (.bl (if neg then !(ds.any fun z => PyData.eqv z d) else ds.any fun z => PyData.eqv z d)) H) ∨ rDIn neg x y H Q)
theorem op_in4 (hu : X.A.units + 65 < cLine) : OpR X (compareOp .In) (rIn4 X.K false) :=
  OpR.or (OpR.or op_in_str op_in_seq) (OpR.or (op_inD hu) (op_dIn (by omega)))
theorem op_notIn4 (hu : X.A.units + 65 < cLine) : OpR X (compareOp .NotIn) (rIn4 X.K true) :=
  OpR.or (OpR.or op_notin_str op_notIn_seq) (OpR.or (op_notInD hu) (op_dNotIn (by omega)))
theorem dget_in {io : List Addr} {H : Hp} {p : Addr} {kvs : List (Key × AV)} {vs : List (Key × V)} {a : AV} {x : V} {q : Key} (hr : Rd H p (.dK vs)) (r : RKs W io H kvs vs) (e : keyOf a = some q) (ra : RV W io H a x) :
    ∃ o, DGet H p x o ∧ RVo W io H (dget kvs q) o := ⟨_, .inl ⟨vs, q, hr, keyOf_in e ra, rfl⟩, r.get q⟩
theorem RVo.some_eq {io : List Addr} {H : Hp} {o : Option AV} {o' : Option V} (r : RVo W io H o o') : o.isSome = o'.isSome := by
  cases o <;> cases o' <;> first | rfl | exact r.elim
theorem inB_in {io : List Addr} {H : Hp} {hp : Hep} {neg : Bool} {a b : AV} {x y : V} {c : Bool} {Q : VK} (e : inB a b hp = some c) (R : Rl W io hp H) (ra : RV W io H a x) (rb : RV W io H b y)
    (q : Q (.bl (if neg then !c else c)) H) : rIn4 W.K neg x y H Q := by
  cases b with
  | str j =>
    cases a with
    | str i =>
      cases e
      obtain rfl := ra.str_inv
      obtain rfl := rb.str_inv
      exact .inl (.inl ⟨i, j, rfl, rfl, q⟩)
    | _ => cases e
  | tup xs =>
    have e' : (if flatA a = true ∧ xs.all flatA = true then some (inV (toV0 a) (xs.map toV0)) else none) = some c := e
    by_cases h : flatA a = true ∧ xs.all flatA = true
    · rw [if_pos h] at e'
      cases e'
      obtain ⟨p, vs, rfl, h1, r1⟩ := tupOf_in (xs := xs) rfl rb
      obtain ⟨e1, e2⟩ := flat_in ra h.1
      obtain ⟨e3, e4⟩ := flats_in r1 h.2
      rw [← e1, ← e3] at q
      exact .inl (.inr ⟨p, vs, rfl, .inr h1, e2, e4, q⟩)
    · rw [if_neg h] at e'
      cases e'
  | ref n =>
    cases rb with
    | ref hi =>
      rename_i p
      have e0 : (match hp[n]? with
        | some (.lst xs) => (match toD DD hp a, xs.mapM (toD DD hp) with
          | some d, some ds => if SeqAt.shaped d = true ∧ SeqAt.shaped (.list ds) = true then some (ds.any fun z => PyData.eqv z d) else none
          | _, _ => none)
        | some (.dK kvs) => (keyOf a).map fun q => (dget kvs q).isSome
        | some (.frz (.dK kvs)) => (keyOf a).map fun q => (dget kvs q).isSome
        | _ => none) = some c := e
      cases z : hp[n]? with
      | none =>
        rw [z] at e0
        cases e0
      | some o =>
        rw [z] at e0
        cases o with
        | lst xs =>
          have e1 : (match toD DD hp a, xs.mapM (toD DD hp) with
            | some d, some ds => if SeqAt.shaped d = true ∧ SeqAt.shaped (.list ds) = true then some (ds.any fun z => PyData.eqv z d) else none
            | _, _ => none) = some c := e0
          cases z1 : toD DD hp a with
          | none =>
            rw [z1] at e1
            cases e1
          | some d =>
            cases z2 : xs.mapM (toD DD hp) with
            | none =>
              rw [z1, z2] at e1
              cases e1
            | some ds =>
              rw [z1, z2] at e1
              have e2 : (if SeqAt.shaped d = true ∧ SeqAt.shaped (.list ds) = true then some (ds.any fun z => PyData.eqv z d) else none) = some c := e1
              by_cases h : SeqAt.shaped d = true ∧ SeqAt.shaped (.list ds) = true
              · rw [if_pos h] at e2
                cases e2
                obtain ⟨vs, e3, r3⟩ := R.lst hi z
                exact .inr (.inl ⟨d, ds, toD_in R DD a x d z1 ra, .lst (SqL.of e3) (toD_list DD (toD_in R DD) xs vs ds z2 r3), h.1, h.2, q⟩)
              · rw [if_neg h] at e2
                cases e2
        | dK kvs =>
          obtain ⟨w, e1, rfl⟩ := Option.map_eq_some_iff.mp (show (keyOf a).map (fun q => (dget kvs q).isSome) = some c from e0)
          obtain ⟨vs, e3, r3⟩ := R.dK hi z
          obtain ⟨o, g, ro⟩ := dget_in (.inl e3) r3 e1 ra
          rw [ro.some_eq] at q
          exact .inr (.inr ⟨p, o, rfl, g, q⟩)
        | frz o2 =>
          cases o2 with
          | dK kvs =>
            obtain ⟨w, e1, rfl⟩ := Option.map_eq_some_iff.mp (show (keyOf a).map (fun q => (dget kvs q).isSome) = some c from e0)
            obtain ⟨u, e3, r3⟩ := R.at hi z
            cases r3 with
            | frz r4 =>
              cases r4 with
              | dK r5 =>
                obtain ⟨o, g, ro⟩ := dget_in (.inr ⟨_, e3⟩) r5 e1 ra
                rw [ro.some_eq] at q
                exact .inr (.inr ⟨p, o, rfl, g, q⟩)
          | _ => cases e0
        | ins t fs => cases e0
        | dT kvs => cases e0
  | _ => cases e
theorem oIn (hK : X.K = W.K) (hu : X.A.units + 65 < cLine) : OpR X (compareOp .In) (t2 W inAV) := op_imp (op_in4 hu) fun x y H Q ⟨io, hp, a, b, rl, ra, rb, P⟩ => by
  rw [hK]
  unfold inAV at P
  cases z : inB a b hp with
  | none =>
    rw [z] at P
    exact P.elim
  | some c =>
    rw [z] at P
    exact inB_in (neg := false) z rl ra rb (Pop.ok P rl (.bl _))
theorem oNotIn (hK : X.K = W.K) (hu : X.A.units + 65 < cLine) : OpR X (compareOp .NotIn) (t2 W notInAV) := op_imp (op_notIn4 hu) fun x y H Q ⟨io, hp, a, b, rl, ra, rb, P⟩ => by
  rw [hK]
  unfold notInAV at P
  cases z : inB a b hp with
  | none =>
    rw [z] at P
    exact P.elim
  | some c =>
    rw [z] at P
    exact inB_in (neg := true) z rl ra rb (Pop.ok P rl (.bl _))
end

def cutA (xs : List AV) (lo hi : Option Int) : List AV := (xs.drop (HT.sIx xs.length 0 lo)).take (HT.sIx xs.length xs.length hi - HT.sIx xs.length 0 lo)
def idxAV : D2 := fun a b h => match seqOf h a with
  | some xs => (match b with
    | .int i => (atI xs i).map fun v => (v, h)
    | _ => none)
  | none => (match a with
    | .str z => (match b with
      | .int i => if z.length ≤ SZ then (atI z.cps.toList i).map fun c => (.str ⟨#[c]⟩, h) else none
      | _ => none)
    | .ref n => (match h[n]? with
      | some (.dK kvs) => (keyOf b).bind fun q => (dget kvs q).map fun v => (v, h)
      | some (.frz (.dK kvs)) => (keyOf b).bind fun q => (dget kvs q).map fun v => (v, h)
      | _ => none)
    | _ => none)
def sliceAV (a : AV) (lo hi : Option Int) (h : Hep) : Op AV := match tupOf a with
  | some xs => mkT (cutA xs lo hi) h
  | none => (match lstOf h a with
    | some xs => mkL (cutA xs lo hi) h
    | none => (match a with
      | .str z => if z.length ≤ SZ then some (.str (cutS z lo hi), h) else none
      | _ => none))
section
variable {W : Wd} {X : Cx}
theorem ix_imp {r r' : R2} (h : IxR X r) (i : ∀ x y H Q, r' x y H Q → r x y H Q) : IxR X r' := fun value slice pins s σ H x y v u Q I r1 r2 q => h value slice pins s σ H x y v u Q I r1 r2 (i x y H Q q)
def rIxDk : R2 := fun x y H Q => ∃ a v, x = .ref a ∧ DGet H a y (some v) ∧ Q v H
theorem ix_dict (hu : X.A.units + 1 < cLine) : IxR X rIxDk := by
  intro value slice pins s σ H x y v u Q I rx ry h hs
  obtain ⟨a, w, rfl, g, q⟩ := h
  obtain rfl : v = Value.ref a := rx
  exact tail_any (dict_typeIs I g) PySem.F.slot_dict_getitem.lookup (d_getItem hu I g ry fun w' s3 I3 rw' => ⟨w, H, I3, rw', q⟩) hs
theorem RVs.atI {io : List Addr} {H : Hp} {xs : List AV} {vs : List V} {i : Int} {x : AV} (r : RVs W io H xs vs) (e : L2.atI xs i = some x) : ∃ v, L2.atI vs i = some v ∧ RV W io H x v := by
  unfold L2.atI at e ⊢
  rw [← r.len]
  cases z : ixN xs.length i with
  | none =>
    rw [z] at e
    cases e
  | some j =>
    rw [z] at e
    exact r.get e
theorem xIdx (hK : X.K = W.K) (hu : X.A.units + 1 < cLine) : IxR X (t2 W idxAV) := ix_imp (IxR.or ix_seq (ix_dict hu)) fun x y H Q ⟨io, hp, a, b, rl, ra, rb, P⟩ => by
  rw [hK]
  unfold idxAV at P
  cases z : seqOf hp a with
  | some xs =>
    rw [z] at P
    obtain ⟨p, vs, rfl, h1, r1⟩ := seqOf_in z rl ra
    cases b with
    | int i =>
      obtain rfl := rb.int_inv
      have P' : Pop W (RV W) Q io H ((L2.atI xs i).map fun v => (v, hp)) := P
      cases z2 : L2.atI xs i with
      | none =>
        rw [z2] at P'
        exact P'.elim
      | some v =>
        rw [z2] at P'
        obtain ⟨w, e2, r2⟩ := r1.atI z2
        have q : Q w H := Pop.ok P' rl r2
        rcases h1 with h1 | h1
        · exact .inl (.inl ⟨p, vs, i, w, rfl, rfl, h1, e2, q⟩)
        · exact .inl (.inr (.inl ⟨p, vs, i, w, rfl, rfl, h1, e2, q⟩))
    | _ => exact P.elim
  | none =>
    rw [z] at P
    cases a with
    | str t =>
      obtain rfl := ra.str_inv
      cases b with
      | int i =>
        obtain rfl := rb.int_inv
        have P' : Pop W (RV W) Q io H (if t.length ≤ SZ then (L2.atI t.cps.toList i).map (fun c => (AV.str ⟨#[c]⟩, hp)) else none) := P
        by_cases h : t.length ≤ SZ
        · rw [if_pos h] at P'
          cases z2 : L2.atI t.cps.toList i with
          | none =>
            rw [z2] at P'
            exact P'.elim
          | some c =>
            rw [z2] at P'
            exact .inl (.inr (.inr ⟨t, i, c, rfl, rfl, szL h, z2, Pop.ok P' rl (.str _)⟩))
        · rw [if_neg h] at P'
          exact P'.elim
      | _ => exact P.elim
    | ref n =>
      cases ra with
      | @ref _ p hi =>
        have P0 : Pop W (RV W) Q io H (match hp[n]? with
          | some (.dK kvs) => (keyOf b).bind fun q => (dget kvs q).map fun v => (v, hp)
          | some (.frz (.dK kvs)) => (keyOf b).bind fun q => (dget kvs q).map fun v => (v, hp)
          | _ => none) := P
        have fin : ∀ {kvs : List (Key × AV)} {vs : List (Key × V)}, Rd H p (.dK vs) → RKs W io H kvs vs → Pop W (RV W) Q io H ((keyOf b).bind fun q => (dget kvs q).map fun v => (v, hp)) → rIxDk (.ref p) y H Q := by
          intro kvs vs hr r P1
          cases z2 : keyOf b with
          | none =>
            rw [z2] at P1
            exact P1.elim
          | some q =>
            rw [z2] at P1
            obtain ⟨o, g, ro⟩ := dget_in hr r z2 rb
            have P2 : Pop W (RV W) Q io H ((dget kvs q).map fun v => (v, hp)) := P1
            cases z3 : dget kvs q with
            | none =>
              rw [z3] at P2
              exact P2.elim
            | some v =>
              rw [z3] at P2 ro
              cases o with
              | none => exact ro.elim
              | some w => exact ⟨p, w, rfl, g, Pop.ok P2 rl ro⟩
        cases z1 : hp[n]? with
        | none =>
          rw [z1] at P0
          exact P0.elim
        | some o =>
          rw [z1] at P0
          cases o with
          | dK kvs =>
            obtain ⟨vs, e3, r3⟩ := rl.dK hi z1
            exact .inr (fin (.inl e3) r3 P0)
          | frz o2 =>
            cases o2 with
            | dK kvs =>
              obtain ⟨u, e3, r3⟩ := rl.at hi z1
              cases r3 with
              | frz r4 =>
                cases r4 with
                | dK r5 => exact .inr (fin (.inr ⟨_, e3⟩) r5 P0)
            | _ => exact P0.elim
          | _ => exact P0.elim
    | _ => exact P.elim
theorem ixD {a b : Expr} {f g : DE} {r : D2} {M : Md W} {E : WX} {pos : Pos} (hr : IxR X (t2 W r)) (ha : PE X a (tD W M E f)) (hb : PE X b (tD W M E g)) (hs : PlainIx b) : PE X (.Subscript a b pos) (tD W M E (dOp r f g)) := peI (pe_ix hr ha hb hs) fun _ _ _ h => op_in h

abbrev DO := Sl → Hep → R (Option Int)
def dNoP : DO := fun _ h => .ok none h
def dPrt (f : DE) : DO := fun s h => (f s h).bind fun a h1 => match a with
  | .int i => .ok (some i) h1
  | _ => .stuck
def dSlc (f : DE) (l u : DO) : DE := fun s h => (f s h).bind fun a h1 => (l s h1).bind fun lo h2 => (u s h2).bind fun hi h3 => R.of (sliceAV a lo hi h3)
abbrev rlO : Rel (Option Int) (Option Int) := fun _ _ a b => a = b
theorem poI {e : Option Expr} {t t' : TO} (h : PO X e t) (i : ∀ σ H Q, t' σ H Q → t σ H Q) : PO X e t' := ⟨fun pins s σ H Q I q => h.run pins s σ H Q I (i σ H Q q)⟩
section
variable {M : Md W} {E : WX} {e : Expr} {lo hi : Option Expr} {f : DE} {l u : DO} {pos p2 : Pos}
theorem noP : PO X none (tG W M rlO E dNoP) := poI po_none fun σ H Q ⟨io, hp, as, rl, S, P⟩ => P.ok rl rfl
theorem prtD (h : PE X e (tD W M E f)) : PO X (some e) (tG W M rlO E (dPrt f)) := poI (po_some h) fun σ H Q ⟨io, hp, as, rl, S, P⟩ =>
  (step (rh := RV W) (f := f) rl S P).imp fun x H1 ⟨io2, hp2, a, e2, rl2, ra, P2⟩ => by
    cases a with
    | int i =>
      obtain rfl := ra.int_inv
      exact ⟨i, rfl, P2.ok rl2 rfl⟩
    | _ => exact P2.elim
theorem RVs.cut {io : List Addr} {H : Hp} {xs : List AV} {vs : List V} (r : RVs W io H xs vs) (lo hi : Option Int) : RVs W io H (cutA xs lo hi) (cutV vs lo hi) := by
  unfold cutA cutV
  rw [r.len]
  exact (r.drop _).take _
theorem cut_whole {vs : List V} {lo hi : Option Int} (h : HT.sIx vs.length 0 lo = 0 ∧ HT.sIx vs.length vs.length hi = vs.length) : cutV vs lo hi = vs := by
  unfold cutV
  rw [h.1, h.2]
  simp
def rSl3 (K : PySem.W.Frag) : V → Option Int → Option Int → Hp → VK → Prop := fun x lo hi H Q => (rSlA K x lo hi H Q ∨ rSlL K x lo hi H Q) ∨ rSlS x lo hi H Q
theorem sl3 : SlR X (rSl3 X.K) := SlR.or (SlR.or sl_tupA sl_list) sl_str
theorem slcD (hK : X.K = W.K) (he : PE X e (tD W M E f)) (hl : PO X lo (tG W M rlO E l)) (hu : PO X hi (tG W M rlO E u)) : PE X (.Subscript e (.Slice lo hi none p2) pos) (tD W M E (dSlc f l u)) :=
  peI (pe_slice sl3 he hl hu) fun σ H Q ⟨io, hp, as, rl, S, P⟩ =>
    (step (rh := RV W) (f := f) rl S P).imp fun x H1 ⟨io1, hp1, a, e1, rl1, ra, P1⟩ =>
      (step (rh := rlO) (f := l) rl1 (M.mono e1 S) P1).imp fun o H2 ⟨io2, hp2, o2, e2, rl2, ro, P2⟩ =>
        (step (rh := rlO) (f := u) rl2 (M.mono e2 (M.mono e1 S)) P2).imp fun o' H3 ⟨io3, hp3, o3, e3, rl3, ro', P3⟩ => by
          subst ro ro'
          rw [hK]
          have ra := (ra.mono e2).mono e3
          have P4 := P3.of
          unfold sliceAV at P4
          cases z : tupOf a with
          | some xs =>
            rw [z] at P4
            obtain ⟨p, vs, rfl, h1, r1⟩ := tupOf_in z ra
            obtain ⟨_, k1, k2⟩ := mkT_in P4 rl3 (r1.cut o2 o3)
            exact .inl (.inl ⟨p, vs, rfl, h1, fun hw => k2 p (by rw [cut_whole hw]; exact h1), fun _ => k1⟩)
          | none =>
            rw [z] at P4
            cases z2 : lstOf hp3 a with
            | some xs =>
              rw [z2] at P4
              obtain ⟨p, vs, rfl, h1, r1⟩ := lstOf_in z2 rl3 ra
              obtain ⟨_, k1⟩ := mkL_in P4 rl3 (r1.cut o2 o3)
              exact .inl (.inr ⟨p, vs, rfl, h1, k1⟩)
            | none =>
              rw [z2] at P4
              cases a with
              | str t =>
                obtain rfl := ra.str_inv
                have P5 : Pop W (RV W) Q io3 H3 (if t.length ≤ SZ then some (AV.str (cutS t o2 o3), hp3) else none) := P4
                by_cases h : t.length ≤ SZ
                · rw [if_pos h] at P5
                  exact .inr ⟨t, rfl, szL h, Pop.ok P5 rl3 (.str _)⟩
                · rw [if_neg h] at P5
                  exact P5.elim
              | _ => exact P4.elim
end
end

def dLst (f : DA) : DE := fun s h => (f s h).bind fun xs h1 => R.of (mkL xs h1)
def dTup (f : DA) : DE := fun s h => (f s h).bind fun xs h1 => R.of (mkT xs h1)
section
variable {W : Wd} {X : Cx} {M : Md W} {E : WX} {es : List Expr} {f : DA} {pos : Pos}
theorem lstD (h : PA X es (tDA W M E f)) : PE X (.List es pos) (tD W M E (dLst f)) := peI (pe_lst h) fun σ H Q ⟨io, hp, as, rl, S, P⟩ =>
  (step (rh := RVs W) (f := f) rl S P).imp fun x H1 ⟨io2, hp2, a, e2, rl2, ra, P2⟩ => mkL_in P2.of rl2 ra
theorem tupD {k : Nat} (h : PA X es (tDA W M E f)) : PE X (.Tuple es k pos) (tD W M E (dTup f)) := peI (pe_tup h) fun σ H Q ⟨io, hp, as, rl, S, P⟩ =>
  (step (rh := RVs W) (f := f) rl S P).imp fun x H1 ⟨io2, hp2, a, e2, rl2, ra, P2⟩ => by
    obtain ⟨k1, k2, _⟩ := mkT_in P2.of rl2 ra
    exact ⟨k1, k2⟩
end
end Dn
namespace Dn
open PySem PySem.Spec PyProof.Rows L2

abbrev DI := Sl → Hep → R Src
/-- the iterator J gives what the source gives, in every later heap -/
def RSrc (W : Wd) : Rel Src It := fun io H src J => ∀ io' H' hp, Ext W io H io' H' → Rl W io' hp H' →
  (∀ i, src.next i hp = some none → J.stop i H') ∧
  ∀ i x, src.next i hp = some (some x) → J.go i H' ∧ ∀ v H2, J.yld i H' v H2 → Ext W io' H' io' H2 ∧ Rl W io' hp H2 ∧ RV W io' H2 x v

/-- a target -/
abbrev DG := AV → Sl → Option Sl
abbrev DGs := List AV → Sl → Option Sl
def dgN (i : Nat) : DG := fun v s => some (s.set i (some v))
def dgT (g : DGs) : DG := fun v s => match tupOf v with
  | some xs => g xs s
  | none => none
def dg0 : DGs := fun xs s => match xs with
  | [] => some s
  | _ => none
def dgC (g : DG) (r : DGs) : DGs := fun xs s => match xs with
  | x :: t => (g x s).bind fun s1 => r t s1
  | [] => none
/-- C: what is kept of the slots -/
abbrev CS := L2.St → L2.St → Prop
def tgG (W : Wd) (M : Md W) (C : CS) (g : DG) : TG := fun v σ H Q => ∃ io hp as x, Rl W io hp H ∧ M.rel io H as σ ∧ RV W io H x v ∧ match g x as with
  | some as' => ∀ σ', M.rel io H as' σ' → C σ σ' → Q σ' H
  | none => False
def tgGs (W : Wd) (M : Md W) (C : CS) (g : DGs) : TGs := fun vs σ H Q => ∃ io hp as xs, Rl W io hp H ∧ M.rel io H as σ ∧ RVs W io H xs vs ∧ match g xs as with
  | some as' => ∀ σ', M.rel io H as' σ' → C σ σ' → Q σ' H
  | none => False
def anyC : CS := fun _ _ => True
def wipC (vs : List Nat) : CS := fun σ σ' => wipe σ' vs = wipe σ vs
structure CSok (C : CS) : Prop where
  rf : ∀ σ, C σ σ
  tr : ∀ a b c, C a b → C b c → C a c
theorem anyC_ok : CSok anyC := ⟨fun _ => trivial, fun _ _ _ _ _ => trivial⟩
theorem wipC_ok (vs : List Nat) : CSok (wipC vs) := ⟨fun _ => rfl, fun _ _ _ h k => Eq.trans k h⟩
theorem wipe_set {i : Nat} {x : Option V} : ∀ {vs : List Nat} (σ : L2.St), i ∈ vs → wipe (σ.set i x) vs = wipe σ vs
  | v :: vs, σ, h => by
    unfold wipe
    by_cases e : i ∈ vs
    · rw [wipe_set σ e]
    · have ev : i = v := by
        rcases List.mem_cons.mp h with h | h
        · exact h
        · exact absurd h e
      subst ev
      apply List.ext_getElem?
      intro j
      by_cases hj : i = j
      · subst hj
        by_cases hl : i < σ.length
        · rw [List.getElem?_set_self (by rw [wipe_length]; simpa using hl), List.getElem?_set_self (by rw [wipe_length]; exact hl)]
        · rw [List.getElem?_eq_none (by simp [wipe_length]; omega), List.getElem?_eq_none (by simp [wipe_length]; omega)]
      · rw [List.getElem?_set_ne hj, List.getElem?_set_ne hj]
        by_cases hm : j ∈ vs
        · have h1 : ∀ (τ : L2.St), τ.length = σ.length → (wipe τ vs)[j]? = if j < σ.length then some none else none := fun τ hl => by
            have := wipe_at (vs := vs) τ hm
            rw [this, hl]
          rw [h1 _ (by simp), h1 _ rfl]
        · rw [wipe_out hm, wipe_out hm, List.getElem?_set_ne hj]
where
  wipe_at {j : Nat} : ∀ {vs : List Nat} (τ : L2.St), j ∈ vs → (wipe τ vs)[j]? = if j < τ.length then some none else none
    | v :: vs, τ, h => by
      unfold wipe
      by_cases e : v = j
      · subst e
        by_cases hl : v < τ.length
        · rw [List.getElem?_set_self (by rw [wipe_length]; exact hl), if_pos hl]
        · rw [List.getElem?_eq_none (by simp [wipe_length]; omega), if_neg hl]
      · rw [List.getElem?_set_ne e]
        rcases List.mem_cons.mp h with h | h
        · exact absurd h.symm e
        · exact wipe_at τ h
theorem wipe_wipe (σ : L2.St) (vs : List Nat) : wipe (wipe σ vs) vs = wipe σ vs := by
  have go : ∀ ws : List Nat, (∀ w ∈ ws, w ∈ vs) → wipe (wipe σ ws) vs = wipe σ vs := by
    intro ws
    induction ws with
    | nil => intro _; rfl
    | cons w ws ih =>
      intro h
      show wipe ((wipe σ ws).set w none) vs = _
      rw [wipe_set _ (h w List.mem_cons_self)]
      exact ih fun v hv => h v (List.mem_cons_of_mem _ hv)
  exact go vs fun _ h => h

section
variable {W : Wd} {M : Md W} {X : Cx} {pos : Pos} {C : CS}
theorem pgI {e : Expr} {t t' : TG} (h : PG X e t) (i : ∀ v σ H Q, t' v σ H Q → t v σ H Q) : PG X e t' := ⟨fun pins s σ H v u Q I r q => h.run pins s σ H v u Q I r (i v σ H Q q)⟩
theorem pgsI {e : List Expr} {t t' : TGs} (h : PGs X e t) (i : ∀ v σ H Q, t' v σ H Q → t v σ H Q) : PGs X e t' := ⟨fun pins s σ H v u Q I r q => h.run pins s σ H v u Q I r (i v σ H Q q)⟩
theorem gN {i : Nat} {x : Str} (hN : X.N.Nodup) (hi : X.N[i]? = some x) (hx : Loc X.env.scope x) (ho : M.ok i) (hC : ∀ σ v, C σ (σ.set i (some v))) (hf : X.fn x = true ∨ X.env.scope.names.lookup x = some .local := by first | exact .inl rfl | exact .inr rfl | assumption) : PG X (.Name x pos) (tgG W M C (dgN i)) :=
  pgI (pg_name hN hi hx hf) fun v σ H Q ⟨io, hp, as, y, rl, S, r, k⟩ => k _ (M.set S r ho) (hC _ _)
theorem gs0 (hC : CSok C) : PGs X [] (tgGs W M C dg0) := pgsI pgs_nil fun v σ H Q ⟨io, hp, as, xs, rl, S, r, k⟩ => by
  cases xs with
  | nil =>
    cases r
    exact ⟨rfl, k σ S (hC.rf σ)⟩
  | cons x t => exact k.elim
theorem gsC {e : Expr} {es : List Expr} {g : DG} {gs : DGs} (hC : CSok C) (h1 : PG X e (tgG W M C g)) (h2 : PGs X es (tgGs W M C gs)) (hs : (assignEach (e :: es) X.env).map (·.2) = assign e X.env :: (assignEach es X.env).map (·.2) := by rfl) : PGs X (e :: es) (tgGs W M C (dgC g gs)) :=
  pgsI (pgs_cons h1 h2 hs) fun v σ H Q ⟨io, hp, as, xs, rl, S, r, k⟩ => by
    cases xs with
    | nil => exact k.elim
    | cons x t =>
      cases r with
      | cons r1 r2 =>
        refine ⟨_, _, rfl, io, hp, as, x, rl, S, r1, ?_⟩
        have k' : match (g x as).bind (fun s1 => gs t s1) with
          | some as' => ∀ σ', M.rel io H as' σ' → C σ σ' → Q σ' H
          | none => False := k
        cases z : g x as with
        | none =>
          rw [z] at k'
          exact k'
        | some as' =>
          rw [z] at k'
          have k2 : match gs t as' with
            | some as' => ∀ σ', M.rel io H as' σ' → C σ σ' → Q σ' H
            | none => False := k'
          intro σ' S' c1
          refine ⟨io, hp, as', t, rl, S', r2, ?_⟩
          cases z2 : gs t as' with
          | none =>
            rw [z2] at k2
            exact k2
          | some as3 =>
            rw [z2] at k2
            exact fun σ3 S3 c3 => k2 σ3 S3 (hC.tr _ _ _ c1 c3)
theorem gT {es : List Expr} {kk : Nat} {gs : DGs} {n : Nat} (hK : X.K = W.K) (hc : X.calm = true) (h : PGs X es (tgGs W M C gs)) (hl : ∀ xs s, gs xs s ≠ none → xs.length = n) (hn : (assignEach es X.env).length = n := by rfl) (hst : (assignEach es X.env).findIdx? (·.1) = none := by rfl) :
    PG X (.Tuple es kk pos) (tgG W M C (dgT gs)) := pgI (pg_tup hc h hn hst) fun v σ H Q ⟨io, hp, as, y, rl, S, r, k⟩ => by
  unfold dgT at k
  cases z : tupOf y with
  | none =>
    rw [z] at k
    exact k.elim
  | some xs =>
    rw [z] at k
    obtain ⟨p, vs, rfl, h1, r1⟩ := tupOf_in z r
    rw [hK]
    refine ⟨p, vs, rfl, h1, ?_, io, hp, as, xs, rl, S, r1, k⟩
    rw [← r1.len]
    refine hl xs as fun q => ?_
    simp only [q] at k
theorem dg0_len : ∀ xs s, dg0 xs s ≠ none → xs.length = 0 := fun xs s h => by
  cases xs with
  | nil => rfl
  | cons x t => exact absurd rfl h
theorem dgC_len {g : DG} {gs : DGs} {n : Nat} (h : ∀ xs s, gs xs s ≠ none → xs.length = n) : ∀ xs s, dgC g gs xs s ≠ none → xs.length = n + 1 := fun xs s k => by
  cases xs with
  | nil => exact absurd rfl k
  | cons x t =>
    have k' : (g x s).bind (fun s1 => gs t s1) ≠ none := k
    cases z : g x s with
    | none =>
      rw [z] at k'
      exact absurd rfl k'
    | some s1 =>
      rw [z] at k'
      have := h t s1 k'
      simp [this]
end

def SR.loop (r : SR) (k : Sl → Hep → SR) : SR := match r with
  | .nx s h => k s h
  | .ct s h => k s h
  | .bk s h => .nx s h
  | r => r
def dLoop (src : Src) (g : DG) (body : DS) : Nat → Nat → Sl → Hep → SR
  | 0, _, _, _ => .stuck
  | k + 1, i, s, h => match src.next i h with
    | none => .stuck
    | some none => .nx s h
    | some (some x) => match g x s with
      | none => .stuck
      | some s1 => (body s1 h).loop fun s2 h2 => dLoop src g body k (i + 1) s2 h2
def dFor (f : DI) (g : DG) (body : DS) : DS := fun s h => (f s h).st s fun src h1 => dLoop src g body (src.len h1 + 1) 0 s h1
section
variable {W : Wd} {M : Md W} {E : WX} {X : Cx} {tg iter : Expr} {body : List Stmt} {f : DI} {g : DG} {fb : DS} {pos : Pos}
theorem sFor (hp : PassesOwn (model X.prog X.w) X.A X.env X.xe) (hc : X.calm = true) (hi : PI X tg iter (tG W M (RSrc W) E f)) (hg : PG X tg (tgG W M anyC g)) (hb : PSs X body (tS W M E fb))
    (hs : ∀ x, foldedSetIterable iter X.env x = pure x := by intro _; rfl) : PS X (.For tg iter body [] pos) (tS W M E (dFor f g fb)) :=
  psI (ps_for hp hc hi hg hb hs) fun D σ H ⟨io, hp, as, rl, S, P⟩ => by
    refine (stepS (rh := RSrc W) (f := f) rl S P).imp fun J H1 ⟨io1, hp1, src, e1, rl1, rs, P1⟩ => ?_
    refine ⟨fun i m σ2 H2 => ∃ io2 hp2 as2, Ext W io1 H1 io2 H2 ∧ Rl W io2 hp2 H2 ∧ M.rel io2 H2 as2 σ2 ∧ Pss W M E D io2 H2 (dLoop src g fb m i as2 hp2), ⟨_, io1, hp1, as, Ext.refl, rl1, M.mono e1 S, P1⟩, ?_⟩
    rintro i m σ2 H2 ⟨io2, hp2, as2, e2, rl2, S2, P2⟩
    obtain ⟨hstop, hgo⟩ := rs io2 H2 hp2 e2 rl2
    cases m with
    | zero => exact P2.elim
    | succ m =>
      unfold dLoop at P2
      cases z : src.next i hp2 with
      | none =>
        rw [z] at P2
        exact P2.elim
      | some o =>
        cases o with
        | none =>
          rw [z] at P2
          exact .inl ⟨hstop i z, P2 io2 H2 σ2 Ext.refl rl2 S2⟩
        | some x =>
          rw [z] at P2
          obtain ⟨go, hy⟩ := hgo i x z
          refine .inr ⟨go, fun σ3 H3 => ∃ io3 hp3 as3, Ext W io1 H1 io3 H3 ∧ Rl W io3 hp3 H3 ∧ M.rel io3 H3 as3 σ3 ∧ Pss W M E D io3 H3 (dLoop src g fb m (i + 1) as3 hp3), fun σ' H' q => ⟨m, Nat.lt_succ_self m, q⟩, fun v H3 hyl => ?_⟩
          obtain ⟨e3, rl3, r3⟩ := hy v H3 hyl
          refine ⟨io2, hp2, as2, x, rl3, M.mono e3 S2, r3, ?_⟩
          have P3 := Pss.later P2 e3
          cases z2 : g x as2 with
          | none =>
            simp only [z2] at P3
            exact P3
          | some as3 =>
            simp only [z2] at P3
            intro σ' S' _
            refine ⟨io2, hp2, as3, rl3, S', ?_⟩
            cases z3 : fb as3 hp2 with
            | nx s h =>
              rw [z3] at P3
              exact fun io' H' σ2 e r S2 => ⟨io', h, s, (e2.trans e3).trans e, r, S2, Pss.later P3 e⟩
            | ct s h =>
              rw [z3] at P3
              exact fun io' H' σ2 e r S2 => ⟨io', h, s, (e2.trans e3).trans e, r, S2, Pss.later P3 e⟩
            | bk s h =>
              rw [z3] at P3
              exact P3
            | rt v h =>
              rw [z3] at P3
              exact P3
            | exc t fs s h =>
              rw [z3] at P3
              exact P3
            | stuck =>
              rw [z3] at P3
              exact P3
end

section
variable {W : Wd} {M : Md W} {E : WX} {X : Cx} {c : Expr} {body : List Stmt} {ft : DT} {fb : DS} {pos : Pos}
end

def R.noX {T : Type} : R T → R T
  | .exc _ _ _ => .stuck
  | r => r
def wipeS (s : Sl) : List Nat → Sl
  | [] => s
  | v :: vs => (wipeS s vs).set v none
/-- one more item in the list at D -/
def addAt (D : Nat) (y : AV) (h : Hep) : Option Hep := match h[D]? with
  | some (.lst acc) => if acc.length < SZ then some (h.set D (.lst (acc ++ [y]))) else none
  | _ => none
def dLcL (src : Src) (g : DG) (tt : DT) (te : DE) (D : Nat) (s0 : Sl) : Nat → Nat → Hep → R AV
  | 0, _, _ => .stuck
  | k + 1, i, h => match src.next i h with
    | none => .stuck
    | some none => .ok (.ref D) h
    | some (some x) => match g x s0 with
      | none => .stuck
      | some s1 => (tt s1 h).noX.bind fun b h1 => match b with
        | false => dLcL src g tt te D s0 k (i + 1) h1
        | true => (te s1 h1).noX.bind fun y h2 => match addAt D y h2 with
          | none => .stuck
          | some h3 => dLcL src g tt te D s0 k (i + 1) h3
def dLc (f : DI) (g : DG) (tt : DT) (te : DE) (vs : List Nat) : DE := fun s h => (f s h).bind fun src h1 => dLcL src g tt te h1.length (wipeS s vs) (src.len h1 + 1) 0 (h1 ++ [AO.lst []])
def dYes : DT := fun _ h => .ok true h
section
variable {W : Wd} {M : Md W} {E : WX} {X : Cx} {pos : Pos}
theorem wipe_rel {io : List Addr} {H : Hp} {as : Sl} {σ : L2.St} (S : M.rel io H as σ) : ∀ {vs : List Nat}, (∀ v ∈ vs, M.ok v) → M.rel io H (wipeS as vs) (wipe σ vs)
  | [], _ => S
  | v :: vs, h => M.wipe (wipe_rel S fun w hw => h w (List.mem_cons_of_mem _ hw)) (h v List.mem_cons_self)
theorem step0 {T U T' U' : Type} {rh : Rel T U} {rh' : Rel T' U'} {σ σ0 : L2.St} {H : Hp} {io : List Addr} {hp : Hep} {as : Sl} {f : Sl → Hep → R T} {k : T → Hep → R T'} {Q : U' → Hp → Prop} (rl : Rl W io hp H) (S : M.rel io H as σ)
    (P : Pst W rh' E σ0 Q io H ((f as hp).noX.bind k)) : tG W M rh E0x f σ H (fun x H1 => ∃ io1 hp1 a, Ext W io H io1 H1 ∧ Rl W io1 hp1 H1 ∧ rh io1 H1 a x ∧ Pst W rh' E σ0 Q io1 H1 (k a hp1)) := by
  refine ⟨io, hp, as, rl, S, ?_⟩
  cases e : f as hp with
  | ok a hp1 =>
    rw [e] at P
    exact fun io' H' x e' r' q => ⟨io', hp1, a, e', r', q, Pst.later P e'⟩
  | exc t fs hp1 =>
    rw [e] at P
    exact P.elim
  | stuck =>
    rw [e] at P
    exact P
theorem lc_in {f : DI} {g : DG} {tt : DT} {te : DE} {vs : List Nat} {σ : L2.St} {H : Hp} {Q : VK} (ok : ∀ v ∈ vs, M.ok v)
    (h : tD W M E (dLc f g tt te vs) σ H Q) : tLc (tG W M (RSrc W) E f) (tgG W M (wipC vs) g) (tDT W M E0x tt) (tD W M E0x te) vs σ H Q := by
  obtain ⟨io, hp, as, rl, S, P⟩ := h
  refine (step (rh := RSrc W) (f := f) rl S P).imp fun J H1 ⟨io1, hp1, src, e1, rl1, rs, P1⟩ => ?_
  intro D hD
  have eD := Ext.new (W := W) io1 (.lst []) hD [D]
  have rlD : Rl W (io1 ++ [D]) (hp1 ++ [AO.lst []]) (upd H1 D (.lst [])) := rl1.new hD (.lst .nil)
  have wS : M.rel io1 H1 (wipeS as vs) (wipe σ vs) := wipe_rel (M.mono e1 S) ok
  have atD := rl1.atLen D
  refine ⟨fun i m H2 => ∃ io2 hp2, Ext W (io1 ++ [D]) (upd H1 D (.lst [])) io2 H2 ∧ Rl W io2 hp2 H2 ∧ Pst W (RV W) E σ Q io2 H2 (dLcL src g tt te hp1.length (wipeS as vs) m i hp2), ⟨_, _, _, Ext.refl, rlD, Pst.later P1 eD⟩, ?_⟩
  rintro i m H2 ⟨io2, hp2, e2, rl2, P2⟩
  have e12 := eD.trans e2
  obtain ⟨hstop, hgo⟩ := rs io2 H2 hp2 e12 rl2
  cases m with
  | zero => exact P2.elim
  | succ m =>
    unfold dLcL at P2
    cases z : src.next i hp2 with
    | none =>
      rw [z] at P2
      exact P2.elim
    | some o =>
      cases o with
      | none =>
        rw [z] at P2
        exact .inl ⟨hstop i z, P2.ok rl2 (.ref (e2.at atD))⟩
      | some x =>
        rw [z] at P2
        obtain ⟨go, hy⟩ := hgo i x z
        refine .inr ⟨go, fun H3 => ∃ io3 hp3, Ext W (io1 ++ [D]) (upd H1 D (.lst [])) io3 H3 ∧ Rl W io3 hp3 H3 ∧ Pst W (RV W) E σ Q io3 H3 (dLcL src g tt te hp1.length (wipeS as vs) m (i + 1) hp3), fun H' q => ⟨m, Nat.lt_succ_self m, q⟩, fun v H3 hyl => ?_⟩
        obtain ⟨e3, rl3, r3⟩ := hy v H3 hyl
        refine ⟨io2, hp2, wipeS as vs, x, rl3, M.mono e3 (M.mono e12 wS), r3, ?_⟩
        have P3 := Pst.later P2 e3
        cases z2 : g x (wipeS as vs) with
        | none =>
          simp only [z2] at P3
          exact P3
        | some as3 =>
          simp only [z2] at P3
          intro σ' S' hw
          refine ⟨Eq.trans hw (wipe_wipe σ vs), ?_⟩
          have S2' : M.rel io2 H3 as3 σ' := S'
          refine (step0 (rh := fun _ _ b c => b = c) (f := tt) (σ := σ') rl3 S2' P3).imp fun b H4 q4 => ?_
          · obtain ⟨io4, hp4, b', e4, rl4, rb, P4⟩ := q4
            subst rb
            cases b' with
            | false => exact iteF ⟨io4, hp4, (e2.trans e3).trans e4, rl4, P4⟩
            | true =>
              refine iteT ((step0 (rh := RV W) (f := te) (σ := σ') rl4 (M.mono e4 S2') P4).imp fun y H5 ⟨io5, hp5, a, e5, rl5, ra, P5⟩ => ?_)
              unfold addAt at P5
              have atD5 : io5[hp1.length]? = some D := e5.at (e4.at (e3.at (e2.at atD)))
              cases z5 : hp5[hp1.length]? with
              | none =>
                simp only [z5] at P5
                exact P5.elim
              | some o5 =>
                cases o5 with
                | lst acc =>
                  simp only [z5] at P5
                  by_cases hl : acc.length < SZ
                  · simp only [if_pos hl] at P5
                    obtain ⟨avs, ea, rac⟩ := rl5.lst atD5 z5
                    refine ⟨avs, ea, by rw [← rac.len]; exact szT hl, ?_⟩
                    have es : Ext W io5 H5 io5 (upd H5 D (.lst (avs ++ [y]))) := Ext.set _ ea trivial
                    exact ⟨io5, _, (((e2.trans e3).trans e4).trans e5).trans es, rl5.set atD5 ea trivial (.lst ((rac.app (.cons ra .nil)).mono es)), Pst.later P5 es⟩
                  · simp only [if_neg hl] at P5
                    exact P5.elim
                | _ =>
                  simp only [z5] at P5
                  exact P5.elim
theorem lcD {elt tg iter : Expr} {ifs : List Expr} {scope : Scope} {own : List (Str × Nat)} {f : DI} {g : DG} {tt : DT} {te : DE} (hc : X.calm = true) (hN : X.N.Nodup) (hi : PI X tg iter (tG W M (RSrc W) E f)) (ok : BlkOk X.N X.env.scope scope own)
    (hg : ∀ (s : Shared) (H : Hp) (C : Addr) (cl : List (Str × Addr)) (fp : List Addr), PG (X.blk s H scope (compEnvC scope cl C X.env) fp) tg (tgG W M (wipC (own.map (·.2))) g))
    (ht : ∀ (s : Shared) (H : Hp) (C : Addr) (cl : List (Str × Addr)) (fp : List Addr), PTs (X.blk s H scope (compEnvC scope cl C X.env) fp) ifs (tDT W M E0x tt))
    (he : ∀ (s : Shared) (H : Hp) (C : Addr) (cl : List (Str × Addr)) (fp : List Addr), PE (X.blk s H scope (compEnvC scope cl C X.env) fp) elt (tD W M E0x te)) (ho : ∀ v ∈ own.map (·.2), M.ok v) (hs : ∀ x, foldedSetIterable iter X.env x = pure x := by intro _; rfl) :
    PE X (.ListComp elt [⟨tg, iter, ifs, 0⟩] scope pos) (tD W M E (dLc f g tt te (own.map (·.2)))) := peI (pe_lc hc hN hi ok hg ht he hs) fun _ _ _ h => lc_in ho h
theorem yesD : PTs X [] (tDT W M E0x dYes) := ⟨fun pins s σ H Q I ⟨io, hp, as, rl, S, P⟩ => pts_nil.run pins s σ H Q I (P.ok rl rfl)⟩
end

def dSrc (f : DE) : DI := fun s h => (f s h).bind fun a h1 => match a with
  | .ref n => (match h1[n]? with
    | some (.lst _) => .ok (.at n) h1
    | _ => .stuck)
  | .tup xs => .ok (.fix xs) h1
  | .rol xs => .ok (.fix xs) h1
  | .str x => .ok (.fix (x.cps.toList.map fun c => .str ⟨#[c]⟩)) h1
  | _ => .stuck
def rngL (lo : Int) (n : Nat) : List AV := (List.range n).map fun i => .int (lo + (i : Nat))
def dRg1 (f : DA) : DI := fun s h => (f s h).bind fun as h1 => match as with
  | [.int j] => if -(2 ^ 62) ≤ j ∧ j < 2 ^ 62 then .ok (.fix (rngL 0 j.toNat)) h1 else .stuck
  | _ => .stuck
section
variable {W : Wd} {M : Md W} {E : WX} {X : Cx} {tg : Expr}
theorem piI {e : Expr} {t t' : TI} (h : PI X tg e t) (i : ∀ σ H Q, t' σ H Q → t σ H Q) : PI X tg e t' := ⟨fun pins s σ H R I q => h.run pins s σ H R I (i σ H R q)⟩
theorem src_list {io : List Addr} {H : Hp} {n : Nat} {p : Addr} (hi : io[n]? = some p) : RSrc W io H (.at n) (Itl W.K p) := fun io' H' hp e rl => by
  have hp' := e.at hi
  refine ⟨fun i z => ?_, fun i x z => ?_⟩
  all_goals
    unfold Src.next at z
    dsimp only at z
    cases z1 : hp[n]? with
    | none =>
      rw [z1] at z
      cases z
    | some o =>
      rw [z1] at z
      cases o with
      | lst xs =>
        have z' := Option.some.inj z
        obtain ⟨vs, ev, rv⟩ := rl.lst hp' z1
        first
          | exact ⟨vs, SqL.of ev, by rw [← rv.len]; exact List.getElem?_eq_none_iff.mp z'⟩
          | (obtain ⟨v, e1, r1⟩ := rv.get z'
             refine ⟨⟨vs, v, SqL.of ev, e1⟩, fun w H2 ⟨eH, hw⟩ => ?_⟩
             subst eH
             have := hw vs (SqL.of ev)
             rw [e1] at this
             cases this
             exact ⟨Ext.refl, rl, r1⟩)
      | _ => cases z
theorem src_fixed {io : List Addr} {H : Hp} {xs : List AV} {vs : List V} {J : It} (r : RVs W io H xs vs) (h1 : ∀ i H', (∃ l, Ext W io H l H') → vs.length ≤ i → J.stop i H') (h2 : ∀ i v H', (∃ l, Ext W io H l H') → vs[i]? = some v → J.go i H' ∧ ∀ w H2, J.yld i H' w H2 → H2 = H' ∧ w = v) : RSrc W io H (.fix xs) J := fun io' H' hp e rl => by
  refine ⟨fun i z => ?_, fun i x z => ?_⟩
  · have z' : xs[i]? = none := Option.some.inj z
    exact h1 i H' ⟨_, e⟩ (by rw [← r.len]; exact List.getElem?_eq_none_iff.mp z')
  · have z' : xs[i]? = some x := Option.some.inj z
    obtain ⟨v, e1, r1⟩ := r.get z'
    obtain ⟨g, k⟩ := h2 i v H' ⟨_, e⟩ e1
    refine ⟨g, fun w H2 y => ?_⟩
    obtain ⟨rfl, rfl⟩ := k w H2 y
    exact ⟨Ext.refl, rl, r1.mono e⟩
theorem src_range {io : List Addr} {H : Hp} {lo : Int} {n : Nat} : RSrc W io H (.fix (rngL lo n)) (Itr lo n) := by
  have hv : RVs W io H (rngL lo n) ((List.range n).map fun i => V.int (lo + (i : Nat))) := by
    unfold rngL
    generalize List.range n = l
    induction l with
    | nil => exact .nil
    | cons a r ih => exact .cons (.int _) ih
  refine src_fixed hv (fun i H' _ h => ?_) fun i v H' _ h => ?_
  · rw [List.length_map, List.length_range] at h
    exact h
  · rw [List.getElem?_map] at h
    by_cases hi : i < n
    · rw [List.getElem?_range hi] at h
      cases h
      exact ⟨hi, fun w H2 ⟨a, b⟩ => ⟨a, b⟩⟩
    · rw [List.getElem?_eq_none (by simpa using hi)] at h
      cases h
/-- a list, a tuple, a text: what pyIter does with the value -/
theorem iter_val {pins : List (Addr × Obj)} {σ : L2.St} {H : Hp} {s : Shared} {R : It → Hp → Prop} {x : V} {v : Value} (I : Inv X pins σ H s) (r : RelV x v)
    (h : (∃ a, x = .ref a ∧ (∃ xs, SqL X.K H a xs) ∧ R (Itl X.K a) H) ∨ (∃ a, x = .ref a ∧ (∃ xs, SqT X.K H a xs) ∧ R (Itt X.K a) H) ∨ (∃ z, x = .str z ∧ R (Its z) H)) :
    wpAny (model X.prog X.w) X.A (pyIter v) (PIE X pins σ tg R) X.xe s := by
  have newFp : ∀ b ∈ [s.heap.objs.size], FpOk X pins H b := fun b hb => by
    rw [List.mem_singleton] at hb
    subst hb
    exact I.fpOk (Nat.le_refl _) (I.hok.fresh (Nat.le_refl _))
  rcases h with ⟨a, ex, ⟨xs, hq⟩, q⟩ | ⟨a, ex, ⟨xs, hq⟩, q⟩ | ⟨z, ex, q⟩
  · subst ex
    obtain rfl : v = Value.ref a := r
    obtain ⟨its, _, pl, _⟩ := I.list hq
    exact wpAny_pyIter_list pl.isList ⟨_, _, _, _, H, rfl, I.kept (t' := s.toks) fun b o e => Heap.get?_push_of_some _ e, turn_list a _, ⟨_, Heap.get?_push_size _ rfl, rfl, rfl⟩, newFp, q⟩
  · subst ex
    obtain rfl : v = Value.ref a := r
    obtain ⟨its, _, pt, _⟩ := I.tuple hq
    exact wpAny_pyIter_tuple (items := its.toArray) pt ⟨_, _, _, _, H, rfl, I.kept (t' := s.toks) fun b o e => Heap.get?_push_of_some _ e, turn_tuple a _, ⟨_, Heap.get?_push_size _ rfl, rfl, rfl⟩, newFp, q⟩
  · subst ex
    obtain ⟨t, rfl⟩ := r
    cases hz : z.cps.all (· < 128) with
    | true => exact wpAny_pyIter_ascii hz (pi_one (tk := s.toks) I _ (turn_str _ z t "str_ascii_iterator" (.inl rfl)) ⟨_, Heap.get?_push_size _ rfl, rfl, rfl⟩ q)
    | false => exact wpAny_pyIter_wide hz (pi_one (tk := s.toks) I _ (turn_str _ z t "str_iterator" (.inr rfl)) ⟨_, Heap.get?_push_size _ rfl, rfl, rfl⟩ q)
theorem chars_rv {io : List Addr} {H : Hp} (l : List Nat) : RVs W io H (l.map fun c => .str ⟨#[c]⟩) (l.map fun c => .str ⟨#[c]⟩) := by
  induction l with
  | nil => exact .nil
  | cons a r ih => exact .cons (.str _) ih
/-- for .. in e -/
theorem srcD {e : Expr} {f : DE} (hK : X.K = W.K) (he : PE X e (tD W M E f)) : PI X tg e (tG W M (RSrc W) E (dSrc f)) := by
  refine ⟨fun pins s σ H R I ⟨io, hp, as, rl, S, P⟩ => ?_⟩
  refine thn (he.run pins s σ H _ I (step (rh := RV W) (f := f) rl S P)) fun v s1 ⟨x, H1, I1, r1, io2, hp2, a, e2, rl2, ra, P2⟩ => ?_
  refine iter_val I1 r1 ?_
  rw [hK]
  cases a with
  | ref n =>
    cases ra with
    | @ref _ p hi =>
      have P3 : Pst W (RSrc W) E σ R io2 H1 (match hp2[n]? with
        | some (.lst _) => .ok (.at n) hp2
        | _ => .stuck) := P2
      cases z : hp2[n]? with
      | none =>
        rw [z] at P3
        exact P3.elim
      | some o =>
        rw [z] at P3
        cases o with
        | lst xs =>
          obtain ⟨vs, ev, _⟩ := rl2.lst hi z
          exact .inl ⟨p, rfl, ⟨vs, SqL.of ev⟩, Pst.ok P3 rl2 (src_list hi)⟩
        | _ => exact P3.elim
  | tup xs =>
    obtain ⟨p, vs, ex, h1, rtu⟩ := tupOf_in (xs := xs) rfl ra
    subst ex
    refine .inr (.inl ⟨p, rfl, ⟨vs, h1⟩, Pst.ok P2 rl2 (src_fixed rtu (fun i H' ⟨l, e⟩ h => ⟨vs, e.tup _ _ h1, h⟩) fun i w H' ⟨l, e⟩ h => ⟨⟨vs, w, e.tup _ _ h1, h⟩, fun w' H2 ⟨eH, hw⟩ => ⟨eH, ?_⟩⟩)⟩)
    have := hw vs (e.tup _ _ h1)
    rw [h] at this
    exact (Option.some.inj this).symm
  | rol xs =>
    cases ra with
    | rol hro rro =>
      refine .inl ⟨_, rfl, ⟨_, roL_sq hro⟩, Pst.ok P2 rl2 (src_fixed rro (fun i H' ⟨l, e⟩ h => ⟨_, roL_sq (e.rol _ _ hro), h⟩) fun i w H' ⟨l, e⟩ h => ⟨⟨_, w, roL_sq (e.rol _ _ hro), h⟩, fun w' H2 ⟨eH, hw⟩ => ⟨eH, ?_⟩⟩)⟩
      have := hw _ (roL_sq (e.rol _ _ hro))
      rw [h] at this
      exact (Option.some.inj this).symm
  | str z =>
    obtain rfl := ra.str_inv
    refine .inr (.inr ⟨z, rfl, Pst.ok P2 rl2 (src_fixed (chars_rv z.cps.toList) (fun i H' _ h => ?_) fun i w H' _ h => ?_)⟩)
    · rw [List.length_map, Array.length_toList] at h
      exact h
    · rw [List.getElem?_map, Array.getElem?_toList] at h
      obtain ⟨c, hc, rfl⟩ := Option.map_eq_some_iff.mp h
      obtain ⟨hl, _⟩ := Array.getElem?_eq_some_iff.mp hc
      refine ⟨hl, fun w' H2 ⟨eH, c', hc', ew⟩ => ⟨eH, ?_⟩⟩
      rw [hc] at hc'
      cases hc'
      exact ew
  | _ => exact P2.elim
theorem rg1D {a : Expr} {fa : DA} {p pos : Pos} (hg : Gl X "range") (hm : X.mg "range" = none) (ha : PA X [a] (tDA W M E fa)) (hs : starEach [a] X.env = [(false, eval a X.env)] := by rfl) : PI X tg (.Call (.Name "range" p) [a] [] pos) (tG W M (RSrc W) E (dRg1 fa)) :=
  piI (pi_range1 hg hm ha hs) fun σ H Q ⟨io, hp, as, rl, S, P⟩ => (step (rh := RVs W) (f := fa) rl S P).imp fun xs H1 ⟨io2, hp2, bs, e2, rl2, ra, P2⟩ => by
    match bs, ra, P2 with
    | [.int j], .cons (.int _) .nil, P2 =>
      have P3 : Pst W (RSrc W) E σ Q io2 H1 (if -(2 ^ 62) ≤ j ∧ j < 2 ^ 62 then .ok (.fix (rngL 0 j.toNat)) hp2 else .stuck) := P2
      by_cases h : -(2 ^ 62) ≤ j ∧ j < 2 ^ 62
      · rw [if_pos h] at P3
        exact ⟨j, rfl, h.1, h.2, Pst.ok P3 rl2 src_range⟩
      · rw [if_neg h] at P3
        exact P3.elim
end
end Dn
namespace Dn
open PySem PySem.Spec PyProof.Rows L2

/-- the slots at the entry -/
def dStart (N : Nat) (as : List AV) : Sl := as.map some ++ List.replicate (N - as.length) none
def dFun (N : Nat) (b : DS) : DF := fun as h => (b (dStart N as) h).fin
theorem start_rel {W : Wd} {io : List Addr} {H : Hp} {as : List AV} {vs : List V} {N : List Str} {n : Nat} (r : RVs W io H as vs) (hN : N.length = n) : (std W).rel io H (dStart n as) (L2.start N vs) := by
  subst hN
  refine ⟨?_, fun i v a => ?_⟩
  · unfold dStart L2.start
    simp [r.len]
  · unfold dStart at a
    have hi : i < as.length := by
      by_cases hi : i < as.length
      · exact hi
      · rw [List.getElem?_append_right (by simpa using hi), List.getElem?_replicate] at a
        split at a <;> cases a
    rw [List.getElem?_append_left (by simpa using hi), List.getElem?_map] at a
    cases e : as[i]? with
    | none =>
      rw [e] at a
      cases a
    | some y =>
      rw [e] at a
      cases a
      obtain ⟨x, e2, rx⟩ := r.get e
      refine ⟨x, ?_, rx⟩
      unfold L2.start
      rw [List.getElem?_append_left (by simpa [← r.len] using hi), List.getElem?_map, e2]
      rfl

section
variable {P : Program} {w : World} {mg : Str → Option Value} {base : Heap} {W : Wd} {x qual : Str} {params : Arguments} {body : List Stmt} {scope : Scope} {dvs : List V} {kws : List (Str × V)} {f : Addr} {fd : FuncData}
/-- the context of a def's body -/
abbrev cxD (W : Wd) (P : Program) (w : World) (mg : Str → Option Value) (base : Heap) (N : List Str) (qual : Str) (scope : Scope) (f : Addr) (cdv : Value) (A : Around) (outer : List Env) (s : Shared) (H : Hp) (E : XK) : Cx :=
  cxOf (L2.CX P w) P w W.K mg base N qual scope f cdv A outer s H E
/-- what a def's body may let out -/
abbrev wxE (E : XK) : WX := fun cls d _ H => E cls d H
/-- THE RULE: a def keeps its promise if its body is read as b -/
theorem fnD {N ps : List Str} {k n : Nat} {b : DS} (F : FunD W.K x qual params body scope dvs kws f fd) (S : FnScope N ps scope) (hn : ps.length = n)
    (hb : ∀ (cdv : Value) (A : Around) (outer : List Env) (s : Shared) (H : Hp) (E : XK), Room k (A.deeper (envOfC qual scope s.heap.objs.size f cdv)) → Takes (cxD W P w mg base N qual scope f cdv A outer s H E) (wxE E) →
      PSs (cxD W P w mg base N qual scope f cdv A outer s H E) body (tS W (std W) (wxE E) b)) : FnOk P w W.K mg base (L2.CX P w) (k + 1) f fd ps (spD W n (dFun N.length b)) := by
  refine F.ok S (fun vs H Q E h => ?_) fun cdv A outer s H vs Q E hr h => ⟨_, hb cdv A outer s H E hr (takes_of rfl rfl rfl rfl), ?_⟩
  · obtain ⟨io, hp, as, hl, _, r, _⟩ := h
    rw [← r.len, hl, hn]
  · obtain ⟨io, hp, as, hl, rl, r, P⟩ := h
    refine ⟨io, hp, dStart N.length as, rl, start_rel r rfl, ?_⟩
    unfold dFun at P
    cases e : b (dStart N.length as) hp with
    | nx s h =>
      rw [e] at P
      exact fun io' H' σ' e' rl' _ => P io' H' .non e' rl' .non
    | rt s h =>
      rw [e] at P
      exact P
    | bk s h =>
      rw [e] at P
      exact P.elim
    | ct s h =>
      rw [e] at P
      exact P.elim
    | exc t fs s h =>
      rw [e] at P
      exact fun io' H' σ' cls d e' rl' _ rx => P io' H' cls d e' rl' rx
    | stuck =>
      rw [e] at P
      exact P
end

theorem sel_vals {vs : List V} {us : List Value} (h : Vals vs us) : ∀ ix : List Nat, Vals (sel ix vs) (sel ix us)
  | [] => .nil
  | i :: ix => by
    show Vals ((i :: ix).filterMap _) ((i :: ix).filterMap _)
    rw [List.filterMap_cons, List.filterMap_cons]
    cases e : vs[i]? with
    | none =>
      have : us[i]? = none := by
        rw [List.getElem?_eq_none_iff] at e ⊢
        rw [← h.length]
        exact e
      rw [this]
      exact sel_vals h ix
    | some v =>
      obtain ⟨u, e2, r⟩ := h.get e
      rw [e2]
      exact .cons r (sel_vals h ix)
theorem sel_rel {W : Wd} {io : List Addr} {H : Hp} {as : List AV} {vs : List V} (h : RVs W io H as vs) : ∀ ix : List Nat, RVs W io H (sel ix as) (sel ix vs)
  | [] => .nil
  | i :: ix => by
    show RVs W io H ((i :: ix).filterMap _) ((i :: ix).filterMap _)
    rw [List.filterMap_cons, List.filterMap_cons]
    cases e : as[i]? with
    | none =>
      have : vs[i]? = none := by
        rw [List.getElem?_eq_none_iff] at e ⊢
        rw [← h.len]
        exact e
      rw [this]
      exact sel_rel h ix
    | some v =>
      obtain ⟨u, e2, r⟩ := h.get e
      rw [e2]
      exact .cons r (sel_rel h ix)
/-- defaults are the same in every heap -/
def RW0s (W : Wd) (as : List AV) (vs : List V) : Prop := ∀ io H, RVs W io H as vs
section
variable {W : Wd} {x qual : Str} {params : Arguments} {body : List Stmt} {scope : Scope} {dvs : List V} {kws : List (Str × V)} {f : Addr} {fd : FuncData} {ps : List Str}
/-- no default is taken, the def has none -/
theorem bnN (F : FunD W.K x qual params body scope [] kws f fd) (n : Nat) (ks : List Str) (ix : List Nat)
    (h : ∀ (kV doc pm : Value) (an : Option Addr) (cdv ct : Value) (us ws : List Value), us.length = n → ws.length = ks.length → bindArgs (PySem.W.fnOf x qual params body scope .none kV doc pm an cdv ct) ⟨us, ks.zip ws⟩ = pure (ps.zip (sel ix (us ++ ws)))) : BnD W fd ps n ks ix [] := by
  obtain ⟨oc, od, dV, kV, doc, pm, an, cdv, ct, osl, rfl, lk, hcd, hD, hK⟩ := F.ex
  rcases hD with ⟨_, rfl⟩ | ⟨e, _⟩
  · refine ⟨fun us ws => sel ix (us ++ ws), fun vs zs => sel ix (vs ++ zs), ⟨fun s us ws X l1 l2 => .of_eq (h kV doc pm an cdv ct us ws l1 l2), fun r1 r2 => sel_vals (r1.append r2) ix⟩, fun io H as bs vs zs r1 r2 => ?_⟩
    rw [List.append_nil]
    exact sel_rel (r1.app r2) ix
  · exact absurd rfl e
/-- the def has defaults: its :: us :: keywords -/
theorem bnP (F : FunD W.K x qual params body scope dvs kws f fd) (n : Nat) (ks : List Str) (ix : List Nat) (hd : dvs ≠ []) {dfl : List AV} (hf : RW0s W dfl dvs)
    (h : ∀ (T : Addr) (kV doc pm : Value) (an : Option Addr) (cdv ct : Value) (us its ws : List Value), us.length = n → its.length = dvs.length → ws.length = ks.length →
      ∃ k, bindArgs (PySem.W.fnOf x qual params body scope (.ref T) kV doc pm an cdv ct) ⟨us, ks.zip ws⟩ = seqItems? (.ref T) >>= k ∧ k (some its.toArray) = pure (ps.zip (sel ix (us ++ its ++ ws)))) : BnD W fd ps n ks ix dfl := by
  obtain ⟨oc, od, dV, kV, doc, pm, an, cdv, ct, osl, rfl, lk, hcd, hD, hK⟩ := F.ex
  rcases hD with ⟨e, _⟩ | ⟨_, T, o, its, m, rfl, lT, oT, rT⟩
  · exact absurd e hd
  · refine ⟨fun us ws => sel ix (us ++ its ++ ws), fun vs zs => sel ix (vs ++ dvs ++ zs), ⟨fun s us ws X l1 l2 => ?_, fun r1 r2 => sel_vals ((r1.append rT).append r2) ix⟩, fun io H as bs vs zs r1 r2 => sel_rel ((r1.app (hf io H)).app r2) ix⟩
    obtain ⟨k, e1, e2⟩ := h T kV doc pm an cdv ct us its ws l1 rT.length.symm l2
    refine BindsTo.of_looks fun M => ?_
    rw [e1]
    exact looks_items X lT oT (.of_pure e2)
/-- keyword-only parameters lack, no positional default -/
theorem bnK (F : FunD W.K x qual params body scope [] kws f fd) (n : Nat) (ks : List Str) (ms : List (Str × V)) (ix : List Nat) (hk : kws ≠ []) (hms : ∀ q ∈ ms, q ∈ kws) {dfl : List AV} (hf : RW0s W dfl (ms.map (·.2)))
    (h : ∀ (D : Addr) (doc pm : Value) (an : Option Addr) (cdv ct : Value) (us mv ws : List Value), us.length = n → mv.length = ms.length → ws.length = ks.length →
      KwChain D ((ms.map (·.1)).zip mv) (bindArgs (PySem.W.fnOf x qual params body scope .none (.ref D) doc pm an cdv ct) ⟨us, ks.zip ws⟩) (ps.zip (sel ix (us ++ mv ++ ws)))) : BnD W fd ps n ks ix dfl := by
  obtain ⟨mv, hb⟩ := FunD.kbinds0 F n ks ms (fun us mv ws => sel ix (us ++ mv ++ ws)) hk hms (fun r1 r2 r3 => sel_vals ((r1.append r2).append r3) ix) h
  exact ⟨_, _, hb, fun io H as bs vs zs r1 r2 => sel_rel ((r1.app (hf io H)).app r2) ix⟩
end

section
variable {W : Wd} {M : Md W} {E : WX} {X : Cx} {k j n m : Nat} {f : Addr} {fd : FuncData} {ps ks : List Str} {F : DF} {x : Str} {p pos apos kpos : Pos} {e o : Expr} {es : List Expr} {kws : List Keyword} {fa fk : DA} {fe : DE} {ix : List Nat} {dfl : List AV}
/-- f(a, .., k = v, ..): the positional values, then the keywords' -/
def dCall (F : DF) (n m : Nat) (ix : List Nat) (dfl : List AV) (fa fk : DA) : DE := fun s h => (fa s h).bind fun a h1 => (fk s h1).bind fun b h2 => if a.length = n ∧ b.length = m then F (sel ix (a ++ dfl ++ b)) h2 else .stuck
theorem run_gen {pins : List (Addr × Obj)} {σ : L2.St} {H : Hp} {s : Shared} {Q : VK} {us ws : List Value} {vs zs : List V} {sp : Sp} {g : List Value → List Value → List Value} {gV : List V → List V → List V}
    (hF : FnOk X.prog X.w X.K X.mg X.base (L2.CX X.prog X.w) j f fd ps sp) (hr : Room j X.A) (hb : KBn X.K fd ps n ks g gV) (tk : Takes X E)
    (I : Inv X pins σ H s) (r : Vals vs us) (rz : Vals zs ws) (l1 : vs.length = n) (l2 : zs.length = ks.length) (h : sp (gV vs zs) H Q (WE E σ)) : wpAny (model X.prog X.w) X.A (call (.ref f) us (ks.zip ws)) (EP X pins σ Q) X.xe s := by
  have r2 := hb.rel r rz
  refine wpAny_call (codeAny_mono (hF.run X.A X.stack s H ⟨us, ks.zip ws⟩ (g us ws) (gV vs zs) Q (WE E σ) hr I.env0 (hb.to s us ws I.kIn (r.length.symm.trans l1) (rz.length.symm.trans l2)) r2 h) fun r s' hq => ?_)
  cases r with
  | error e => exact passAt tk σ pins H s e s' I hq
  | ok fl =>
    cases fl with
    | ret u => exact I.after hq
    | next => exact False.elim hq
    | brk => exact False.elim hq
    | cont => exact False.elim hq
/-- behind the arguments -/
theorem call_at {σ : L2.St} {io : List Addr} {hp : Hep} {H : Hp} {Q : VK} {a b : List AV} {vs zs : List V} {gV : List V → List V → List V} (rl : Rl W io hp H) (ra : RVs W io H a vs) (rb : RVs W io H b zs)
    (hg : ∀ io H as bs vs zs, RVs W io H as vs → RVs W io H bs zs → RVs W io H (sel ix (as ++ dfl ++ bs)) (gV vs zs)) (hl : (sel ix (a ++ dfl ++ b)).length = j)
    (P : Pst W (RV W) E σ Q io H (F (sel ix (a ++ dfl ++ b)) hp)) : spD W j F (gV vs zs) H Q (WE E σ) :=
  ⟨io, hp, _, hl, rl, hg _ _ _ _ _ _ ra rb, P.fn⟩
/-- dCall, and the places are as many as the parameters -/
def dCallC (F : DF) (n m q : Nat) (ix : List Nat) (dfl : List AV) (fa fk : DA) : DE := fun s h => (fa s h).bind fun a h1 => (fk s h1).bind fun b h2 => if a.length = n ∧ b.length = m ∧ (sel ix (a ++ dfl ++ b)).length = q then F (sel ix (a ++ dfl ++ b)) h2 else .stuck
theorem args_in {σ : L2.St} {H : Hp} {Q : VK} (h : tD W M E (dCallC F n m j ix dfl fa fk) σ H Q) :
    tDA W M E fa σ H fun vs H1 => tDA W M E fk σ H1 fun zs H2 => vs.length = n ∧ zs.length = m ∧ ∀ gV : List V → List V → List V, (∀ io H as bs vs zs, RVs W io H as vs → RVs W io H bs zs → RVs W io H (sel ix (as ++ dfl ++ bs)) (gV vs zs)) → spD W j F (gV vs zs) H2 Q (WE E σ) := by
  obtain ⟨io, hp, as, rl, S, P⟩ := h
  refine (step (rh := RVs W) (f := fa) rl S P).imp fun vs H1 ⟨io2, hp2, a, e2, rl2, ra, P2⟩ => ?_
  refine (step (rh := RVs W) (f := fk) rl2 (M.mono e2 S) P2).imp fun zs H4 ⟨io5, hp5, b, e5, rl5, rb, P5⟩ => ?_
  by_cases hc : a.length = n ∧ b.length = m ∧ (sel ix (a ++ dfl ++ b)).length = j
  · rw [if_pos hc] at P5
    have ra' := ra.mono e5
    exact ⟨ra'.len.symm.trans hc.1, rb.len.symm.trans hc.2.1, fun gV hg => call_at rl5 ra' rb hg hc.2.2 P5⟩
  · rw [if_neg hc] at P5
    exact P5.elim
theorem callD (hF : FnOk X.prog X.w X.K X.mg X.base (L2.CX X.prog X.w) j f fd ps (spD W n F)) (hr : Room k X.A) (hj : j ≤ k) (hm : X.mg x = some (.ref f)) (hkp : PySem.W.keepIn X.K (.ref f) = true) (hK : X.K = W.K) (hb : BnD W fd ps m ks ix dfl) (tk : Takes X E)
    (ha : PA X (e :: es) (tDA W M E fa)) (hkw : PK X kws (tDA W M E fk)) (hg : Gl X x := by rfl) (hall : (backToKw pos (keywordEach kws X.env)).all (·.1.isSome) = true := by rfl) (hks : (backToKw pos (keywordEach kws X.env)).filterMap (·.1) = ks := by rfl)
    (hdb : (x == ("__debug__" : Str)) = false := by decide) (he : starEach (e :: es) X.env = (false, eval e X.env) :: starEach es X.env := by rfl)
    (hpl : ((backTo pos (starEach (e :: es) X.env)).any (·.1) || (backToKw pos (keywordEach kws X.env)).any (·.1.isNone)) = false := by rfl) :
    PE X (.Call (.Name x p) (e :: es) kws pos) (tD W M E (dCallC F m ks.length n ix dfl fa fk)) := by
  obtain ⟨g, gV, kb, hg2⟩ := hb
  rw [← hK] at kb
  refine ⟨fun pins s σ H Q I h => ?_⟩
  refine wpAny_Call_Name_kw (ld_glob I hg hm ?_ hdb)
  refine PySem.W.callWith_KW (h₀ := X.base) I.ok.mod.kin hkp hall (thn (ha.run pos pins s σ H _ I (args_in h)) fun us s1 ⟨vs, H1, I1, r, q⟩ => ?_) hpl he
  refine thn (hkw.run pos pins s1 σ H1 _ I1 q) fun ws s2 ⟨zs, H2, I2, rz, l1, l2, q2⟩ => ⟨I2.kIn, ?_⟩
  rw [hks]
  exact run_gen hF (hr.mono hj) kb tk I2 r rz l1 l2 (q2 gV hg2)
/-- keywords' values -/
theorem kNil : PK X [] (tDA W M E dNil) := ⟨fun pos pins s σ H Q I h => pk_nil.run pos pins s σ H Q I (nil_in h)⟩
theorem kCons {nm : Option Str} {f : DE} (ha : PE X e (tD W M E f)) (hr : PK X kws (tDA W M E fa)) : PK X (⟨nm, e, kpos⟩ :: kws) (tDA W M E (dCons f fa)) := ⟨fun pos pins s σ H Q I h => (pk_cons ha hr).run pos pins s σ H Q I (cons_in h)⟩

def dMake (t : Nat) (F : DF) (n m q : Nat) (ix : List Nat) (dfl : List AV) (fa fk : DA) : DE := fun s h => (fa s h).bind fun a h1 => (fk s h1).bind fun b h2 =>
  if a.length = n ∧ b.length = m ∧ (sel ix (.ref h2.length :: a ++ dfl ++ b)).length = q then
    (F (sel ix (.ref h2.length :: a ++ dfl ++ b)) (h2 ++ [AO.ins t []])).bind fun v h3 => match v with
      | .non => .ok (.ref h2.length) h3
      | _ => .stuck
  else .stuck
theorem mkargs_in {t : Nat} {C : Addr} (hk : W.ct.kit t = true) (hC : W.cl t = C) {σ : L2.St} {H : Hp} {Q : VK} (h : tD W M E (dMake t F n m j ix dfl fa fk) σ H Q) :
    tDA W M E fa σ H fun vs H1 => tDA W M E fk σ H1 fun zs H2 => vs.length = n ∧ zs.length = m ∧ ∀ gV : List V → List V → List V, (∀ io H as bs vs zs, RVs W io H as vs → RVs W io H bs zs → RVs W io H (sel ix (as ++ dfl ++ bs)) (gV vs zs)) →
      ∀ x dx, H2 x = none → H2 dx = none → dx ≠ x → spD W j F (gV (.ref x :: vs) zs) (upd (upd H2 dx (.own x)) x (.ins C dx [])) (fun v H3 => v = .non ∧ Q (.ref x) H3) (WE E σ) := by
  subst hC
  obtain ⟨io, hp, as, rl, S, P⟩ := h
  refine (step (rh := RVs W) (f := fa) rl S P).imp fun vs H1 ⟨io2, hp2, a, e2, rl2, ra, P2⟩ => ?_
  refine (step (rh := RVs W) (f := fk) rl2 (M.mono e2 S) P2).imp fun zs H4 ⟨io5, hp5, b, e5, rl5, rb, P5⟩ => ?_
  by_cases hc : a.length = n ∧ b.length = m ∧ (sel ix (.ref hp5.length :: a ++ dfl ++ b)).length = j
  · rw [if_pos hc] at P5
    have ra' := ra.mono e5
    refine ⟨ra'.len.symm.trans hc.1, rb.len.symm.trans hc.2.1, fun gV hg x dx hx hdx hne => ?_⟩
    have rlA : Rl W io5 hp5 (upd H4 dx (.own x)) := rl5.other hdx
    have eA : Ext W io5 H4 io5 (upd H4 dx (.own x)) := Ext.new0 hdx
    have hx' : upd H4 dx (.own x) x = none := by
      rw [upd_ne (Ne.symm hne)]
      exact hx
    have eB : Ext W io5 (upd H4 dx (.own x)) (io5 ++ [x]) (upd (upd H4 dx (.own x)) x (.ins (W.cl t) dx [])) := Ext.new io5 _ hx' [x]
    have rlB : Rl W (io5 ++ [x]) (hp5 ++ [AO.ins t []]) (upd (upd H4 dx (.own x)) x (.ins (W.cl t) dx [])) := rlA.new hx' (.ins hk .nil)
    have eC := eA.trans eB
    refine ⟨io5 ++ [x], hp5 ++ [AO.ins t []], sel ix (.ref hp5.length :: a ++ dfl ++ b), hc.2.2, rlB, ?_, ?_⟩
    · refine hg _ _ (.ref hp5.length :: a) b (.ref x :: vs) zs (.cons (.ref ?_) (ra'.mono eC)) (rb.mono eC)
      rw [← rl5.len]
      simp
    · have P6 := Pst.later P5 eC
      cases z : F (sel ix (.ref hp5.length :: a ++ dfl ++ b)) (hp5 ++ [AO.ins t []]) with
      | ok v h3 =>
        rw [z] at P6
        cases v with
        | non =>
          intro io' H' y e' rl' ry
          refine ⟨ry.non_inv, P6 io' H' (.ref x) e' rl' (.ref (e'.at ?_))⟩
          rw [← rl5.len]
          simp
        | _ => exact P6.elim
      | exc t' fs h3 =>
        rw [z] at P6
        exact P6
      | stuck =>
        rw [z] at P6
        exact P6
  · rw [if_neg hc] at P5
    exact P5.elim
theorem run_mk {C : Addr} {pins : List (Addr × Obj)} {σ : L2.St} {H : Hp} {s : Shared} {Q : VK} {us ws : List Value} {vs zs : List V} {sp : Sp} {g : List Value → List Value → List Value} {gV : List V → List V → List V} (N : Mk X.K C f) (hF : FnOk X.prog X.w X.K X.mg X.base (L2.CX X.prog X.w) j f fd ps sp) (hr : Room (j + 1) X.A) (hb : KBn X.K fd ps (n + 1) ks g gV) (tk : Takes X E)
    (I : Inv X pins σ H s) (r : Vals vs us) (rz : Vals zs ws) (l1 : vs.length = n) (l2 : zs.length = ks.length)
    (h : ∀ x dx, H x = none → H dx = none → dx ≠ x → sp (gV (.ref x :: vs) zs) (upd (upd H dx (.own x)) x (.ins C dx [])) (fun v H2 => v = .non ∧ Q (.ref x) H2) (WE E σ)) :
    wpAny (model X.prog X.w) X.A (call (.ref C) us (ks.zip ws)) (EP X pins σ Q) X.xe s := by
  have hq := h (s.heap.objs.size + 1) s.heap.objs.size (I.hok.fresh (Nat.le_succ _)) (I.hok.fresh (Nat.le_refl _)) (Nat.ne_of_lt (Nat.lt_succ_self _))
  have I2 := Inv.made (C := C) I
  have r1 : Vals (V.ref (s.heap.objs.size + 1) :: vs) (Value.ref (s.heap.objs.size + 1) :: us) := .cons rfl r
  have r2 := hb.rel r1 rz
  have n1 : (Value.ref (s.heap.objs.size + 1) :: us).length = n + 1 := by
    rw [List.length_cons, ← r.length, l1]
  refine wpAny_call (make_map (f := f) I.kIn N.makes N.init (beq_iff_eq.mp N.fn) (codeAny_mono (hF.run _ X.stack _ _ ⟨Value.ref (s.heap.objs.size + 1) :: us, ks.zip ws⟩ (g (Value.ref (s.heap.objs.size + 1) :: us) ws) _ _ (WE E σ) (hr.make C us (ks.zip ws))
    (I2.env0.make C us (ks.zip ws)) (hb.to _ (Value.ref (s.heap.objs.size + 1) :: us) ws I2.kIn n1 (rz.length.symm.trans l2)) r2 hq) fun r s' hq' => ?_))
  cases r with
  | error e => exact passAt tk σ pins _ _ e s' I2 hq'
  | ok fl =>
    cases fl with
    | ret u =>
      obtain ⟨v, H', I3, rv, ev, q3⟩ := I2.after hq'
      subst ev
      exact ⟨rv, ⟨V.ref (s.heap.objs.size + 1), H', I3, rfl, q3⟩⟩
    | next => exact False.elim hq'
    | brk => exact False.elim hq'
    | cont => exact False.elim hq'
theorem makeD0 {t : Nat} {C : Addr} (hkt : W.ct.kit t = true) (hC : W.cl t = C) (N : Mk X.K C f) (hF : FnOk X.prog X.w X.K X.mg X.base (L2.CX X.prog X.w) j f fd ps (spD W n F)) (hr : Room k X.A) (hj : j + 1 ≤ k) (hm : X.mg x = some (.ref C)) (hK : X.K = W.K) (hb : BnD W fd ps 1 ks ix dfl) (tk : Takes X E)
    (hkw : PK X kws (tDA W M E fk)) (hg : Gl X x := by rfl) (hall : (backToKw pos (keywordEach kws X.env)).all (·.1.isSome) = true := by rfl) (hks : (backToKw pos (keywordEach kws X.env)).filterMap (·.1) = ks := by rfl)
    (hdb : (x == ("__debug__" : Str)) = false := by decide)
    (hpl : ((backTo pos (starEach [] X.env)).any (·.1) || (backToKw pos (keywordEach kws X.env)).any (·.1.isNone)) = false := by rfl) :
    PE X (.Call (.Name x p) [] kws pos) (tD W M E (dMake t F 0 ks.length n ix dfl dNil fk)) := by
  obtain ⟨g, gV, kb, hg2⟩ := hb
  rw [← hK] at kb
  refine ⟨fun pins s σ H Q I h => ?_⟩
  refine wpAny_Call_Name_kw (ld_glob I hg hm ?_ hdb)
  refine PySem.W.callWith_KW0 (h₀ := X.base) I.ok.mod.kin N.kp hall ?_ hpl
  have h0 := nil_in (mkargs_in hkt hC h)
  refine thn (hkw.run pos pins s σ H _ I h0) fun ws s2 ⟨zs, H2, I2, rz, l1, l2, q2⟩ => ⟨I2.kIn, ?_⟩
  rw [hks]
  exact run_mk (us := []) (vs := []) N hF (hr.mono hj) kb tk I2 .nil rz l1 l2 (q2 gV hg2)
theorem makeD {t : Nat} {C : Addr} (hkt : W.ct.kit t = true) (hC : W.cl t = C) (N : Mk X.K C f) (hF : FnOk X.prog X.w X.K X.mg X.base (L2.CX X.prog X.w) j f fd ps (spD W n F)) (hr : Room k X.A) (hj : j + 1 ≤ k) (hm : X.mg x = some (.ref C)) (hK : X.K = W.K) (hb : BnD W fd ps (m + 1) ks ix dfl) (tk : Takes X E)
    (ha : PA X (e :: es) (tDA W M E fa)) (hkw : PK X kws (tDA W M E fk)) (hg : Gl X x := by rfl) (hall : (backToKw pos (keywordEach kws X.env)).all (·.1.isSome) = true := by rfl) (hks : (backToKw pos (keywordEach kws X.env)).filterMap (·.1) = ks := by rfl)
    (hdb : (x == ("__debug__" : Str)) = false := by decide) (he : starEach (e :: es) X.env = (false, eval e X.env) :: starEach es X.env := by rfl)
    (hpl : ((backTo pos (starEach (e :: es) X.env)).any (·.1) || (backToKw pos (keywordEach kws X.env)).any (·.1.isNone)) = false := by rfl) :
    PE X (.Call (.Name x p) (e :: es) kws pos) (tD W M E (dMake t F m ks.length n ix dfl fa fk)) := by
  obtain ⟨g, gV, kb, hg2⟩ := hb
  rw [← hK] at kb
  refine ⟨fun pins s σ H Q I h => ?_⟩
  refine wpAny_Call_Name_kw (ld_glob I hg hm ?_ hdb)
  refine PySem.W.callWith_KW (h₀ := X.base) I.ok.mod.kin N.kp hall (thn (ha.run pos pins s σ H _ I (mkargs_in hkt hC h)) fun us s1 ⟨vs, H1, I1, r, q⟩ => ?_) hpl he
  refine thn (hkw.run pos pins s1 σ H1 _ I1 q) fun ws s2 ⟨zs, H2, I2, rz, l1, l2, q2⟩ => ⟨I2.kIn, ?_⟩
  rw [hks]
  exact run_mk N hF (hr.mono hj) kb tk I2 r rz l1 l2 (q2 gV hg2)
end
end Dn
namespace Dn
open PySem PySem.Spec PyProof.Rows L2

section
variable {W : Wd} {M : Md W} {E : WX} {X : Cx}
def dStuck : DS := fun _ _ => .stuck
def eStuck : DE := fun _ _ => .stuck
theorem wallS {st : Stmt} : PS X st (tS W M E dStuck) := ⟨fun pins s σ H D I h => by
  obtain ⟨io, hp, as, _, _, P⟩ := h
  exact P.elim⟩
theorem wallE {e : Expr} : PE X e (tD W M E eStuck) := ⟨fun pins s σ H Q I h => by
  obtain ⟨io, hp, as, _, _, P⟩ := h
  exact P.elim⟩
end

def dAsg (f : DE) (g : DG) : DS := fun s h => (f s h).st s fun v h1 => match g v s with
  | some s' => .nx s' h1
  | none => .stuck
def dPar2 (i j : Nat) (f : DA) : DS := fun s h => (f s h).st s fun xs h1 => match xs with
  | [a, b] => .nx ((s.set i (some a)).set j (some b)) h1
  | _ => .stuck
section
variable {W : Wd} {M : Md W} {E : WX} {X : Cx} {f : DE} {fa : DA} {e a b c tg : Expr} {es : List Expr} {g : DG} {pos : Pos}
/-- a name of the top that holds a value of the written part -/
theorem gcD {x : Str} {v : AV} {y : V} {u : Value} (hm : X.mg x = some u) (hr : RelV y u) (r : RW0 W v y) (hg : Gl X x := by rfl) (hdb : (x == ("__debug__" : Str)) = false := by decide) :
    PE X (.Name x pos) (tD W M E (dC v)) := cD (pe_glob hg hm hr hdb) r
/-- a built-in type, by its name -/
theorem tyD {x : Str} {n : String} (hm : X.mg x = none) (hv : bootBuiltins x = some (.type n)) (hg : Gl X x := by rfl) (hn : x ≠ "__name__" := by decide) (hdb : (x == ("__debug__" : Str)) = false := by decide) :
    PE X (.Name x pos) (tD W M E (dC (.ty n))) := cD (pe_bltn hg hm hv (v := .ty n) rfl hn hdb) fun _ _ => .ty n
/-- an own class, by its name -/
theorem clD {x : Str} {t : Nat} {C : Addr} (hC : W.cl t = C) (hm : X.mg x = some (.ref C)) (hg : Gl X x := by rfl) (hdb : (x == ("__debug__" : Str)) = false := by decide) :
    PE X (.Name x pos) (tD W M E (dC (.cls t))) := cD (pe_glob hg hm (v := .ref C) rfl hdb) fun _ _ => by
  subst hC
  exact .cls t
theorem sAsg (he : PE X e (tD W M E f)) (hg : PG X tg (tgG W M anyC g)) (hs : swapsWithSole [tg] e pos.line X.env = pure false := by rfl) (hw : swappedStores [tg] e X.env = pure none := by rfl)
    (h1 : (assignEach [tg] X.env).map (·.2) = [assign tg X.env] := by rfl) : PS X (.Assign [tg] e pos) (tS W M E (dAsg f g)) := psI (ps_asg he hg hs hw h1) fun D σ H h => by
  obtain ⟨io, hp, as, rl, S, P⟩ := h
  refine (stepS (rh := RV W) (f := f) rl S P).imp fun x H1 ⟨io2, hp2, a, e2, rl2, ra, P2⟩ => ?_
  refine ⟨io2, hp2, as, a, rl2, M.mono e2 S, ra, ?_⟩
  cases z : g a as with
  | none =>
    rw [z] at P2
    exact P2.elim
  | some s' =>
    rw [z] at P2
    exact fun σ' S' _ => P2 io2 H1 σ' Ext.refl rl2 S'
theorem sPar2 {i j : Nat} {x y : Str} {px py pt : Pos} {kt k2 pt2} (hc : X.calm = true) (hN : X.N.Nodup) (hi : X.N[i]? = some x) (hj : X.N[j]? = some y) (hij : i ≠ j)
    (hx : X.env.scope.names.lookup x = some .local) (hy : X.env.scope.names.lookup y = some .local) (ha : PA X [a, b] (tDA W M E fa)) (o1 : M.ok i) (o2 : M.ok j)
    (hw : swappedStores [.Tuple [.Name x px, .Name y py] kt pt] (.Tuple [a, b] k2 pt2) X.env = pure (some [x, y]) := by rfl)
    (hs : swapsWithSole [.Tuple [.Name x px, .Name y py] kt pt] (.Tuple [a, b] k2 pt2) pos.line X.env = pure false := by rfl) :
    PS X (.Assign [.Tuple [.Name x px, .Name y py] kt pt] (.Tuple [a, b] k2 pt2) pos) (tS W M E (dPar2 i j fa)) := psI (ps_par hc hN hi hj hij hx hy ha hw hs) fun D σ H h => by
  obtain ⟨io, hp, as, rl, S, P⟩ := h
  refine (stepS (rh := RVs W) (f := fa) rl S P).imp fun x H1 ⟨io2, hp2, a, e2, rl2, ra, P2⟩ => ?_
  match a, ra, P2 with
  | [_, _], .cons r1 (.cons r2 .nil), P2 => exact ⟨_, _, rfl, P2 io2 H1 _ Ext.refl rl2 (M.set (M.set (M.mono e2 S) r1 o1) r2 o2)⟩
end
end Dn
namespace Dn
open PySem PySem.Spec PyProof.Rows L2

def lenA (h : Hep) : AV → Option Nat
  | .str x => if x.length ≤ SZ then some x.length else none
  | .tup xs => some xs.length
  | .rol xs => some xs.length
  | .ref n => match h[n]? with
    | some (.lst xs) => some xs.length
    | some (.dK kvs) => some kvs.length
    | _ => none
  | _ => none
def lenL : DL := fun as h => match as with
  | [a] => (lenA h a).map fun n => (.int (n : Nat), h)
  | _ => none
def absL : DL := fun as h => match as with
  | [.int i] => some (.int (i.natAbs : Nat), h)
  | _ => none
def maxL : DL := fun as h => match as with
  | [.int i, .int j] => some (.int (max i j), h)
  | _ => none
def minL : DL := fun as h => match as with
  | [.int i, .int j] => some (.int (min i j), h)
  | _ => none
def intL : DL := fun as h => match as with
  | [.int i] => some (.int i, h)
  | [.bl b] => some (.int (if b then 1 else 0), h)
  | _ => none
def blsOf : List AV → Option (List Bool)
  | [] => some []
  | .bl b :: r => (blsOf r).map (b :: ·)
  | _ => none
def intsOf : List AV → Option (List Int)
  | [] => some []
  | .int i :: r => (intsOf r).map (i :: ·)
  | _ => none
def allL : DL := fun as h => match as with
  | [a] => ((lstOf h a).bind blsOf).map fun bs => (.bl (bs.all id), h)
  | _ => none
def sumL : DL := fun as h => match as with
  | [a] => ((lstOf h a).bind intsOf).map fun ns => (.int ns.sum, h)
  | _ => none
def listL : DL := fun as h => match as with
  | [a] => match seqOf h a with
    | some xs => some (.ref h.length, h ++ [AO.lst xs])
    | none => match a with
      | .ref n => match h[n]? with
        | some (.dK kvs) => some (.ref h.length, h ++ [AO.lst (kvs.map fun kv => ofKey kv.1)])
        | _ => none
      | _ => none
  | _ => none
def tupleL : DL := fun as h => match as with
  | [a] => (seqOf h a).map fun xs => (.tup xs, h)
  | _ => none
section
variable {W : Wd} {M : Md W} {E : WX} {X : Cx}
theorem blsOf_in {io : List Addr} {H : Hp} : ∀ {xs : List AV} {vs : List V} {bs : List Bool}, blsOf xs = some bs → RVs W io H xs vs → vs = bs.map V.bl
  | [], _, _, e, .nil => by
    cases e
    rfl
  | x :: xs, _, _, e, .cons r t => by
    cases x with
    | bl b =>
      have e' : (blsOf xs).map (b :: ·) = some _ := e
      cases z : blsOf xs with
      | none =>
        rw [z] at e'
        cases e'
      | some l =>
        rw [z] at e'
        cases e'
        rw [r.bl_inv, blsOf_in z t]
        rfl
    | _ => cases e
theorem intsOf_in {io : List Addr} {H : Hp} : ∀ {xs : List AV} {vs : List V} {bs : List Int}, intsOf xs = some bs → RVs W io H xs vs → vs = bs.map V.int
  | [], _, _, e, .nil => by
    cases e
    rfl
  | x :: xs, _, _, e, .cons r t => by
    cases x with
    | int b =>
      have e' : (intsOf xs).map (b :: ·) = some _ := e
      cases z : intsOf xs with
      | none =>
        rw [z] at e'
        cases e'
      | some l =>
        rw [z] at e'
        cases e'
        rw [r.int_inv, intsOf_in z t]
        rfl
    | _ => cases e
theorem one_inv {io : List Addr} {H : Hp} {a : AV} {vs : List V} (r : RVs W io H [a] vs) : ∃ x, vs = [x] ∧ RV W io H a x := by
  cases r with
  | cons r t =>
    cases t
    exact ⟨_, rfl, r⟩
theorem two_inv {io : List Addr} {H : Hp} {a b : AV} {vs : List V} (r : RVs W io H [a, b] vs) : ∃ x y, vs = [x, y] ∧ RV W io H a x ∧ RV W io H b y := by
  cases r with
  | cons r t =>
    obtain ⟨y, rfl, r2⟩ := one_inv t
    exact ⟨_, _, rfl, r, r2⟩
theorem call_or {F : Value} {r r' : List V → Hp → VK → Prop} (h : CallR X F r) (h' : CallR X F r') : CallR X F (fun xs H Q => r xs H Q ∨ r' xs H Q) := fun pins s σ H xs us Q I rr q => q.elim (h pins s σ H xs us Q I rr) (h' pins s σ H xs us Q I rr)
theorem cLen (hK : X.K = W.K) : CallR X (.builtin "len") (tl W lenL) := call_imp (call_or call_len call_lenD) fun xs H Q ⟨io, hp, as, rl, ra, P⟩ => by
  match as, ra, P with
  | [a], ra, P =>
    obtain ⟨x, rfl, r⟩ := one_inv ra
    have P' : Pop W (RV W) Q io H ((lenA hp a).map fun n => (AV.int (n : Nat), hp)) := P
    cases z : lenA hp a with
    | none =>
      rw [z] at P'
      exact P'.elim
    | some n =>
      rw [z] at P'
      have q : Q (.int (n : Nat)) H := P'.ok rl (.int _)
      cases r with
      | str y =>
        left
        unfold lenA at z
        dsimp only at z
        by_cases hz : y.length ≤ SZ
        · rw [if_pos hz] at z
          cases z
          exact ⟨_, _, rfl, ⟨szL hz, rfl⟩, q⟩
        · rw [if_neg hz] at z
          cases z
      | tup h r =>
        left
        cases z
        refine ⟨_, _, rfl, .inr ⟨_, by rw [hK]; exact h, r.len⟩, q⟩
      | rol h r =>
        left
        cases z
        refine ⟨_, _, rfl, .inl ⟨_, by rw [hK]; exact roL_sq h, r.len⟩, q⟩
      | @ref n a h =>
        unfold lenA at z
        dsimp only at z
        cases e : hp[n]? with
        | none =>
          rw [e] at z
          cases z
        | some o =>
          rw [e] at z
          cases o with
          | lst xs =>
            cases z
            obtain ⟨vs, e1, r1⟩ := rl.lst h e
            left
            exact ⟨_, _, rfl, .inl ⟨vs, .inl (.inl e1), r1.len⟩, q⟩
          | dK kvs =>
            cases z
            obtain ⟨vs, e1, r1⟩ := rl.dK h e
            right
            refine ⟨_, vs, rfl, e1, ?_⟩
            rw [← r1.len]
            exact q
          | _ => cases z
      | _ => cases z
  | [], ra, P => exact P.elim
  | _ :: _ :: _, ra, P => exact P.elim
theorem cAbs : CallR X (.builtin "abs") (tl W absL) := call_imp call_abs fun xs H Q ⟨io, hp, as, rl, ra, P⟩ => by
  match as, ra, P with
  | [.int i], ra, P =>
    obtain ⟨x, rfl, r⟩ := one_inv ra
    obtain rfl := r.int_inv
    refine ⟨i, rfl, ?_⟩
    have q : Q (.int (i.natAbs : Nat)) H := P.ok rl (.int _)
    have e : (if i < 0 then -i else i) = ((i.natAbs : Nat) : Int) := by
      split <;> omega
    rw [e]
    exact q
theorem cMax (hc : X.calm = true) : CallR X (.builtin "max") (tl W maxL) := call_imp (call_max2 hc) fun xs H Q ⟨io, hp, as, rl, ra, P⟩ => by
  match as, ra, P with
  | [.int i, .int j], ra, P =>
    obtain ⟨x, y, rfl, r1, r2⟩ := two_inv ra
    obtain rfl := r1.int_inv
    obtain rfl := r2.int_inv
    have q : Q (.int (max i j)) H := P.ok rl (.int _)
    have e : (if j > i then j else i) = max i j := by
      split <;> omega
    refine ⟨i, j, rfl, ?_⟩
    rw [e]
    exact q
theorem cMin (hc : X.calm = true) : CallR X (.builtin "min") (tl W minL) := call_imp (call_min2 hc) fun xs H Q ⟨io, hp, as, rl, ra, P⟩ => by
  match as, ra, P with
  | [.int i, .int j], ra, P =>
    obtain ⟨x, y, rfl, r1, r2⟩ := two_inv ra
    obtain rfl := r1.int_inv
    obtain rfl := r2.int_inv
    have q : Q (.int (min i j)) H := P.ok rl (.int _)
    have e : (if j < i then j else i) = min i j := by
      split <;> omega
    refine ⟨i, j, rfl, ?_⟩
    rw [e]
    exact q
theorem cInt : CallR X (.type "int") (tl W intL) := call_imp call_int1 fun xs H Q ⟨io, hp, as, rl, ra, P⟩ => by
  match as, ra, P with
  | [.int i], ra, P =>
    obtain ⟨x, rfl, r⟩ := one_inv ra
    obtain rfl := r.int_inv
    exact .inl ⟨i, rfl, P.ok rl (.int _)⟩
  | [.bl i], ra, P =>
    obtain ⟨x, rfl, r⟩ := one_inv ra
    obtain rfl := r.bl_inv
    exact .inr ⟨i, rfl, P.ok rl (.int _)⟩
theorem cAll (hK : X.K = W.K) (hc : X.calm = true) : CallR X (.builtin "all") (tl W allL) := call_imp (cr_all hc) fun xs H Q ⟨io, hp, as, rl, ra, P⟩ => by
  match as, ra, P with
  | [a], ra, P =>
    obtain ⟨x, rfl, r⟩ := one_inv ra
    have P' : Pop W (RV W) Q io H (((lstOf hp a).bind blsOf).map fun bs => (AV.bl (bs.all id), hp)) := P
    cases z : lstOf hp a with
    | none =>
      rw [z] at P'
      exact P'.elim
    | some ys =>
      rw [z] at P'
      obtain ⟨p, vs, rfl, hs, rv⟩ := lstOf_in z rl r
      have P2 : Pop W (RV W) Q io H ((blsOf ys).map fun bs => (AV.bl (bs.all id), hp)) := P'
      cases z2 : blsOf ys with
      | none =>
        rw [z2] at P2
        exact P2.elim
      | some bs =>
        rw [z2] at P2
        have e := blsOf_in z2 rv
        subst e
        exact ⟨p, bs, rfl, by rw [hK]; exact hs, P2.ok rl (.bl _)⟩
  | [], ra, P => exact P.elim
  | _ :: _ :: _, ra, P => exact P.elim
theorem cSum (hK : X.K = W.K) (hc : X.calm = true) : CallR X (.builtin "sum") (tl W sumL) := call_imp (cr_sum hc) fun xs H Q ⟨io, hp, as, rl, ra, P⟩ => by
  match as, ra, P with
  | [a], ra, P =>
    obtain ⟨x, rfl, r⟩ := one_inv ra
    have P' : Pop W (RV W) Q io H (((lstOf hp a).bind intsOf).map fun bs => (AV.int (bs.sum), hp)) := P
    cases z : lstOf hp a with
    | none =>
      rw [z] at P'
      exact P'.elim
    | some ys =>
      rw [z] at P'
      obtain ⟨p, vs, rfl, hs, rv⟩ := lstOf_in z rl r
      have P2 : Pop W (RV W) Q io H ((intsOf ys).map fun bs => (AV.int bs.sum, hp)) := P'
      cases z2 : intsOf ys with
      | none =>
        rw [z2] at P2
        exact P2.elim
      | some bs =>
        rw [z2] at P2
        have e := intsOf_in z2 rv
        subst e
        exact ⟨p, bs, rfl, by rw [hK]; exact hs, P2.ok rl (.int _)⟩
  | [], ra, P => exact P.elim
  | _ :: _ :: _, ra, P => exact P.elim
/-- a new list is laid -/
theorem lay_lst {io : List Addr} {hp : Hep} {H : Hp} {Q : VK} {xs : List AV} {vs : List V} (P : Pop W (RV W) Q io H (some (AV.ref hp.length, hp ++ [AO.lst xs]))) (rl : Rl W io hp H) (r : RVs W io H xs vs) :
    ∀ l, H l = none → Q (.ref l) (upd H l (.lst vs)) := fun l hl => by
  have e : Ext W io H (io ++ [l]) (upd H l (.lst vs)) := Ext.new io _ hl [l]
  exact P _ _ _ e (rl.new hl (.lst (r.mono e))) (.ref (by rw [← rl.len]; simp))
theorem cList (hK : X.K = W.K) (hc : X.calm = true) : CallR X (.type "list") (tl W listL) := call_imp (call_or call_list_of (call_listD hc)) fun xs H Q ⟨io, hp, as, rl, ra, P⟩ => by
  match as, ra, P with
  | [a], ra, P =>
    obtain ⟨x, rfl, r⟩ := one_inv ra
    cases z : seqOf hp a with
    | some ys =>
      have P' : Pop W (RV W) Q io H (some (AV.ref hp.length, hp ++ [AO.lst ys])) := by
        unfold listL at P
        simp only [z] at P
        exact P
      obtain ⟨p, vs, rfl, hs, rv⟩ := seqOf_in z rl r
      left
      refine ⟨p, vs, rfl, by rw [hK]; exact hs, lay_lst P' rl rv⟩
    | none =>
      unfold listL at P
      simp only [z] at P
      cases r with
      | @ref n a h =>
        dsimp only at P
        cases e : hp[n]? with
        | none =>
          rw [e] at P
          exact P.elim
        | some o =>
          rw [e] at P
          cases o with
          | dK kvs =>
            obtain ⟨vs, e1, r1⟩ := rl.dK h e
            right
            refine ⟨_, vs, rfl, .inl e1, ?_⟩
            have q : RVs W io H (kvs.map fun kv => ofKey kv.1) (vs.map fun kv => kV kv.1) := by
              clear P e e1
              induction r1 with
              | nil => exact .nil
              | cons _ _ ih => exact .cons (rv_key _) ih
            exact lay_lst P rl q
          | _ => exact P.elim
      | _ => exact P.elim
  | [], ra, P => exact P.elim
  | _ :: _ :: _, ra, P => exact P.elim
theorem cTuple (hK : X.K = W.K) : CallR X (.type "tuple") (tl W tupleL) := call_imp call_tuple_of fun xs H Q ⟨io, hp, as, rl, ra, P⟩ => by
  match as, ra, P with
  | [a], ra, P =>
    obtain ⟨x, rfl, r⟩ := one_inv ra
    have P' : Pop W (RV W) Q io H ((seqOf hp a).map fun xs => (AV.tup xs, hp)) := P
    cases z : seqOf hp a with
    | none =>
      rw [z] at P'
      exact P'.elim
    | some ys =>
      rw [z] at P'
      obtain ⟨p, vs, rfl, hs, rv⟩ := seqOf_in z rl r
      refine ⟨p, vs, rfl, ?_⟩
      rcases hs with hs | hs
      · refine .inl ⟨by rw [hK]; exact hs, fun l hl => ?_⟩
        have e : Ext W io H io (upd H l (.tup vs)) := Ext.new0 hl
        exact P' io _ _ e (rl.other hl) (.tup (.inl (.inl upd_same)) (rv.mono e))
      · exact .inr ⟨by rw [hK]; exact hs, P'.ok rl (.tup hs rv)⟩
  | [], ra, P => exact P.elim
  | _ :: _ :: _, ra, P => exact P.elim

def kitB (ct : CT) (t : Nat) : Option TW := if ct.kit t then some (.cls t) else none
def twO (ct : CT) : AO → Option TW
  | .lst _ => some (.ty "list")
  | .dK _ => some (.ty "dict")
  | .dT _ => some (.ty "dict")
  | .ins t _ => kitB ct t
  | .frz _ => none
def twOf (ct : CT) (h : Hep) : AV → Option TW
  | .non => some (.ty "NoneType")
  | .bl _ => some (.ty "bool")
  | .int _ => some (.ty "int")
  | .str _ => some (.ty "str")
  | .tup _ => some (.ty "tuple")
  | .ref n => (h[n]?).bind (twO ct)
  | _ => none
def twC (ct : CT) : AV → Option TW
  | .ty n => if n ∈ tyNames then some (.ty n) else none
  | .cls t => kitB ct t
  | _ => none
def isiB (ct : CT) (h : Hep) (a c : AV) : Option Bool := match twOf ct h a, twC ct c with
  | some t, some u => some (t.sub ct u)
  | _, _ => none
def isiL (ct : CT) : DL := fun as h => match as with
  | [a, c] => (isiB ct h a c).map fun b => (.bl b, h)
  | _ => none
def TW.okk (W : Wd) : TW → Prop
  | .ty n => n ∈ tyNames
  | .cls t => W.ct.kit t = true
theorem kit_ty0 {K : PySem.W.Frag} {a b : String} (ha : a ∈ tyNames) (hb : b ∈ tyNames) : PySem.W.kitOne K (.type a) (.type b) = some (a == b || (a == "bool" && b == "int")) := by
  simp only [tyNames, List.mem_cons, List.not_mem_nil, or_false] at ha hb
  rcases ha with rfl | rfl | rfl | rfl | rfl | rfl | rfl <;> rcases hb with rfl | rfl | rfl | rfl | rfl | rfl | rfl <;> first | rfl | kernel_rfl
theorem TW.sub_in {a b : TW} (W : Wd) (ha : a.okk W) (hb : b.okk W) : PySem.W.kitOne W.K (a.val W) (b.val W) = some (a.sub W.ct b) := by
  cases a with
  | ty n =>
    cases b with
    | ty m => exact kit_ty0 ha hb
    | cls t => exact W.ctf n t ha hb
  | cls s =>
    cases b with
    | ty m => exact W.cty m s hb ha
    | cls t => exact W.csf s t ha hb
theorem twOf_in {io : List Addr} {hp : Hep} {H : Hp} {a : AV} {x : V} {t : TW} (e : twOf W.ct hp a = some t) (rl : Rl W io hp H) (r : RV W io H a x) :
    t.okk W ∧ TyX W.K H x (t.val W) := by
  cases r with
  | non => cases e; exact ⟨(by simp [TW.okk] : TW.okk W (.ty _)), .base .non⟩
  | bl b => cases e; exact ⟨(by simp [TW.okk] : TW.okk W (.ty _)), .base (.bl b)⟩
  | int b => cases e; exact ⟨(by simp [TW.okk] : TW.okk W (.ty _)), .base (.int b)⟩
  | str b => cases e; exact ⟨(by simp [TW.okk] : TW.okk W (.ty _)), .base (.str b)⟩
  | tup h r =>
    cases e
    refine ⟨(by simp [TW.okk] : TW.okk W (.ty _)), ?_⟩
    rcases h with (h | ⟨o, h⟩) | ⟨o, its, n, h1, h2, _⟩
    · exact .base (.tup h)
    · exact .fTuple h
    · exact .kTuple h1 h2
  | @ref n a h =>
    unfold twOf at e
    dsimp only at e
    cases z : hp[n]? with
    | none =>
      rw [z] at e
      cases e
    | some o =>
      rw [z] at e
      have e' : twO W.ct o = some t := e
      cases o with
      | lst xs =>
        cases e'
        obtain ⟨vs, e1, _⟩ := rl.lst h z
        exact ⟨(by simp [TW.okk] : TW.okk W (.ty _)), .base (.lst e1)⟩
      | dK xs =>
        cases e'
        obtain ⟨vs, e1, _⟩ := rl.dK h z
        exact ⟨(by simp [TW.okk] : TW.okk W (.ty _)), .base (.dK e1)⟩
      | dT xs =>
        cases e'
        obtain ⟨vs, e1, _⟩ := rl.dT h z
        exact ⟨(by simp [TW.okk] : TW.okk W (.ty _)), .base (.dT e1)⟩
      | ins c fs =>
        have e2 : kitB W.ct c = some t := e'
        unfold kitB at e2
        split at e2
        · rename_i hk
          cases e2
          obtain ⟨dx, vs, e1, _⟩ := rl.ins h z
          obtain ⟨c1, c2, c3⟩ := W.cg c hk
          exact ⟨hk, .base (.ins e1 c1 c2 W.cd W.ck c3)⟩
        · cases e2
      | frz o => cases e'
  | _ => cases e
theorem twC_in {io : List Addr} {H : Hp} {a : AV} {x : V} {t : TW} (e : twC W.ct a = some t) (r : RV W io H a x) :
    t.okk W ∧ ClsV x (t.val W) := by
  cases r with
  | ty n =>
    unfold twC at e
    dsimp only at e
    split at e
    · rename_i h
      cases e
      exact ⟨h, .ty n⟩
    · cases e
  | cls c =>
    have e2 : kitB W.ct c = some t := e
    unfold kitB at e2
    split at e2
    · rename_i hk
      cases e2
      exact ⟨hk, .own _⟩
    · cases e2
  | _ => cases e
theorem cIsi (hK : X.K = W.K) : CallR X (.builtin "isinstance") (tl W (isiL W.ct)) := call_imp call_isi fun xs H Q ⟨io, hp, as, rl, ra, P⟩ => by
  match as, ra, P with
  | [a, c], ra, P =>
    obtain ⟨x, y, rfl, r1, r2⟩ := two_inv ra
    have P' : Pop W (RV W) Q io H ((isiB W.ct hp a c).map fun b => (AV.bl b, hp)) := P
    unfold isiB at P'
    cases z1 : twOf W.ct hp a with
    | none =>
      rw [z1] at P'
      exact P'.elim
    | some t =>
      rw [z1] at P'
      cases z2 : twC W.ct c with
      | none =>
        rw [z2] at P'
        exact P'.elim
      | some u =>
        rw [z2] at P'
        obtain ⟨k1, t1⟩ := twOf_in z1 rl r1
        obtain ⟨k2, t2⟩ := twC_in z2 r2
        refine ⟨x, y, t.val W, u.val W, t.sub W.ct u, rfl, t2, ?_, ?_, P'.ok rl (.bl _)⟩
        · rw [hK]
          exact t1
        · rw [hK]
          exact TW.sub_in W k1 k2
  | [], ra, P => exact P.elim
  | [_], ra, P => exact P.elim
  | _ :: _ :: _ :: _, ra, P => exact P.elim

variable {e o : Expr} {es : List Expr} {fa : DA} {f : DE} {x : Str} {p pos apos : Pos} {r : DL} {id T : String}
theorem bD (hc : CallR X (.builtin id) (tl W r)) (hm : X.mg x = none) (hv : bootBuiltins x = some (.builtin id)) (ha : PA X (e :: es) (tDA W M E fa)) (hg : Gl X x := by rfl) (hn : x ≠ "__name__" := by decide) (hdb : (x == ("__debug__" : Str)) = false := by decide)
    (he : starEach (e :: es) X.env = (false, eval e X.env) :: starEach es X.env := by rfl) (hpl : (backTo pos (starEach es X.env)).any (·.1) = false := by rfl) : PE X (.Call (.Name x p) (e :: es) [] pos) (tD W M E (dCB r fa)) :=
  peI (pe_callB hc hg hm hv ha hn hdb he hpl) fun _ _ _ h => cb_in h
theorem yD (hc : CallR X (.type T) (tl W r)) (hm : X.mg x = none) (hv : bootBuiltins x = some (.type T)) (ha : PA X (e :: es) (tDA W M E fa)) (hg : Gl X x := by rfl) (hn : x ≠ "__name__" := by decide) (hdb : (x == ("__debug__" : Str)) = false := by decide)
    (he : starEach (e :: es) X.env = (false, eval e X.env) :: starEach es X.env := by rfl) (hpl : (backTo pos (starEach es X.env)).any (·.1) = false := by rfl) : PE X (.Call (.Name x p) (e :: es) [] pos) (tD W M E (dCB r fa)) :=
  peI (pe_callTy hc hg hm hv ha hn hdb he hpl) fun _ _ _ h => cb_in h
/-- by receiver and arguments -/
abbrev DMt := AV → List AV → Hep → Op AV
def tm (W : Wd) (r : DMt) : V → List V → Hp → VK → Prop := fun x vs H Q => ∃ io hp a as, Rl W io hp H ∧ RV W io H a x ∧ RVs W io H as vs ∧ Pop W (RV W) Q io H (r a as hp)
theorem mt_imp {r r' : V → List V → Hp → VK → Prop} (h : MtR X id r) (i : ∀ x xs H Q, r' x xs H Q → r x xs H Q) : MtR X id r' := fun pins s σ H x xs v us Q I rx rxs q => h pins s σ H x xs v us Q I rx rxs (i x xs H Q q)
/-- is it such a builtin value? -/
def tyA (T : String) (h : Hep) : AV → Bool
  | .str _ => T == "str"
  | .ref n => match h[n]? with
    | some (.lst _) => T == "list"
    | some (.dK _) => T == "dict"
    | some (.dT _) => T == "dict"
    | _ => false
  | _ => false
def dMt (T : String) (r : DMt) (f : DE) (fa : DA) : DE := fun s h => (f s h).bind fun a h1 => if tyA T h1 a then (fa s h1).bind fun b h2 => R.of (r a b h2) else .stuck
theorem tyA_in {io : List Addr} {hp : Hep} {H : Hp} {a : AV} {x : V} (e : tyA T hp a = true) (rl : Rl W io hp H) (r : RV W io H a x) : tyV W.K T x H := by
  cases r with
  | str y => exact beq_iff_eq.mp e
  | @ref n a h =>
    unfold tyA at e
    dsimp only at e
    cases z : hp[n]? with
    | none =>
      rw [z] at e
      cases e
    | some o =>
      rw [z] at e
      cases o with
      | lst xs =>
        obtain ⟨vs, e1, _⟩ := rl.lst h z
        exact .inl ⟨beq_iff_eq.mp e, vs, .inl (.inl e1)⟩
      | dK xs =>
        obtain ⟨vs, e1, _⟩ := rl.dK h z
        exact .inr (.inr (.inl ⟨beq_iff_eq.mp e, .inl ⟨vs, e1⟩⟩))
      | dT xs =>
        obtain ⟨vs, e1, _⟩ := rl.dT h z
        exact .inr (.inr (.inl ⟨beq_iff_eq.mp e, .inr ⟨vs, e1⟩⟩))
      | _ => cases e
  | _ => cases e
theorem mt_in {r : DMt} {σ : L2.St} {H : Hp} {Q : VK} (h : tD W M E (dMt T r f fa) σ H Q) : tBM W.K T (tm W r) (tD W M E f) (tDA W M E fa) σ H Q := by
  obtain ⟨io, hp, as, rl, S, P⟩ := h
  refine (step (rh := RV W) (f := f) rl S P).imp fun x H1 ⟨io2, hp2, a, e2, rl2, ra, P2⟩ => ?_
  by_cases ht : tyA T hp2 a = true
  · rw [if_pos ht] at P2
    refine ⟨tyA_in ht rl2 ra, ?_⟩
    refine (step (rh := RVs W) (f := fa) rl2 (M.mono e2 S) P2).imp fun y H4 ⟨io5, hp5, b, e5, rl5, rb, P5⟩ => ?_
    exact ⟨io5, hp5, a, b, rl5, ra.mono e5, rb, P5.of⟩
  · rw [if_neg ht] at P2
    exact P2.elim
variable {name : Str} {r : DMt}
theorem mD (hK : X.K = W.K) (pa : PlainAttrs T) (slot : Slot T name id) (hm : MtR X id (tm W r)) (ho : PE X o (tD W M E f)) (ha : PA X (e :: es) (tDA W M E fa)) (hty : typeOf (.builtin id) = pure (.type "method_descriptor") := by rfl)
    (hbase : attributeBase o name X.env (eval o X.env) = eval o X.env := by rfl)
    (hfew : ((backTo pos (starEach (e :: es) X.env)).all (fun x => !x.1) && (backToKw pos (keywordEach [] X.env)).all (fun x => x.1.isSome)
      && decide ((e :: es).length + ([] : List Keyword).length + (if ([] : List Keyword).isEmpty then 0 else 1) < 30)) = true := by rfl)
    (hline : (apos.endLine == pos.line) = true := by rfl) (hs : starEach (e :: es) X.env = (false, eval e X.env) :: starEach es X.env := by rfl) (hplain : (backTo pos (starEach es X.env)).any (·.1) = false := by rfl) :
    PE X (.Call (.Attribute o name apos) (e :: es) [] pos) (tD W M E (dMt T r f fa)) :=
  peI (pe_bm pa slot hty hm ho ha hbase hfew hline hs hplain) fun σ H Q h => by
    rw [hK]
    exact mt_in h
def lstAt (h : Hep) : AV → Option (Nat × List AV)
  | .ref n => match h[n]? with
    | some (.lst xs) => some (n, xs)
    | _ => none
  | _ => none
theorem lstAt_in {io : List Addr} {hp : Hep} {H : Hp} {a : AV} {x : V} {n : Nat} {xs : List AV} (e : lstAt hp a = some (n, xs)) (rl : Rl W io hp H) (r : RV W io H a x) : ∃ p vs, x = .ref p ∧ io[n]? = some p ∧ H p = some (.lst vs) ∧ RVs W io H xs vs := by
  cases r with
  | @ref m a h =>
    unfold lstAt at e
    dsimp only at e
    cases z : hp[m]? with
    | none =>
      rw [z] at e
      cases e
    | some o =>
      rw [z] at e
      cases o with
      | lst ys =>
        cases e
        obtain ⟨vs, e1, r1⟩ := rl.lst h z
        exact ⟨a, vs, rfl, h, e1, r1⟩
      | _ => cases e
  | _ => cases e
def mAppend : DMt := fun a as h => match lstAt h a, as with
  | some (n, xs), [b] => if xs.length < SZ then some (.non, h.set n (.lst (xs ++ [b]))) else none
  | _, _ => none
theorem set_lst {io : List Addr} {hp : Hep} {H : Hp} {Q : VK} {n : Nat} {p : Addr} {ys : List AV} {vs ws : List V} {b : AV} {y : V} (P : Pop W (RV W) Q io H (some (b, hp.set n (.lst ys)))) (rl : Rl W io hp H) (hi : io[n]? = some p) (hu : H p = some (.lst vs)) (r : RVs W io H ys ws) (rb : RV W io H b y) :
    Q y (upd H p (.lst ws)) := by
  have e : Ext W io H io (upd H p (.lst ws)) := Ext.set _ hu trivial
  exact P io _ y e (rl.set hi hu trivial (.lst (r.mono e))) (rb.mono e)
theorem meAppend : MtR X "list.append" (tm W mAppend) := mt_imp mt_append fun x xs H Q ⟨io, hp, a, as, rl, ra, ras, P⟩ => by
  unfold mAppend at P
  cases z : lstAt hp a with
  | none =>
    rw [z] at P
    exact P.elim
  | some q =>
    obtain ⟨n, ys⟩ := q
    rw [z] at P
    match as, ras, P with
    | [b], ras, P =>
      obtain ⟨y, rfl, rb⟩ := one_inv ras
      obtain ⟨p, vs, rfl, hi, hu, rv⟩ := lstAt_in z rl ra
      dsimp only at P
      split at P
      · rename_i hz
        refine ⟨p, vs, y, rfl, rfl, hu, by rw [← rv.len]; exact szT hz, ?_⟩
        exact set_lst P rl hi hu (rv.app (.cons rb .nil)) .non
      · exact P.elim
    | [], _, P => exact P.elim
    | _ :: _ :: _, _, P => exact P.elim
end
end Dn
namespace PySem
open Sem (wp)
set_option maxHeartbeats 4000000 in
theorem dn_meets_enumerate_newB {v : Value} {o : Obj} {H : Heap → Prop} (B : Begins v o H) :
    Meets (Builtin.«enumerate.__new__» ⟨[.type "enumerate", v], []⟩) (fun _ R s => H s.heap ∧
      R (.ok (.ret (.ref (s.heap.push o).objs.size))) { s with heap := (s.heap.push o).push { cls := .type "enumerate", data := .fields #[.none, .bool false, .ref s.heap.objs.size, rawInt 0, .none, .none] } }) :=
  .of_wp fun prog w A R s h => by
    obtain ⟨hp, g, d, tk, os⟩ := s; obtain ⟨h1, h⟩ := h
    have hsub := sub_enumerate
    have q1 : ∀ {A' : Around} {E : Value → Shared → Prop} {Q : Value → Shared → Prop}, Q (.ref hp.objs.size) ⟨hp.push o, g, d, tk, os⟩ → wpAny (model prog w) A' (pyIter v) Q E ⟨hp, g, d, tk, os⟩ :=
      fun q => B.iter prog w _ _ ⟨hp, g, d, tk, os⟩ _ h1 q
    wp_walk using q1
    refine wpAny_stack_any fun st => wpAny_pure ?_
    split
    · rename_i c _ _ _ _ _
      cases (c == Value.type "enumerate")
      · wp_walk using q1
        exact ⟨_, rfl, h⟩
      · wp_walk using q1
        exact ⟨_, rfl, h⟩
    · wp_walk using q1
      exact ⟨_, rfl, h⟩
section
variable {prog : Program} {w : World} {A : Around} {E : Value → Shared → Prop} {s : Shared}
theorem dn_enum_begins {v : Value} {o : Obj} {H : Heap → Prop} {Q : Value → Shared → Prop} (B : Begins v o H) (h1 : H s.heap)
    (h : ∀ h', IsEnum h' (s.heap.objs.size + 1) s.heap.objs.size 0 .none → h'.get? s.heap.objs.size = some o → h'.objs.size = s.heap.objs.size + 2 →
      (∀ b o, s.heap.get? b = some o → h'.get? b = some o) → Q (.ref (s.heap.objs.size + 1)) { s with heap := h' }) :
    wpAny (model prog w) A (call (.type "enumerate") [v]) Q E s := by
  refine callType_new F.called_enumerate (by decide) (F.typeCall_enumerate_1 _) (F.newCall_enumerate_1 _) (fun obj => F.args_object_init_2 obj _) F.entry_enumerate_new
    (dn_meets_enumerate_newB B) ⟨h1, ?_⟩
  have hz : (s.heap.push o).objs.size = s.heap.objs.size + 1 := Heap.size_push ..
  show _ ∧ _
  rw [hz]
  have he : IsEnum ((s.heap.push o).push { cls := .type "enumerate", data := .fields #[.none, .bool false, .ref s.heap.objs.size, rawInt 0, .none, .none] }) (s.heap.objs.size + 1) s.heap.objs.size 0 .none := by
    have := Heap.get?_push_size (s.heap.push o) (o := { cls := .type "enumerate", data := .fields #[.none, .bool false, .ref s.heap.objs.size, rawInt 0, .none, .none] }) rfl
    rw [hz] at this; exact this
  refine ⟨⟨_, he, rfl⟩, h _ he (Heap.get?_push_of_some _ (Heap.get?_push_size _ B.free)) (by rw [Heap.size_push, hz]) fun b o x => Heap.get?_push_of_some _ (Heap.get?_push_of_some _ x)⟩
end
end PySem
namespace Dn
open PySem PySem.Spec PyProof.Rows L2

section
variable {W : Wd} {M : Md W} {E : WX} {X : Cx} {e : Expr} {f : DE} {p pos tpos : Pos} {elts : List Expr} {kk : Nat}
end
end Dn
namespace Dn
open PySem PySem.Spec PyProof.Rows L2
section
variable {W : Wd} {M : Md W} {E : WX} {X : Cx} {e e2 : Expr} {fa : DA} {p pos tpos : Pos} {elts : List Expr} {kk : Nat}
end
end Dn
namespace Dn
open PySem PySem.Spec PyProof.Rows L2

theorem star_unpack {prog : Program} {w : World} {A : Around} {E : Value → Shared → Prop} {s : Shared} {l : Addr} {items : Array Value} {i : Nat} {Q : List Value → Shared → Prop} (hl : IsTup s.heap l items) (hh : A.handled = none) (hn : i ≤ items.size) (hz : items.size ≤ 16384)
    (h : ∀ h' tk, Heap.ExtBut s.heap.objs.size s.heap h' → Q (items.toList.take i ++ [.ref h'.objs.size]) { s with heap := h'.push { cls := .type "list", data := .seq (items.toList.drop i).toArray }, toks := tk }) :
    wpAny (model prog w) A (unpackItems (.ref l) (i + 1) (some i)) Q E s := by
  have hlt : l ≠ s.heap.objs.size := by obtain ⟨o, ho, _⟩ := hl; exact Nat.ne_of_lt (Heap.lt_size ho)
  have hll : l < s.heap.objs.size := by obtain ⟨o, ho, _⟩ := hl; exact Heap.lt_size ho
  unfold unpackItems
  refine wpAny_bind ?_
  unfold notIterableAtAll
  refine wpAny_bind (wpAny_specialOf hl.typeIs slot_tuple_iter.lookup ?_)
  refine wpAny_pure ?_
  simp only [Bool.false_eq_true, if_false]
  refine wpAny_bind (wpAny_holding (iter_tuple hl ?_))
  refine wpAny_bind (wpAny_holding (draw_tuple hlt i 0 _ _ ⟨_, Heap.get?_push_size _ rfl, rfl, rfl⟩ (hl.push _) (by omega) fun h₁ hit₁ hs₁ => ?_))
  have hl₁ : IsTup h₁ l items := (hl.push _).extBut hs₁.extBut hlt
  rw [Nat.zero_add] at hit₁
  have hit₁' := hit₁
  obtain ⟨oi, hoi, _⟩ := hit₁'
  have hl₁' := hl₁
  obtain ⟨ol, hol, _⟩ := hl₁'
  rw [List.drop_zero]
  have hfl : (items.toList.take i).length = i := by rw [List.length_take, Array.length_toList]; omega
  rw [if_neg (show ¬ ((items.toList.take i).length < i) by rw [hfl]; omega)]
  refine wpAny_bind (wpAny_holding (PySem.W.kun_collect (s := { s with heap := h₁ }) (T := "tuple_iterator") (.inr (.inr (.inr rfl))) (Walks.tuple (A := A.in1) hh s.heap.objs.size l hlt items) (fun j u st => st.1.typeIs) (k := i) (by omega) ⟨hit₁, hl₁⟩ (Heap.lt_size hoi) (Heap.lt_size hol) (fun h₂ tk hk => ?_) (by rw [sizeLine_eq]; omega)))
  have hrl : (items.toList.drop i).length = items.size - i := by rw [List.length_drop, Array.length_toList]
  have hmid : (items.toList.drop i).length - (i + 1 - 1 - i) = (items.toList.drop i).length := by omega
  show wpAny _ _ (if (items.toList.drop i).length < i + 1 - 1 - i then _ else _) _ _ _
  rw [if_neg (by rw [hrl]; omega)]
  show wpAny _ _ (newList ((items.toList.drop i).take ((items.toList.drop i).length - (i + 1 - 1 - i))) >>= fun d => pure (items.toList.take i ++ [d] ++ (items.toList.drop i).drop ((items.toList.drop i).length - (i + 1 - 1 - i)))) _ _ _
  rw [hmid, List.take_length, List.drop_length]
  have he : Heap.ExtBut s.heap.objs.size s.heap h₂ := fun b o hb e => hk b o hb (hs₁.extBut b o hb (Heap.get?_push_of_some _ e))
  refine wpAny_bind (wpAny_newObj_type (wpAny_pure ?_) (by show (items.toList.drop i).toArray.size ≤ sizeLine; rw [List.size_toArray, hrl, sizeLine_eq]; omega))
  rw [List.append_nil]
  exact h h₂ tk he
theorem pgs_star {X : Cx} {e : Expr} {es : List Expr} {t : TG} {u : TGs} {p : Pos} (h1 : PG X e t) (h2 : PGs X es u)
    (hs : (assignEach (.Starred e p :: es) X.env).map (·.2) = assign e X.env :: (assignEach es X.env).map (·.2) := by rfl) : PGs X (.Starred e p :: es) (gCons t u) := by
  refine ⟨fun pins s σ H vs us Q I r h => ?_⟩
  obtain ⟨v, vr, e1, h⟩ := h
  subst e1
  cases r with
  | cons r rr =>
    rw [hs]
    refine assignInOrder_cons (thn (h1.run pins s σ H _ _ _ I r h) fun _ s1 ⟨σ1, H1, I1, q1⟩ => ?_)
    exact h2.run pins s1 σ1 H1 _ _ Q I1 rr q1
def dStarS (i : Nat) (f : DE) (g : DGs) : DS := fun s h => (f s h).st s fun v h1 => match tupOf v with
  | some xs => if i ≤ xs.length ∧ xs.length ≤ 10000 then (match g (xs.take i ++ [.ref h1.length]) s with
      | some s' => .nx s' (h1 ++ [AO.lst (xs.drop i)])
      | none => .stuck) else .stuck
  | none => .stuck
section
variable {W : Wd} {M : Md W} {E : WX} {X : Cx} {f : DE} {e : Expr} {es : List Expr} {gs : DGs} {g : DG} {pos tpos p : Pos} {kk i : Nat} {C : CS}
theorem gsS (hC : CSok C) (h1 : PG X e (tgG W M C g)) (h2 : PGs X es (tgGs W M C gs)) (hs : (assignEach (.Starred e p :: es) X.env).map (·.2) = assign e X.env :: (assignEach es X.env).map (·.2) := by rfl) : PGs X (.Starred e p :: es) (tgGs W M C (dgC g gs)) :=
  pgsI (pgs_star h1 h2 hs) fun v σ H Q ⟨io, hp, as, xs, rl, S, r, k⟩ => by
    cases xs with
    | nil => exact k.elim
    | cons x t =>
      cases r with
      | cons r1 r2 =>
        refine ⟨_, _, rfl, io, hp, as, x, rl, S, r1, ?_⟩
        have k' : match (g x as).bind (fun s1 => gs t s1) with
          | some as' => ∀ σ', M.rel io H as' σ' → C σ σ' → Q σ' H
          | none => False := k
        cases z : g x as with
        | none =>
          rw [z] at k'
          exact k'
        | some as' =>
          rw [z] at k'
          have k2 : match gs t as' with
            | some as' => ∀ σ', M.rel io H as' σ' → C σ σ' → Q σ' H
            | none => False := k'
          intro σ' S' c1
          refine ⟨io, hp, as', t, rl, S', r2, ?_⟩
          cases z2 : gs t as' with
          | none =>
            rw [z2] at k2
            exact k2
          | some as3 =>
            rw [z2] at k2
            exact fun σ3 S3 c3 => k2 σ3 S3 (hC.tr _ _ _ c1 c3)
theorem sStar (hK : X.K = W.K) (hc : X.calm = true) (he : PE X e (tD W M E f)) (hg : PGs X es (tgGs W M anyC gs)) (hlen : (assignEach es X.env).length = i + 1 := by rfl) (hstar : (assignEach es X.env).findIdx? (·.1) = some i := by rfl)
    (hs : swapsWithSole [.Tuple es kk tpos] e pos.line X.env = pure false := by rfl) (hw : swappedStores [.Tuple es kk tpos] e X.env = pure none := by rfl)
    (h1 : (assignEach [.Tuple es kk tpos] X.env).map (·.2) = [assign (.Tuple es kk tpos) X.env] := by rfl) : PS X (.Assign [.Tuple es kk tpos] e pos) (tS W M E (dStarS i f gs)) := by
  refine ⟨fun pins s σ H D I ⟨io, hp, as, rl, S, P⟩ => ?_⟩
  refine wpAny_Assign_stores (thn (he.run pins s σ H _ I (stepS (rh := RV W) (f := f) rl S P)) fun v s1 ⟨x, H1, I1, rx, io2, hp2, a, e2, rl2, ra, P2⟩ => ?_) hs hw
  rw [h1]
  cases z : tupOf a with
  | none =>
    rw [z] at P2
    exact P2.elim
  | some xs =>
    rw [z] at P2
    dsimp only at P2
    obtain ⟨q, vs, rfl, hq, rv⟩ := tupOf_in z ra
    obtain rfl : v = Value.ref q := rx
    by_cases hz : i ≤ xs.length ∧ xs.length ≤ 10000
    · rw [if_pos hz] at P2
      rw [← hK] at hq
      obtain ⟨its, r', pt, hz'⟩ := I1.tuple hq
      have hlx : its.length = xs.length := by rw [rv.len, r'.length]
      show wpAny _ _ (assignAll (.ref q) [assign (.Tuple es kk tpos) X.env]) _ _ _
      have go : wpAny (model X.prog X.w) X.A (assign (.Tuple es kk tpos) X.env (.ref q)) (fun _ s' => ∃ σ' H', Inv X pins σ' H' s' ∧ D.nx σ' H') X.xe s1 := by
        rw [assign_Tuple]
        refine wpAny_bind (wpAny_standAt ?_)
        unfold unpack
        rw [hlen, hstar]
        refine wpAny_bind (wpAny_holding (star_unpack (items := its.toArray) pt (I1.ok.hd hc) (by simp; omega) (by simp; omega) fun h' tk he' => ?_))
        have I2 : Inv X pins σ H1 { s1 with heap := h', toks := tk } := I1.kept fun b o e => he' b o (Nat.ne_of_lt (Heap.lt_size e)) e
        have hnone : H1 h'.objs.size = none := I2.hok.fresh (Nat.le_refl _)
        have rd : Vals (vs.drop i) (its.drop i) := r'.drop i
        have hzd : (vs.drop i).length ≤ sizeLine := by rw [List.length_drop, ← rv.len, sizeLine_eq]; omega
        have I3 : Inv X pins σ (upd H1 h'.objs.size (.lst (vs.drop i))) { s1 with heap := h'.push { cls := .type "list", data := .seq (its.drop i).toArray }, toks := tk } := Inv.lnew (t' := tk) I2 rd hzd
        have e3 : Ext W io2 H1 (io2 ++ [h'.objs.size]) (upd H1 h'.objs.size (.lst (vs.drop i))) := Ext.new io2 _ hnone [h'.objs.size]
        have rl3 : Rl W (io2 ++ [h'.objs.size]) (hp2 ++ [AO.lst (xs.drop i)]) (upd H1 h'.objs.size (.lst (vs.drop i))) := rl2.new hnone (.lst ((rv.drop i).mono e3))
        have rr : RVs W (io2 ++ [h'.objs.size]) (upd H1 h'.objs.size (.lst (vs.drop i))) (xs.take i ++ [.ref hp2.length]) (vs.take i ++ [.ref h'.objs.size]) := ((rv.take i).mono e3).app (.cons (.ref (by rw [← rl2.len]; simp)) .nil)
        have rw' : Vals (vs.take i ++ [V.ref h'.objs.size]) (its.take i ++ [Value.ref h'.objs.size]) := (r'.take i).append (.cons rfl .nil)
        refine hg.run pins _ σ _ _ _ _ I3 rw' ⟨io2 ++ [h'.objs.size], hp2 ++ [AO.lst (xs.drop i)], as, xs.take i ++ [.ref hp2.length], rl3, M.mono (e2.trans e3) S, rr, ?_⟩
        cases z2 : gs (xs.take i ++ [.ref hp2.length]) as with
        | none =>
          rw [z2] at P2
          exact P2.elim
        | some s' =>
          rw [z2] at P2
          exact fun σ' S' _ => P2 _ _ _ e3 rl3 S'
      exact thn go fun _ s2 q => q
    · rw [if_neg hz] at P2
      exact P2.elim
end
end Dn
namespace Dn
open PySem PySem.Spec PyProof.Rows L2

section
variable {W : Wd} {M : Md W} {E : WX} {X : Cx} {k : Nat}
theorem ru (hr : Room k X.A) : X.A.units + 64 < cLine := by have := hr.un; omega
theorem ru5 (hr : Room k X.A) : X.A.units + 65 < cLine := by have := hr.un; omega
theorem ru1 (hr : Room k X.A) : X.A.units + 1 < cLine := by have := hr.un; omega
theorem tkE0 : Takes X E0x := fun u s' ⟨_, _, _, _, _, _, _, _, _, _, _, _, _, _, _, _, w⟩ => w.elim
theorem iD {i : Int} {j pos} : PE X (.Constant (.int i) j pos) (tD W M E (dC (.int i))) := cD pe_int fun _ _ => .int i
theorem bD0 {i : Bool} {j pos} : PE X (.Constant (.bool i) j pos) (tD W M E (dC (.bl i))) := cD pe_bl fun _ _ => .bl i
theorem sD {i : Str} {j pos} : PE X (.Constant (.str i) j pos) (tD W M E (dC (.str i))) := cD pe_str fun _ _ => .str i
theorem nD0 {j pos} : PE X (.Constant .none j pos) (tD W M E (dC .non)) := cD pe_non fun _ _ => .non
theorem vv (i : Nat) {x : Str} {pos : Pos} (hN : X.N[i]? = some x := by rfl) (hv : Vis X.env.scope x := by first | exact Or.inl rfl | exact Or.inr (Or.inl rfl) | exact Or.inr (Or.inr rfl)) (hd : (x == ("__debug__" : Str)) = false := by decide)
    (hcd : (x == ("__classdict__" : Str)) = false := by decide) : PE X (.Name x pos) (tD W M E (dVar i)) := vD (pe_var hN hv hd hcd)
end
theorem bt_len : bootBuiltins "len" = some (.builtin "len") := by decide +kernel
theorem bt_abs : bootBuiltins "abs" = some (.builtin "abs") := by decide +kernel
theorem bt_max : bootBuiltins "max" = some (.builtin "max") := by decide +kernel
theorem bt_min : bootBuiltins "min" = some (.builtin "min") := by decide +kernel
theorem bt_all : bootBuiltins "all" = some (.builtin "all") := by decide +kernel
theorem bt_sum : bootBuiltins "sum" = some (.builtin "sum") := by decide +kernel
theorem bt_repr : bootBuiltins "repr" = some (.builtin "repr") := by decide +kernel
theorem bt_sorted : bootBuiltins "sorted" = some (.builtin "sorted") := by decide +kernel
theorem bt_isinstance : bootBuiltins "isinstance" = some (.builtin "isinstance") := by decide +kernel
theorem bt_int : bootBuiltins "int" = some (.type "int") := by decide +kernel
theorem bt_str : bootBuiltins "str" = some (.type "str") := by decide +kernel
theorem bt_bool : bootBuiltins "bool" = some (.type "bool") := by decide +kernel
theorem bt_list : bootBuiltins "list" = some (.type "list") := by decide +kernel
theorem bt_tuple : bootBuiltins "tuple" = some (.type "tuple") := by decide +kernel
theorem bt_dict : bootBuiltins "dict" = some (.type "dict") := by decide +kernel
section
variable {W : Wd} {M : Md W} {E : WX} {X : Cx} {k j n m q : Nat} {ps ks : List Str} {F : DF} {x : Str} {p pos : Pos} {e : Expr} {es : List Expr} {kws : List Keyword} {fa fk : DA} {ix : List Nat} {dfl : List AV} {bs : Bs}
theorem callH (H : Has X.prog X.w X.mg X.base W j x ps n F bs) (i : Nat) (hi : bs[i]? = some (m, ks, ix, dfl)) (hq : ks.length = q) (hr : Room k X.A) (hj : j ≤ k) (hK : X.K = W.K) (tk : Takes X E)
    (ha : PA X (e :: es) (tDA W M E fa)) (hkw : PK X kws (tDA W M E fk)) (hg : Gl X x := by rfl) (hall : (backToKw pos (keywordEach kws X.env)).all (·.1.isSome) = true := by rfl) (hks : (backToKw pos (keywordEach kws X.env)).filterMap (·.1) = ks := by rfl)
    (hdb : (x == ("__debug__" : Str)) = false := by decide) (he : starEach (e :: es) X.env = (false, eval e X.env) :: starEach es X.env := by rfl)
    (hpl : ((backTo pos (starEach (e :: es) X.env)).any (·.1) || (backToKw pos (keywordEach kws X.env)).any (·.1.isNone)) = false := by rfl) :
    PE X (.Call (.Name x p) (e :: es) kws pos) (tD W M E (dCallC F m q n ix dfl fa fk)) := by
  subst hq
  obtain ⟨a, fd, h1, h2, h3, h4⟩ := H
  have h5 := h4 _ (List.mem_of_getElem? hi)
  rw [← hK] at h2 h3
  exact callD h3 hr hj h1 h2 hK h5 tk ha hkw hg hall hks hdb he hpl
end

theorem flatsB_ok : ∀ {vs : List V} {us : List Value}, flatsB vs us = true → Vals vs us
  | [], [], _ => .nil
  | v :: vs, u :: us, h => by
    obtain ⟨h1, h2⟩ := He.ba (show (He.relB v u && flatsB vs us) = true from h)
    exact .cons (He.relB_ok h1) (flatsB_ok h2)
theorem tupB_ok {K : PySem.W.Frag} {h : Heap} {mg : Str → Option Value} {x : Str} {vs : List V} (X : K.In h) (G : h.Ns mainGlobals mg) (c : tupB x vs K = true) : ∃ a, mg x = some (.ref a) ∧ ∀ H, SqT K H a vs := by
  unfold tupB at c
  cases e : PySem.W.nsIn K mainGlobals x with
  | none =>
    rw [e] at c
    cases c
  | some o =>
    rw [e] at c
    cases o with
    | none => cases c
    | some v =>
      cases v with
      | ref a =>
        dsimp only at c
        split at c
        · rename_i dd its n sl z
          obtain ⟨c1, c2⟩ := He.ba c
          refine ⟨a, PySem.W.mg_of X G e, fun H => .inr ⟨_, its, n, z, rfl, rfl, ?_, flatsB_ok c2⟩⟩
          have := of_decide_eq_true c1
          rw [sizeLine_eq]
          omega
        · cases c
      | _ => cases c

end Dn
namespace Dn
open PySem PySem.Spec PyProof.Rows L2

def putAV (o i v : AV) (h : Hep) : Option Hep := match o with
  | .ref n => match h[n]? with
    | some (.lst xs) => (match i with
      | .int k => (ixN xs.length k).map fun j => h.set n (.lst (xs.set j v))
      | _ => none)
    | some (.dK kvs) => (match keyOf i with
      | some q => if kvs.length < SZ then some (h.set n (.dK (dput kvs q v))) else none
      | none => none)
    | _ => none
  | _ => none
def dPut (fo fi fv : DE) : DS := fun s h => (fv s h).st s fun v h1 => (fo s h1).st s fun o h2 => (fi s h2).st s fun i h3 => match putAV o i v h3 with
  | some h4 => .nx s h4
  | none => .stuck
section
variable {W : Wd} {M : Md W} {E : WX} {X : Cx} {k : Nat}
theorem sPut {o i v : Expr} {fo fi fv : DE} {p pos : Pos} (hr : Room k X.A) (ho : PE X o (tD W M E fo)) (hi : PE X i (tD W M E fi)) (hv : PE X v (tD W M E fv)) (hs : swapsWith v (some (.Subscript o i p)) pos.line X.env = pure false := by rfl) :
    PS X (.Assign [.Subscript o i p] v pos) (tS W M E (dPut fo fi fv)) := by
  refine ⟨fun pins s σ H D I ⟨io, hp, as, rl, S, P⟩ => ?_⟩
  refine wpAny_Assign_Subscript (thn (hv.run pins s σ H _ I (stepS (rh := RV W) (f := fv) rl S P)) fun uv s1 ⟨xv, H1, I1, rv, io1, hp1, a1, e1, rl1, r1, P1⟩ => ?_) hs
  refine thn (ho.run pins s1 σ H1 _ I1 (stepS (rh := RV W) (f := fo) rl1 (M.mono e1 S) P1)) fun uo s2 ⟨xo, H2, I2, ro, io2, hp2, a2, e2, rl2, r2, P2⟩ => ?_
  refine thn (hi.run pins s2 σ H2 _ I2 (stepS (rh := RV W) (f := fi) rl2 (M.mono (e1.trans e2) S) P2)) fun ui s3 ⟨xi, H3, I3, ri, io3, hp3, a3, e3, rl3, r3, P3⟩ => ?_
  have S3 := M.mono ((e1.trans e2).trans e3) S
  have q2 := r2.mono e3
  have q1 := r1.mono (e2.trans e3)
  have fin : ∀ {H4 : Hp} {s4 : Shared} {h4 : Hep}, putAV a2 a3 a1 hp3 = some h4 → Ext W io3 H3 io3 H4 → Rl W io3 h4 H4 → Inv X pins σ H4 s4 → SP X pins D .next s4 := fun {H4 s4 h4} z e rl4 I4 => by
    rw [z] at P3
    exact ⟨σ, H4, I4, P3 _ _ _ e rl4 (M.mono e S3)⟩
  cases q2 with
  | @ref n p hi' =>
    have P4 : Pss W M E D io3 H3 (match putAV (.ref n) a3 a1 hp3 with
      | some h4 => .nx as h4
      | none => .stuck) := P3
    cases z : hp3[n]? with
    | none =>
      simp only [putAV, z] at P4
      exact P4.elim
    | some ob =>
      cases ob with
      | lst xs =>
        obtain ⟨vs, ev, rvs⟩ := rl3.lst hi' z
        cases r3 with
        | int i =>
          cases z2 : ixN xs.length i with
          | none =>
            simp only [putAV, z, z2] at P4
            exact P4.elim
          | some j =>
            have z3 : putAV (.ref n) (.int i) a1 hp3 = some (hp3.set n (.lst (xs.set j a1))) := by simp only [putAV, z, z2, Option.map_some]
            have eS : Ext W io3 H3 io3 (upd H3 p (.lst (vs.set j xv))) := Ext.set _ ev trivial
            refine thn (set_list pins s3 σ H3 _ _ _ _ _ _ (fun H' => H' = upd H3 p (.lst (vs.set j xv))) I3 ro ri rv ⟨p, vs, i, j, rfl, rfl, ev, by rw [← rvs.len]; exact z2, rfl⟩) fun _ s4 ⟨H4, I4, e4⟩ => ?_
            subst e4
            exact fin z3 eS (rl3.set hi' ev trivial (.lst ((rvs.set j q1).mono eS))) I4
        | _ =>
          simp only [putAV, z] at P4
          exact P4.elim
      | dK kvs =>
        obtain ⟨vs, ev, rvs⟩ := rl3.dK hi' z
        cases z2 : keyOf a3 with
        | none =>
          simp only [putAV, z, z2] at P4
          exact P4.elim
        | some q =>
          by_cases hz : kvs.length < SZ
          · have z3 : putAV (.ref n) a3 a1 hp3 = some (hp3.set n (.dK (dput kvs q a1))) := by simp only [putAV, z, z2, if_pos hz]
            have eS : Ext W io3 H3 io3 (upd H3 p (.dK (putK vs q xv))) := Ext.set _ ev trivial
            have ek := keyOf_in z2 r3
            subst ek
            refine thn (set_dict (ru1 hr) pins s3 σ H3 _ _ _ _ _ _ (fun H' => H' = upd H3 p (.dK (putK vs q xv))) I3 ro ri rv ⟨p, _, rfl, DPut.k ev (by rw [← rvs.len]; exact szT hz), rfl⟩) fun _ s4 ⟨H4, I4, e4⟩ => ?_
            subst e4
            exact fin z3 eS (rl3.set hi' ev trivial (.dK ((RKs.put q q1 rvs).mono eS))) I4
          · simp only [putAV, z, z2, if_neg hz] at P4
            exact P4.elim
      | _ =>
        simp only [putAV, z] at P4
        exact P4.elim
  | _ => exact P3.elim

/-- isinstance by the law's table of classes -/
theorem cIsiE {ct : CT} (hK : X.K = W.K) (hW : W.ct = ct) : CallR X (.builtin "isinstance") (tl W (isiL ct)) := by
  subst hW
  exact cIsi hK
end
def blkB (N : List Str) (sc scope : Scope) (own : List (Str × Nat)) : Bool :=
  decide (scope.kind = .function) && ((scope.names.all fun y => decide (scope.names.lookup y.1 = some y.2)) && ((own.all fun p => decide (N[p.2]? = some p.1)) &&
    ((scope.names.all fun y => !decide (y.2 = .free) || (decide (sc.names.lookup y.1 = some .cell) || decide (sc.names.lookup y.1 = some .free))) &&
      scope.names.all fun y => !(decide (y.2 = .local) || decide (y.2 = .cell)) || (decide (y.1 ∈ own.map (·.1)) || decide (y.1 ∉ N)))))
theorem blkOk {N : List Str} {sc scope : Scope} {own : List (Str × Nat)} (h : blkB N sc scope own = true) : BlkOk N sc scope own := by
  obtain ⟨h1, h⟩ := He.ba h
  obtain ⟨h2, h⟩ := He.ba h
  obtain ⟨h3, h⟩ := He.ba h
  obtain ⟨h4, h5⟩ := He.ba h
  rw [List.all_eq_true] at h2 h3 h4 h5
  refine ⟨of_decide_eq_true h1, fun y hy => of_decide_eq_true (h2 y hy), fun p hp => of_decide_eq_true (h3 p hp), fun y hy e => ?_, fun y hy e => ?_⟩
  · have z := h4 y hy
    simpa [e] using z
  · have z := h5 y hy
    have e' : (decide (y.2 = .local) || decide (y.2 = .cell)) = true := by simpa using e
    rw [e'] at z
    simpa using z

theorem cdB_ok {K : PySem.W.Frag} (h : cdB K = true) : PySem.W.specialIn K (.builtin "object.__class__") "__get__" = some (some (.builtin "getset_descriptor.__get__")) := He.eqO_ok h
theorem ckB_ok {K : PySem.W.Frag} (h : ckB K = true) : PySem.W.takesIn K (.builtin "object.__class__") = some true := of_decide_eq_true h
end Dn
namespace Dn
open PySem

/-- it comes to a value, of which Q stands -/
def wE {T : Type} (r : R T) (Q : T → Hep → Prop) : Prop := ∃ a h, r = .ok a h ∧ Q a h
/-- it goes on, or returns -/
def wS (r : SR) (N : Sl → Hep → Prop) (V : AV → Hep → Prop) : Prop := match r with
  | .nx s h => N s h
  | .rt v h => V v h
  | _ => False
@[simp] theorem wE_ok {T : Type} {a : T} {h : Hep} {Q : T → Hep → Prop} : wE (.ok a h) Q ↔ Q a h := ⟨fun ⟨_, _, e, q⟩ => (by cases e; exact q), fun q => ⟨_, _, rfl, q⟩⟩
@[simp] theorem wE_bind {T U : Type} {r : R T} {k : T → Hep → R U} {Q : U → Hep → Prop} : wE (r.bind k) Q ↔ wE r fun a h => wE (k a h) Q := by
  constructor
  · rintro ⟨b, h, e, q⟩
    cases r with
    | ok a h1 => exact ⟨a, h1, rfl, b, h, e, q⟩
    | exc t fs h1 => cases e
    | stuck => cases e
  · rintro ⟨a, h, e, b, h2, e2, q⟩
    subst e
    exact ⟨b, h2, e2, q⟩
@[simp] theorem wE_noX {T : Type} {r : R T} {Q : T → Hep → Prop} : wE r.noX Q ↔ wE r Q := by
  cases r <;> simp [R.noX, wE]
@[simp] theorem wE_stuck {T : Type} {Q : T → Hep → Prop} : wE (.stuck : R T) Q ↔ False := ⟨fun ⟨_, _, e, _⟩ => (by cases e), fun h => h.elim⟩
@[simp] theorem wE_exc {T : Type} {t : Nat} {fs : List (Nat × AV)} {h : Hep} {Q : T → Hep → Prop} : wE (.exc t fs h : R T) Q ↔ False := ⟨fun ⟨_, _, e, _⟩ => (by cases e), fun h => h.elim⟩
@[simp] theorem wE_of {T : Type} {o : Op T} {Q : T → Hep → Prop} : wE (R.of o) Q ↔ ∃ a h, o = some (a, h) ∧ Q a h := by
  cases o with
  | none => simp [R.of]
  | some p =>
    obtain ⟨a, h⟩ := p
    show wE (.ok a h) Q ↔ _
    rw [wE_ok]
    exact ⟨fun q => ⟨a, h, rfl, q⟩, fun ⟨_, _, e, q⟩ => by cases e; exact q⟩
@[simp] theorem wS_nx {s : Sl} {h : Hep} {N : Sl → Hep → Prop} {V : AV → Hep → Prop} : wS (.nx s h) N V ↔ N s h := Iff.rfl
@[simp] theorem wS_rt {v : AV} {h : Hep} {N : Sl → Hep → Prop} {V : AV → Hep → Prop} : wS (.rt v h) N V ↔ V v h := Iff.rfl
@[simp] theorem wS_then {r : SR} {k : Sl → Hep → SR} {N : Sl → Hep → Prop} {V : AV → Hep → Prop} : wS (r.then k) N V ↔ wS r (fun s h => wS (k s h) N V) V := by
  cases r <;> simp [SR.then, wS]
@[simp] theorem wS_st {T : Type} {r : R T} {s : Sl} {k : T → Hep → SR} {N : Sl → Hep → Prop} {V : AV → Hep → Prop} : wS (R.st r s k) N V ↔ wE r fun a h => wS (k a h) N V := by
  cases r <;> simp [R.st, wS]
theorem Fr.new {ex : List Nat} {h : Hep} {o : AO} : Fr ex h (h ++ [o]) := ⟨by simp, fun i hi _ => List.getElem?_append_left hi⟩
theorem Fr.app {ex : List Nat} {h g : Hep} : Fr ex h (h ++ g) := ⟨by simp, fun i hi _ => List.getElem?_append_left hi⟩
theorem lt_of {h : Hep} {i : Nat} {o : AO} (e : h[i]? = some o) : i < h.length := (List.getElem?_eq_some_iff.mp e).1

section
variable {T U : Type} {a : T} {h h1 : Hep} {s s1 : Sl} {t : Nat} {fs : List (Nat × AV)} {v : AV}
@[simp] theorem R.bind_ok {k : T → Hep → R U} : (R.ok a h).bind k = k a h := rfl
@[simp] theorem R.bind_exc {k : T → Hep → R U} : (R.exc t fs h : R T).bind k = .exc t fs h := rfl
@[simp] theorem R.bind_stuck {k : T → Hep → R U} : (R.stuck : R T).bind k = .stuck := rfl
@[simp] theorem R.of_some : R.of (some (a, h)) = .ok a h := rfl
@[simp] theorem R.of_none : R.of (none : Op T) = .stuck := rfl
@[simp] theorem R.st_ok {k : T → Hep → SR} : (R.ok a h).st s k = k a h := rfl
@[simp] theorem R.st_exc {k : T → Hep → SR} : (R.exc t fs h : R T).st s k = .exc t fs s h := rfl
@[simp] theorem R.st_stuck {k : T → Hep → SR} : (R.stuck : R T).st s k = .stuck := rfl
@[simp] theorem R.noX_ok : (R.ok a h).noX = .ok a h := rfl
@[simp] theorem SR.then_nx {k : Sl → Hep → SR} : (SR.nx s h).then k = k s h := rfl
@[simp] theorem SR.then_rt {k : Sl → Hep → SR} : (SR.rt v h).then k = .rt v h := rfl
@[simp] theorem SR.then_bk {k : Sl → Hep → SR} : (SR.bk s h).then k = .bk s h := rfl
@[simp] theorem SR.then_ct {k : Sl → Hep → SR} : (SR.ct s h).then k = .ct s h := rfl
@[simp] theorem SR.then_exc {k : Sl → Hep → SR} : (SR.exc t fs s h).then k = .exc t fs s h := rfl
@[simp] theorem SR.then_stuck {k : Sl → Hep → SR} : SR.stuck.then k = .stuck := rfl
@[simp] theorem SR.loop_nx {k : Sl → Hep → SR} : (SR.nx s h).loop k = k s h := rfl
@[simp] theorem SR.loop_ct {k : Sl → Hep → SR} : (SR.ct s h).loop k = k s h := rfl
@[simp] theorem SR.loop_bk {k : Sl → Hep → SR} : (SR.bk s h).loop k = .nx s h := rfl
@[simp] theorem SR.loop_rt {k : Sl → Hep → SR} : (SR.rt v h).loop k = .rt v h := rfl
@[simp] theorem SR.fin_nx : (SR.nx s h).fin = .ok .non h := rfl
@[simp] theorem SR.fin_rt : (SR.rt v h).fin = .ok v h := rfl
@[simp] theorem SR.fin_exc : (SR.exc t fs s h).fin = .exc t fs h := rfl
variable {f g k : DE} {c d : DT} {x y : DS} {fa ga : DA} {r r' : D2} {u : D1} {l : DL} {i j m n q : Nat} {b : Bool} {gt : DG} {gs : DGs} {F : DF} {ix : List Nat} {dfl : List AV} {lo hi : DO} {ty : String} {dm : DMt}
@[simp] theorem xSkip : dSkip s h = .nx s h := rfl
@[simp] theorem xSeq : dSeq x y s h = (x s h).then y := rfl
@[simp] theorem xDrop : dDrop f s h = (f s h).st s fun _ h1 => .nx s h1 := rfl
@[simp] theorem xRet : dRet f s h = (f s h).st s fun v h1 => .rt v h1 := rfl
@[simp] theorem xSet : dSet i f s h = (f s h).st s fun v h1 => .nx (s.set i (some v)) h1 := rfl
theorem xIfS0 : dIfS c x y s h = (c s h).st s fun b h1 => match b with
  | true => x s h1
  | false => y s h1 := rfl
@[simp] theorem xIfS : dIfS c x y s h = (c s h).st s fun b h1 => if b = true then x s h1 else y s h1 := by
  rw [xIfS0]
  congr
  funext b h1
  cases b <;> rfl
@[simp] theorem nx_int {i : Int} : (AV.int i).nx = true := rfl
@[simp] theorem nx_bl {i : Bool} : (AV.bl i).nx = true := rfl
@[simp] theorem nx_str {i : Str} : (AV.str i).nx = true := rfl
@[simp] theorem nx_non : AV.non.nx = true := rfl
@[simp] theorem nx_tup {i : List AV} : (AV.tup i).nx = true := rfl
@[simp] theorem nx_rol {i : List AV} : (AV.rol i).nx = true := rfl
@[simp] theorem nx_ref {i : Nat} : (AV.ref i).nx = true := rfl
@[simp] theorem nx_adr {i : Addr} : (AV.adr i).nx = true := rfl
@[simp] theorem nx_ty {i : String} : (AV.ty i).nx = true := rfl
@[simp] theorem nx_cls {i : Nat} : (AV.cls i).nx = true := rfl
@[simp] theorem nx_exi {i : Nat} : (AV.exi i).nx = true := rfl
@[simp] theorem nx_ndc {v : AV} : (AV.ndc v).nx = true := rfl
def getV (o : Option (Option AV)) (h : Hep) : R AV := match o with
  | some (some v) => if v.nx = true then .ok v h else .stuck
  | _ => .stuck
@[simp] theorem getV_some : getV (some (some v)) h = if v.nx = true then .ok v h else .stuck := rfl
@[simp] theorem getV_none : getV (some none) h = .stuck := rfl
@[simp] theorem getV_no : getV none h = .stuck := rfl
@[simp] theorem xVar : dVar i s h = getV s[i]? h := by
  unfold dVar getV
  cases s[i]? with
  | none => rfl
  | some o =>
    cases o with
    | none => rfl
    | some w => cases w <;> rfl
@[simp] theorem xC : dC v s h = .ok v h := rfl
@[simp] theorem xOp : dOp r f g s h = (f s h).bind fun a h1 => (g s h1).bind fun b h2 => R.of (r a b h2) := rfl
@[simp] theorem xCB : dCB l fa s h = (fa s h).bind fun a h1 => R.of (l a h1) := rfl
@[simp] theorem xNil : dNil s h = .ok [] h := rfl
@[simp] theorem xCons : dCons f fa s h = (f s h).bind fun a h1 => (fa s h1).bind fun b h2 => .ok (a :: b) h2 := rfl
def asB (a : AV) (h : Hep) : R Bool := match a with
  | .bl b => .ok b h
  | _ => .stuck
@[simp] theorem asB_bl : asB (.bl b) h = .ok b h := rfl
@[simp] theorem xTst : dTst f s h = (f s h).bind asB := by
  unfold dTst asB
  rfl
@[simp] theorem xAnd : dAnd c d s h = (c s h).bind fun b h1 => if b = true then d s h1 else .ok false h1 := by
  unfold dAnd
  congr
  funext b h1
  cases b <;> rfl
@[simp] theorem xOr : dOr c d s h = (c s h).bind fun b h1 => if b = true then .ok true h1 else d s h1 := by
  unfold dOr
  congr
  funext b h1
  cases b <;> rfl
@[simp] theorem xNot : dNot c s h = (c s h).bind fun b h1 => .ok (!b) h1 := rfl
@[simp] theorem xIf : dIf c f g s h = (c s h).bind fun b h1 => if b = true then f s h1 else g s h1 := by
  unfold dIf
  congr
  funext b h1
  cases b <;> rfl
def andK (g : DE) (s : Sl) (a : AV) (h : Hep) : R AV := match a with
  | .bl true => g s h
  | .bl false => .ok (.bl false) h
  | _ => .stuck
def orK (g : DE) (s : Sl) (a : AV) (h : Hep) : R AV := match a with
  | .bl true => .ok (.bl true) h
  | .bl false => g s h
  | _ => .stuck
@[simp] theorem andK_bl : andK g s (.bl b) h = if b = true then g s h else .ok (.bl false) h := by cases b <;> rfl
@[simp] theorem orK_bl : orK g s (.bl b) h = if b = true then .ok (.bl true) h else g s h := by cases b <;> rfl
@[simp] theorem xAndV : dAndV f g s h = (f s h).bind (andK g s) := by
  unfold dAndV andK
  rfl
@[simp] theorem xOrV : dOrV f g s h = (f s h).bind (orK g s) := by
  unfold dOrV orK
  rfl
def notK (a : AV) (h : Hep) : R AV := match a with
  | .bl b => .ok (.bl (!b)) h
  | _ => .stuck
@[simp] theorem notK_bl : notK (.bl b) h = .ok (.bl (!b)) h := rfl
@[simp] theorem xNotV : dNotV f s h = (f s h).bind notK := by
  unfold dNotV notK
  rfl
def chnK (k : DE) (s : Sl) (r' : D2) (y z : AV) (h : Hep) : R AV := match z with
  | .bl true => (k s h).bind fun c h4 => R.of (r' y c h4)
  | .bl false => .ok (.bl false) h
  | _ => .stuck
@[simp] theorem chnK_bl {y : AV} : chnK k s r' y (.bl b) h = if b = true then (k s h).bind fun c h4 => R.of (r' y c h4) else .ok (.bl false) h := by cases b <;> rfl
@[simp] theorem xChn : dChn r r' f g k s h = (f s h).bind fun a h1 => (g s h1).bind fun b h2 => (R.of (r a b h2)).bind fun z h3 => chnK k s r' b z h3 := by
  unfold dChn chnK
  rfl
@[simp] theorem xLst : dLst fa s h = (fa s h).bind fun xs h1 => R.of (mkL xs h1) := rfl
@[simp] theorem xTup : dTup fa s h = (fa s h).bind fun xs h1 => R.of (mkT xs h1) := rfl
def slK (o : Option Sl) (h : Hep) : SR := match o with
  | some s' => .nx s' h
  | none => .stuck
@[simp] theorem slK_some : slK (some s) h = .nx s h := rfl
@[simp] theorem slK_none : slK none h = .stuck := rfl
@[simp] theorem xAsg : dAsg f gt s h = (f s h).st s fun v h1 => slK (gt v s) h1 := by
  unfold dAsg slK
  rfl
def tupK (gs : DGs) (s : Sl) (o : Option (List AV)) : Option Sl := match o with
  | some xs => gs xs s
  | none => none
@[simp] theorem tupK_some {xs : List AV} : tupK gs s (some xs) = gs xs s := rfl
@[simp] theorem xgN {v : AV} : dgN i v s = some (s.set i (some v)) := rfl
@[simp] theorem xgT {v : AV} : dgT gs v s = tupK gs s (tupOf v) := by
  unfold dgT tupK
  rfl
@[simp] theorem xg0 : dg0 [] s = some s := rfl
@[simp] theorem xgC {w : AV} {ws : List AV} : dgC gt gs (w :: ws) s = (gt w s).bind fun s1 => gs ws s1 := rfl
@[simp] theorem tupOf_tup {xs : List AV} : tupOf (.tup xs) = some xs := rfl
def par2K (i j : Nat) (s : Sl) (xs : List AV) (h : Hep) : SR := match xs with
  | [a, b] => .nx ((s.set i (some a)).set j (some b)) h
  | _ => .stuck
@[simp] theorem par2K_two {a b : AV} : par2K i j s [a, b] h = .nx ((s.set i (some a)).set j (some b)) h := rfl
@[simp] theorem xPar2 : dPar2 i j fa s h = (fa s h).st s fun xs h1 => par2K i j s xs h1 := by
  unfold dPar2 par2K
  rfl
@[simp] theorem xCall {fk : DA} : dCallC F n m q ix dfl fa fk s h = (fa s h).bind fun a h1 => (fk s h1).bind fun b h2 => if a.length = n ∧ b.length = m ∧ (sel ix (a ++ dfl ++ b)).length = q then F (sel ix (a ++ dfl ++ b)) h2 else .stuck := rfl
@[simp] theorem sel_nil {α : Type} {xs : List α} : sel [] xs = [] := rfl
@[simp] theorem sel_cons {α : Type} {xs : List α} : sel (i :: ix) xs = match xs[i]? with
  | some x => x :: sel ix xs
  | none => sel ix xs := by
  unfold sel
  rw [List.filterMap_cons]
  cases xs[i]? <;> rfl
@[simp] theorem xMt : dMt ty dm f fa s h = (f s h).bind fun a h1 => if tyA ty h1 a = true then (fa s h1).bind fun b h2 => R.of (dm a b h2) else .stuck := by
  unfold dMt
  rfl
def putK1 (s : Sl) (o : Option Hep) : SR := match o with
  | some h4 => .nx s h4
  | none => .stuck
@[simp] theorem putK1_some : putK1 s (some h) = .nx s h := rfl
@[simp] theorem xPut : dPut f g k s h = (k s h).st s fun v h1 => (f s h1).st s fun o h2 => (g s h2).st s fun i h3 => putK1 s (putAV o i v h3) := by
  unfold dPut putK1
  rfl
@[simp] theorem xNoP : dNoP s h = .ok none h := rfl
def prtK (a : AV) (h : Hep) : R (Option Int) := match a with
  | .int i => .ok (some i) h
  | _ => .stuck
@[simp] theorem prtK_int {i : Int} : prtK (.int i) h = .ok (some i) h := rfl
@[simp] theorem xPrt : dPrt f s h = (f s h).bind prtK := by
  unfold dPrt prtK
  rfl
@[simp] theorem xSlc : dSlc f lo hi s h = (f s h).bind fun a h1 => (lo s h1).bind fun l h2 => (hi s h2).bind fun u h3 => R.of (sliceAV a l u h3) := rfl
end

theorem lt1000 {n : Nat} (h : n < 2 ^ 200) : (n < 2 ^ 1000) = True := eq_true (Nat.lt_of_lt_of_le h (Nat.pow_le_pow_right (by decide) (by decide)))
theorem mulOk_l {i j : Int} (h1 : -(2 ^ 64) < i) (h2 : i < 2 ^ 64) : mulOk i j = true := by
  unfold mulOk
  rw [decide_eq_true (⟨h1, h2⟩ : -(2 ^ 64) < i ∧ i < 2 ^ 64), Bool.true_or]
theorem mulOk_r {i j : Int} (h1 : -(2 ^ 64) < j) (h2 : j < 2 ^ 64) : mulOk i j = true := by
  unfold mulOk
  rw [decide_eq_true (⟨h1, h2⟩ : -(2 ^ 64) < j ∧ j < 2 ^ 64), Bool.true_or, Bool.or_true]
section
variable {h : Hep} {i j : Int}
@[simp] theorem add_ii : addAV (.int i) (.int j) h = some (.int (i + j), h) := rfl
@[simp] theorem sub_ii : subAV (.int i) (.int j) h = some (.int (i - j), h) := rfl
@[simp] theorem mul_ii : mulAV (.int i) (.int j) h = if mulOk i j = true then some (.int (i * j), h) else none := rfl
@[simp] theorem fdiv_ii : fdivAV (.int i) (.int j) h = if 0 < j ∧ j < 1073741824 then some (.int (i / j), h) else none := rfl
@[simp] theorem mod_ii : modAV (.int i) (.int j) h = if 0 < j then some (.int (i % j), h) else none := rfl
theorem pow_ii (h0 : 0 ≤ j) (h1 : j ≤ 100) (h2 : i.natAbs < 2 ^ 200) : powAV (.int i) (.int j) h = some (.int (i ^ j.toNat), h) := by
  show (if 0 ≤ j ∧ j ≤ 100 ∧ i.natAbs < 2 ^ 1000 then some (AV.int (i ^ j.toNat), h) else none) = _
  rw [if_pos ⟨h0, h1, by rw [lt1000 h2]; trivial⟩]
@[simp] theorem lt_ii : ltAV (.int i) (.int j) h = some (.bl (decide (i < j)), h) := rfl
@[simp] theorem le_ii : leAV (.int i) (.int j) h = some (.bl (decide (i ≤ j)), h) := rfl
@[simp] theorem gt_ii : gtAV (.int i) (.int j) h = some (.bl (decide (j < i)), h) := rfl
@[simp] theorem ge_ii : geAV (.int i) (.int j) h = some (.bl (decide (j ≤ i)), h) := rfl
end
/-- items of a list at a place -/
theorem idx_lst {h : Hep} {n : Nat} {xs : List AV} {i : Int} {v : AV} (e : h[n]? = some (.lst xs)) (k : L2.atI xs i = some v) : idxAV (.ref n) (.int i) h = some (v, h) := by
  simp [idxAV, seqOf, tupOf, lstOf, e, k]
theorem idx_tup {h : Hep} {xs : List AV} {i : Int} {v : AV} (k : L2.atI xs i = some v) : idxAV (.tup xs) (.int i) h = some (v, h) := by
  simp [idxAV, seqOf, tupOf, k]
theorem idx_rol {h : Hep} {xs : List AV} {i : Int} {v : AV} (k : L2.atI xs i = some v) : idxAV (.rol xs) (.int i) h = some (v, h) := by
  simp [idxAV, seqOf, tupOf, lstOf, k]
theorem atI_nat {α : Type} {xs : List α} {n : Nat} {v : α} (e : xs[n]? = some v) : L2.atI xs (n : Int) = some v := by
  obtain ⟨hl, _⟩ := List.getElem?_eq_some_iff.mp e
  unfold L2.atI L2.ixN
  rw [if_pos (by omega), if_pos (by omega)]
  simpa using e
theorem put_lst {h : Hep} {n j : Nat} {xs : List AV} {v : AV} (e : h[n]? = some (.lst xs)) (hj : j < xs.length) : putAV (.ref n) (.int j) v h = some (h.set n (.lst (xs.set j v))) := by
  have : L2.ixN xs.length (j : Int) = some j := by
    unfold L2.ixN
    rw [if_pos (by omega), if_pos (by omega)]
    simp
  simp [putAV, e, this]
@[simp] theorem SZ_eq : SZ = 1000000 := rfl
theorem eq_ii {h : Hep} {i j : Int} : eqAV (.int i) (.int j) h = some (.bl (decide (i = j)), h) := by
  show ((if SeqAt.shaped (.int i) = true ∧ SeqAt.shaped (.int j) = true then some (PyData.eqv (.int i) (.int j)) else none).map fun c => (AV.bl c, h)) = _
  rw [if_pos ⟨rfl, rfl⟩]
  simp [PyData.eqv]
  rfl
/-- behind the heap's end nothing stands -/
theorem Fr.drop {ex : List Nat} {h h' : Hep} (f : Fr ex h h') (k : ∀ i ∈ ex, h.length ≤ i) : Fr [] h h' := f.mono fun i hi he => absurd hi (Nat.not_lt.mpr (k i he))
theorem two62 : (1000000 : Int) < 2 ^ 62 := by decide
theorem in_bounds {i : Int} (h0 : -1000000 ≤ i) (h1 : i ≤ 1000000) (B : Int) (a : (1000000 : Int) < B) : -B ≤ i ∧ i < B := by omega
theorem dRg1_eq {fa : DA} {s : Sl} {h h1 : Hep} {j : Int} (e : fa s h = .ok [.int j] h1) : dRg1 fa s h = if -(2 ^ 62) ≤ j ∧ j < 2 ^ 62 then .ok (.fix (rngL 0 j.toNat)) h1 else .stuck := by
  unfold dRg1
  rw [e]
  rfl
theorem rg1_ok {fa : DA} {s : Sl} {h h1 : Hep} {j : Int} {n : Nat} (e : fa s h = .ok [.int j] h1) (hj : j = n) (hn : n ≤ 1000000) : dRg1 fa s h = .ok (.fix (rngL 0 n)) h1 := by
  subst hj
  rw [dRg1_eq e, if_pos (in_bounds (by omega) (by omega) _ two62), Int.toNat_natCast]
@[simp] theorem rngL_length {lo : Int} {n : Nat} : (rngL lo n).length = n := by simp [rngL]

/-- data that may be compared -/
def DOk (d : PyData) : Prop := d.canLay0 = true ∧ d.depth < 50
theorem eqD_dr {h : Hep} {a b : AV} {d e : PyData} (ra : Dr h a d) (rb : Dr h b e) (o1 : DOk d) (o2 : DOk e) : eqD a b h = some (PyData.eqv d e) := by
  unfold eqD
  rw [toD_dr ra DD (by have := o1.2; have z : DD = 50 := rfl; omega), toD_dr rb DD (by have := o2.2; have z : DD = 50 := rfl; omega)]
  dsimp only
  rw [if_pos]
  constructor
  · unfold SeqAt.shaped
    rw [o1.1, decide_eq_true (by have := o1.2; omega)]
    rfl
  · unfold SeqAt.shaped
    rw [o2.1, decide_eq_true (by have := o2.2; omega)]
    rfl
theorem eqAV_dr {h : Hep} {a b : AV} {d e : PyData} (ra : Dr h a d) (rb : Dr h b e) (o1 : DOk d) (o2 : DOk e) : eqAV a b h = some (.bl (PyData.eqv d e), h) := by
  unfold eqAV
  rw [eqD_dr ra rb o1 o2]
  rfl
theorem neAV_dr {h : Hep} {a b : AV} {d e : PyData} (ra : Dr h a d) (rb : Dr h b e) (o1 : DOk d) (o2 : DOk e) : neAV a b h = some (.bl (!PyData.eqv d e), h) := by
  unfold neAV
  rw [eqD_dr ra rb o1 o2]
  rfl
theorem dOk_str {x : Str} (h : PyData.strOk x = true) : DOk (.str x) := ⟨by rw [PyData.canLay0]; exact h, by rw [PyData.depth]; decide⟩
theorem ne_st {h : Hep} {x y : Str} {b : Bool} (o1 : PyData.strOk x = true) (o2 : PyData.strOk y = true) (e : (!(x == y)) = b) : neAV (.str x) (.str y) h = some (.bl b, h) := by
  rw [neAV_dr (.str x) (.str y) (dOk_str o1) (dOk_str o2), PyData.eqv, e]
theorem cut_tail {xs : List AV} {k : Nat} : cutA xs (some (k : Int)) none = xs.drop k := by
  unfold cutA
  rw [HT.sIx_none, HT.sIx_nat]
  rcases Nat.lt_or_ge k xs.length with h | h
  · rw [Nat.min_eq_left (by omega), List.take_of_length_le (by simp)]
  · rw [Nat.min_eq_right h, List.drop_of_length_le (Nat.le_refl _), List.drop_of_length_le h, List.take_nil]
theorem cut_head {xs : List AV} {k : Nat} : cutA xs none (some (k : Int)) = xs.take k := by
  unfold cutA
  rw [HT.sIx_none, HT.sIx_nat, List.drop_zero, Nat.sub_zero]
  rcases Nat.lt_or_ge k xs.length with h | h
  · rw [Nat.min_eq_left (by omega)]
  · rw [Nat.min_eq_right h, List.take_of_length_le h, List.take_of_length_le (Nat.le_refl _)]
theorem len_ref {h : Hep} {n : Nat} {xs : List AV} (e : h[n]? = some (.lst xs)) : lenL [.ref n] h = some (.int (xs.length : Nat), h) := by
  simp [lenL, lenA, e]
theorem mkL_ok {h : Hep} {xs : List AV} (hz : xs.length ≤ SZ) : mkL xs h = some (.ref h.length, h ++ [AO.lst xs]) := if_pos hz
theorem seq_ref {h : Hep} {n : Nat} {xs : List AV} (e : h[n]? = some (.lst xs)) : seqOf h (.ref n) = some xs := by
  simp [seqOf, tupOf, lstOf, e]
@[simp] theorem new_at {h : Hep} {o : AO} : (h ++ [o])[h.length]? = some o := by simp
def starS (i : Nat) (g : DGs) (s : Sl) (o : Option (List AV)) (h1 : Hep) : SR := match o with
  | some xs => if i ≤ xs.length ∧ xs.length ≤ 10000 then slK1 (g (xs.take i ++ [.ref h1.length]) s) (h1 ++ [AO.lst (xs.drop i)]) else .stuck
  | none => .stuck
where slK1 (o : Option Sl) (h : Hep) : SR := match o with
  | some s' => .nx s' h
  | none => .stuck
@[simp] theorem starS_some {i : Nat} {g : DGs} {s : Sl} {xs : List AV} {h1 : Hep} : starS i g s (some xs) h1 = if i ≤ xs.length ∧ xs.length ≤ 10000 then starS.slK1 (g (xs.take i ++ [.ref h1.length]) s) (h1 ++ [AO.lst (xs.drop i)]) else .stuck := rfl
@[simp] theorem slK1_some {s : Sl} {h : Hep} : starS.slK1 (some s) h = .nx s h := rfl
@[simp] theorem xStarS {i : Nat} {f : DE} {g : DGs} {s : Sl} {h : Hep} : dStarS i f g s h = (f s h).st s fun v h1 => starS i g s (tupOf v) h1 := by
  unfold dStarS starS starS.slK1
  rfl
theorem mk_new (xs : List AV) (h : Hep) (hz : xs.length ≤ 1000000) : ∃ m g, mkL xs h = some (.ref m, g) ∧ Fr [] h g ∧ h.length ≤ m ∧ g[m]? = some (.lst xs) := ⟨_, _, mkL_ok hz, Fr.app, Nat.le_refl _, new_at⟩
theorem app_ok {h : Hep} {n : Nat} {xs : List AV} {x : AV} (e : h[n]? = some (.lst xs)) (hz : xs.length < 1000000) : mAppend (.ref n) [x] h = some (.non, h.set n (.lst (xs ++ [x]))) := by
  have hl : lstAt h (.ref n) = some (n, xs) := by simp [lstAt, e]
  unfold mAppend
  rw [hl]
  exact if_pos hz
theorem tyA_lst {h : Hep} {n : Nat} {xs : List AV} (e : h[n]? = some (.lst xs)) : tyA "list" h (.ref n) = true := by
  simp [tyA, e]
theorem loop_fix {xs : List AV} {g : DG} {body : DS} (I : Nat → Sl → Hep → Prop) (step : ∀ i s h x, xs[i]? = some x → I i s h → ∃ s1 s2 h2, g x s = some s1 ∧ (body s1 h = .nx s2 h2 ∨ body s1 h = .ct s2 h2) ∧ I (i + 1) s2 h2) :
    ∀ (k i : Nat) (s : Sl) (h : Hep), k + i = xs.length → I i s h → ∃ s' h', dLoop (.fix xs) g body (k + 1) i s h = .nx s' h' ∧ I xs.length s' h'
  | k, i, s, h, e, hI => by
    cases z : xs[i]? with
    | none =>
      have hi := List.getElem?_eq_none_iff.mp z
      have : i = xs.length := by omega
      subst this
      refine ⟨s, h, ?_, hI⟩
      simp only [dLoop, Src.next, z]
    | some x =>
      obtain ⟨hi, _⟩ := List.getElem?_eq_some_iff.mp z
      obtain ⟨k, rfl⟩ : ∃ m, k = m + 1 := ⟨k - 1, by omega⟩
      obtain ⟨s1, s2, h2, e1, e2, hI2⟩ := step i s h x z hI
      obtain ⟨s', h', r1, r2⟩ := loop_fix I step k (i + 1) s2 h2 (by omega) hI2
      refine ⟨s', h', ?_, r2⟩
      unfold dLoop
      simp only [Src.next, z, e1]
      rcases e2 with e2 | e2
      · rw [e2]
        exact r1
      · rw [e2]
        exact r1
theorem for_fix {f : DI} {xs : List AV} {g : DG} {body : DS} {s : Sl} {h h1 : Hep} (I : Nat → Sl → Hep → Prop) (ef : f s h = .ok (.fix xs) h1) (h0 : I 0 s h1)
    (step : ∀ i s h x, xs[i]? = some x → I i s h → ∃ s1 s2 h2, g x s = some s1 ∧ (body s1 h = .nx s2 h2 ∨ body s1 h = .ct s2 h2) ∧ I (i + 1) s2 h2) : ∃ s' h', dFor f g body s h = .nx s' h' ∧ I xs.length s' h' := by
  obtain ⟨s', h', e, r⟩ := loop_fix I step xs.length 0 s h1 (by omega) h0
  refine ⟨s', h', ?_, r⟩
  unfold dFor
  rw [ef]
  exact e
end Dn
namespace Dn
open PySem
theorem lcL_if {src : Src} {xs : List AV} {g : DG} {tt : DT} {te : DE} {D : Nat} {s0 : Sl} (I : Nat → List AV → Hep → Prop) (hx : xs.length ≤ 100000) (hs : ∀ i acc h, I i acc h → src.next i h = some xs[i]?)
    (step : ∀ i acc h x, xs[i]? = some x → I i acc h → h[D]? = some (.lst acc) → ∃ s1, g x s0 = some s1 ∧ ((∃ h1, tt s1 h = .ok false h1 ∧ h1[D]? = some (.lst acc) ∧ I (i + 1) acc h1) ∨
      ∃ h1 y h2, tt s1 h = .ok true h1 ∧ te s1 h1 = .ok y h2 ∧ h2[D]? = some (.lst acc) ∧ I (i + 1) (acc ++ [y]) (h2.set D (.lst (acc ++ [y]))))) :
    ∀ (k i : Nat) (acc : List AV) (h : Hep), k + i = xs.length → I i acc h → h[D]? = some (.lst acc) → acc.length ≤ i → ∃ acc' h', dLcL src g tt te D s0 (k + 1) i h = .ok (.ref D) h' ∧ I xs.length acc' h' ∧ h'[D]? = some (.lst acc') ∧ acc'.length ≤ xs.length
  | k, i, acc, h, e, hI, hD, hl => by
    have hn := hs i acc h hI
    cases z : xs[i]? with
    | none =>
      have hi := List.getElem?_eq_none_iff.mp z
      have : i = xs.length := by omega
      subst this
      rw [z] at hn
      refine ⟨acc, h, ?_, hI, hD, hl⟩
      simp only [dLcL, hn]
    | some x =>
      obtain ⟨hi, _⟩ := List.getElem?_eq_some_iff.mp z
      obtain ⟨k, rfl⟩ : ∃ m, k = m + 1 := ⟨k - 1, by omega⟩
      rw [z] at hn
      obtain ⟨s1, e1, c⟩ := step i acc h x z hI hD
      rcases c with ⟨h1, e2, e3, hI2⟩ | ⟨h1, y, h2, e2, e4, e3, hI2⟩
      · obtain ⟨acc', h', r1, r2, r3, r4⟩ := lcL_if I hx hs step k (i + 1) acc h1 (by omega) hI2 e3 (by omega)
        refine ⟨acc', h', ?_, r2, r3, r4⟩
        unfold dLcL
        simp only [hn, e1, e2, R.noX_ok, R.bind_ok]
        exact r1
      · have hz : acc.length < SZ := by
          have : SZ = 1000000 := rfl
          omega
        have e5 : addAt D y h2 = some (h2.set D (.lst (acc ++ [y]))) := by
          unfold addAt
          rw [e3]
          exact if_pos hz
        have hD2 : (h2.set D (.lst (acc ++ [y])))[D]? = some (.lst (acc ++ [y])) := by
          rw [List.getElem?_set_self (lt_of e3)]
        obtain ⟨acc', h', r1, r2, r3, r4⟩ := lcL_if I hx hs step k (i + 1) (acc ++ [y]) _ (by omega) hI2 hD2 (by simp; omega)
        refine ⟨acc', h', ?_, r2, r3, r4⟩
        unfold dLcL
        simp only [hn, e1, e2, R.noX_ok, R.bind_ok, e4, e5]
        exact r1
theorem lc_if {f : DI} {src : Src} {xs : List AV} {g : DG} {tt : DT} {te : DE} {vs : List Nat} {s : Sl} {h h1 : Hep} (I : Nat → List AV → Hep → Prop) (ef : f s h = .ok src h1) (hlen : src.len h1 = xs.length) (hx : xs.length ≤ 100000) (hs : ∀ i acc h, I i acc h → src.next i h = some xs[i]?) (h0 : I 0 [] (h1 ++ [AO.lst []]))
    (step : ∀ i acc h x, xs[i]? = some x → I i acc h → h[h1.length]? = some (.lst acc) → ∃ s1, g x (wipeS s vs) = some s1 ∧ ((∃ h2, tt s1 h = .ok false h2 ∧ h2[h1.length]? = some (.lst acc) ∧ I (i + 1) acc h2) ∨
      ∃ h2 y h3, tt s1 h = .ok true h2 ∧ te s1 h2 = .ok y h3 ∧ h3[h1.length]? = some (.lst acc) ∧ I (i + 1) (acc ++ [y]) (h3.set h1.length (.lst (acc ++ [y]))))) :
    ∃ acc h', dLc f g tt te vs s h = .ok (.ref h1.length) h' ∧ I xs.length acc h' ∧ h'[h1.length]? = some (.lst acc) ∧ acc.length ≤ xs.length := by
  obtain ⟨acc, h', e, a, b, c⟩ := lcL_if (D := h1.length) (s0 := wipeS s vs) I hx hs step xs.length 0 [] _ (by omega) h0 (by simp) (by simp)
  refine ⟨acc, h', ?_, a, b, c⟩
  unfold dLc
  rw [ef]
  show dLcL src g tt te h1.length (wipeS s vs) (src.len h1 + 1) 0 (h1 ++ [AO.lst []]) = _
  rw [hlen]
  exact e
theorem next_at {n i : Nat} {xs : List AV} {h : Hep} (e : h[n]? = some (.lst xs)) : (Src.at n).next i h = some xs[i]? := by
  simp [Src.next, e]
theorem len_at {n : Nat} {xs : List AV} {h : Hep} (e : h[n]? = some (.lst xs)) : (Src.at n).len h = xs.length := by
  simp [Src.len, e]
theorem src_ref {f : DE} {s : Sl} {h h1 : Hep} {n : Nat} {xs : List AV} (ef : f s h = .ok (.ref n) h1) (e : h1[n]? = some (.lst xs)) : dSrc f s h = .ok (.at n) h1 := by
  simp [dSrc, ef, e]
end Dn
namespace Dn
open PySem PySem.Spec PyProof.Rows L2

theorem ptW {X : Cx} {e : Expr} {t : TT} (h : PW X e t) : PT X e t := h.pt
section
variable {W : Wd} {io : List Addr} {hp : Hep} {H : Hp}
theorem RFs.put {j : Nat} {s : Str} (hj : W.fn[j]? = some s) {x : AV} {v : V} (rx : RV W io H x v) : ∀ {fs : List (Nat × AV)} {vs : List (Str × V)}, RFs W io H fs vs → RFs W io H (fput fs j x) (putF s v vs)
  | _, _, .nil => .cons hj rx .nil
  | _, _, .cons (q := q) (s := s') hq r t => by
    unfold fput putF
    by_cases e : q = j
    · subst e
      have es : s' = s := Option.some.inj (hq.symm.trans hj)
      rw [if_pos rfl, if_pos es]
      exact .cons hq rx t
    · have ne : s' ≠ s := fun z => e (fn_inj (hq.trans (by rw [z])) hj)
      rw [if_neg e, if_neg ne]
      exact .cons hq r (RFs.put hj rx t)
theorem insAt_in {a : AV} {x : V} {n t : Nat} {fs : List (Nat × AV)} (e : insAt hp a = some (n, t, fs)) (rl : Rl W io hp H) (r : RV W io H a x) :
    ∃ p dx vs, x = .ref p ∧ a = .ref n ∧ io[n]? = some p ∧ hp[n]? = some (.ins t fs) ∧ H p = some (.ins (W.cl t) dx vs) ∧ RFs W io H fs vs ∧ W.ct.kit t = true := by
  cases r with
  | @ref m p hi =>
    unfold insAt at e
    dsimp only at e
    cases z : hp[m]? with
    | none =>
      rw [z] at e
      cases e
    | some o =>
      rw [z] at e
      cases o with
      | ins t' fs' =>
        have e' : (m, t', fs') = (n, t, fs) := Option.some.inj e
        cases e'
        obtain ⟨dx, vs, e1, e2, e3⟩ := rl.ins hi z
        exact ⟨p, dx, vs, rfl, rfl, hi, z, e1, e2, e3⟩
      | _ => cases e
  | _ => cases e
end

def fldK (j : Nat) (o : Option (Nat × Nat × List (Nat × AV))) (h : Hep) : R AV := match o with
  | some (_, _, fs) => (match fget fs j with
    | some v => .ok v h
    | none => .stuck)
  | none => .stuck
def dFld (j : Nat) (f : DE) : DE := fun s h => (f s h).bind fun a h1 => fldK j (insAt h1 a) h1
def dSetF (j : Nat) (fo fv : DE) : DS := fun s h => (fv s h).st s fun v h1 => (fo s h1).st s fun o h2 => setfK s j v (insAt h2 o) h2
section
variable {W : Wd} {M : Md W} {E : WX} {X : Cx} {e o value : Expr} {f fo fv : DE} {x : Str} {j : Nat} {pos pos' tpos : Pos}
theorem fldD (hK : X.K = W.K) (hj : W.fn[j]? = some x) (he : PE X e (tD W M E f)) (hb : attributeBase e x X.env (eval e X.env) = eval e X.env := by rfl) : PE X (.Attribute e x pos) (tD W M E (dFld j f)) := peI (pe_fld he hb) fun σ H Q h => by
  obtain ⟨io, hp, as, rl, S, P⟩ := h
  refine (step (rh := RV W) (f := f) rl S P).imp fun v H1 ⟨io2, hp2, a, e2, rl2, ra, P2⟩ => ?_
  cases z : insAt hp2 a with
  | none =>
    rw [z] at P2
    exact P2.elim
  | some q =>
    obtain ⟨n, t, fs⟩ := q
    rw [z] at P2
    obtain ⟨p, dx, vs, rfl, rfl, hi, hh, ea, rf, hk⟩ := insAt_in z rl2 ra
    have P3 : Pst W (RV W) E σ Q io2 H1 (match fget fs j with
      | some v => .ok v hp2
      | none => .stuck) := P2
    cases z2 : fget fs j with
    | none =>
      rw [z2] at P3
      exact P3.elim
    | some y =>
      rw [z2] at P3
      obtain ⟨v, l, rv⟩ := rf.get hj z2
      refine ⟨p, W.cl t, dx, vs, v, rfl, ea, ?_, ?_, l, P3.ok rl2 rv⟩
      · rw [hK]
        exact W.cks t hk
      · rw [hK]
        exact W.noat t x hk (List.mem_of_getElem? hj)
theorem setF_at {D : Ends} {σ : L2.St} {io : List Addr} {hp : Hep} {H : Hp} {as : Sl} {a y : AV} {xv yv : V} (hj : W.fn[j]? = some x) (rl : Rl W io hp H) (S : M.rel io H as σ) (ra : RV W io H a xv) (ry : RV W io H y yv) (P : Pss W M E D io H (setfK as j y (insAt hp a) hp)) :
    ∃ p t dx vs, xv = .ref p ∧ H p = some (.ins (W.cl t) dx vs) ∧ W.ct.kit t = true ∧ vs.length < 1000 ∧ D.nx σ (upd H p (.ins (W.cl t) dx (putF x yv vs))) := by
  cases z : insAt hp a with
  | none =>
    rw [z] at P
    exact P.elim
  | some q =>
    obtain ⟨n, t, fs⟩ := q
    rw [z] at P
    obtain ⟨p, dx, vs, rfl, rfl, hi, hh, ea, rf, hk⟩ := insAt_in z rl ra
    have P2 : Pss W M E D io H (if fs.length < 900 then .nx as (hp.set n (.ins t (fput fs j y))) else .stuck) := P
    by_cases hl : fs.length < 900
    · rw [if_pos hl] at P2
      have eS : Ext W io H io (upd H p (.ins (W.cl t) dx (putF x yv vs))) := Ext.set _ ea trivial
      refine ⟨p, t, dx, vs, rfl, ea, hk, by rw [← rf.len]; omega, ?_⟩
      exact P2 io _ σ eS (rl.set hi ea trivial (.ins hk ((rf.put hj ry).mono eS))) (M.mono eS S)
    · rw [if_neg hl] at P2
      exact P2.elim
theorem sSetF (hK : X.K = W.K) (hj : W.fn[j]? = some x) (ho : PE X o (tD W M E fo)) (hv : PE X value (tD W M E fv)) (hs : swapsWith value (some (.Attribute o x pos')) pos.line X.env = pure false := by rfl) : PS X (.Assign [.Attribute o x pos'] value pos) (tS W M E (dSetF j fo fv)) := psI (ps_fld ho hv hs) fun D σ H h => by
  obtain ⟨io, hp, as, rl, S, P⟩ := h
  refine (stepS (rh := RV W) (f := fv) rl S P).imp fun yv H1 ⟨io2, hp2, y, e2, rl2, ry, P2⟩ => ?_
  refine (stepS (rh := RV W) (f := fo) rl2 (M.mono e2 S) P2).imp fun xv H3 ⟨io3, hp3, a, e3, rl3, ra, P3⟩ => ?_
  obtain ⟨p, t, dx, vs, e1, ea, hk, hl, q⟩ := setF_at hj rl3 (M.mono e3 (M.mono e2 S)) ra (ry.mono e3) P3
  refine ⟨p, W.cl t, dx, vs, e1, ea, ?_, ?_, hl, q⟩
  · rw [hK]
    exact W.cks t hk
  · rw [hK]
    exact W.noat t x hk (List.mem_of_getElem? hj)
end

/-- class t has the method m, at a def of the text -/
def HasM (P : Program) (w : World) (mg : Str → Option Value) (base : Heap) (W : Wd) (k : Nat) (t : Nat) (x : Str) (ps : List Str) (n : Nat) (F : DF) (bs : Bs) : Prop :=
  ∃ (a : Addr) (fd : FuncData), Meth W.K (W.cl t) x a ∧ FnOk P w W.K mg base (L2.CX P w) k a fd ps (spD W n F) ∧ ∀ b ∈ bs, BnD W fd ps b.1 b.2.1 b.2.2.1 b.2.2.2
def methK (t : Nat) (F : DF) (n m q : Nat) (ix : List Nat) (dfl : List AV) (fa fk : DA) (s : Sl) (o : AV) (h : Hep) : R AV := match insAt h o with
  | some (_, t', _) => if t' = t then (fa s h).bind fun a h1 => (fk s h1).bind fun b h2 => if a.length = n ∧ b.length = m ∧ (sel ix (o :: a ++ dfl ++ b)).length = q then F (sel ix (o :: a ++ dfl ++ b)) h2 else .stuck else .stuck
  | none => .stuck
def dMeth (t : Nat) (F : DF) (n m q : Nat) (ix : List Nat) (dfl : List AV) (fo : DE) (fa fk : DA) : DE := fun s h => (fo s h).bind fun o h1 => methK t F n m q ix dfl fa fk s o h1
section
variable {W : Wd} {M : Md W} {E : WX} {X : Cx} {k j n m q t : Nat} {f : Addr} {fd : FuncData} {ps ks : List Str} {F : DF} {x : Str} {p pos apos kpos : Pos} {e o : Expr} {es : List Expr} {kws : List Keyword} {fa fk : DA} {fe fo : DE} {ix : List Nat} {dfl : List AV} {bs : Bs}
theorem meth_in {σ : L2.St} {H : Hp} {Q : VK} (h : tD W M E (dMeth t F n m j ix dfl fo fa fk) σ H Q) :
    tD W M E fo σ H fun xv H0 => ∃ p dx vs, xv = .ref p ∧ H0 p = some (.ins (W.cl t) dx vs) ∧ W.ct.kit t = true ∧ (∀ y : Str, y ∉ W.fn → vs.lookup y = none) ∧
      tDA W M E fa σ H0 fun vs H1 => tDA W M E fk σ H1 fun zs H2 => vs.length = n ∧ zs.length = m ∧ ∀ gV : List V → List V → List V, (∀ io H as bs vs zs, RVs W io H as vs → RVs W io H bs zs → RVs W io H (sel ix (as ++ dfl ++ bs)) (gV vs zs)) → spD W j F (gV (xv :: vs) zs) H2 Q (WE E σ) := by
  obtain ⟨io, hp, as, rl, S, P⟩ := h
  refine (step (rh := RV W) (f := fo) rl S P).imp fun xv H0 ⟨io1, hp1, a0, e1, rl1, ra0, P1⟩ => ?_
  unfold methK at P1
  cases z : insAt hp1 a0 with
  | none =>
    rw [z] at P1
    exact P1.elim
  | some q =>
    obtain ⟨n', t', fs⟩ := q
    rw [z] at P1
    dsimp only at P1
    by_cases ht : t' = t
    · subst ht
      rw [if_pos rfl] at P1
      obtain ⟨p, dx, vs, rfl, rfl, hi, hh, ea, rf, hk⟩ := insAt_in z rl1 ra0
      refine ⟨p, dx, vs, rfl, ea, hk, fun y hy => rf.no hy, ?_⟩
      refine (step (rh := RVs W) (f := fa) rl1 (M.mono e1 S) P1).imp fun vs H1 ⟨io2, hp2, a, e2, rl2, ra, P2⟩ => ?_
      refine (step (rh := RVs W) (f := fk) rl2 (M.mono (e1.trans e2) S) P2).imp fun zs H4 ⟨io5, hp5, b, e5, rl5, rb, P5⟩ => ?_
      by_cases hc : a.length = n ∧ b.length = m ∧ (sel ix (.ref n' :: a ++ dfl ++ b)).length = j
      · rw [if_pos hc] at P5
        have ra' := ra.mono e5
        have rs : RV W io5 H4 (.ref n') (.ref p) := ra0.mono (e2.trans e5)
        exact ⟨ra'.len.symm.trans hc.1, rb.len.symm.trans hc.2.1, fun gV hg => call_at (a := .ref n' :: a) rl5 (.cons rs ra') rb hg hc.2.2 P5⟩
      · rw [if_neg hc] at P5
        exact P5.elim
    · rw [if_neg ht] at P1
      exact P1.elim
theorem methD0 {pl : Sem Bool} (H : HasM X.prog X.w X.mg X.base W j t x ps n F bs) (i : Nat) (hi : bs[i]? = some (1, ks, ix, dfl)) (hq : ks.length = q) (hr : Room k X.A) (hj : j ≤ k) (hK : X.K = W.K) (hx : x ∉ W.fn) (tk : Takes X E)
    (ho : PE X o (tD W M E fo)) (hkw : PK X kws (tDA W M E fk)) (hall : (backToKw pos (keywordEach kws X.env)).all (·.1.isSome) = true := by rfl) (hks : (backToKw pos (keywordEach kws X.env)).filterMap (·.1) = ks := by rfl)
    (hpl : ((backTo pos (starEach [] X.env)).any (·.1) || (backToKw pos (keywordEach kws X.env)).any (·.1.isNone)) = false := by rfl)
    (ht : eval (.Call (.Attribute o x apos) [] kws pos) X.env = (do
      let ov ← eval o X.env
      standAt apos.atName
      let (f, first) ← holding [ov] (getMethod ov x pl)
      callWith pos f first (backTo pos (starEach [] X.env)) (backToKw pos (keywordEach kws X.env))) := by rfl) :
    PE X (.Call (.Attribute o x apos) [] kws pos) (tD W M E (dMeth t F 0 q n ix dfl fo dNil fk)) := by
  subst hq
  obtain ⟨a, fd, hm, hF, hb⟩ := H
  obtain ⟨g, gV, kb, hg2⟩ := hb _ (List.mem_of_getElem? hi)
  dsimp only at kb
  rw [← hK] at kb hm hF
  refine ⟨fun pins s σ H Q I h => ?_⟩
  refine PySem.W.methodCall_KW (pl := pl) (thn (ho.run pins s σ H _ I (meth_in h)) fun u s1 ⟨xv, H1, I1, rx, p, dx, vs, ex, ea, hk, hl, q⟩ => ?_) ht
  subst ex
  obtain rfl : u = Value.ref p := rx
  refine getmeth_ok I1 ea (by rw [hK]; exact W.cks t hk) hm (hl x hx) ?_
  refine PySem.W.callWith_KW0 (first := [.ref p]) (h₀ := X.base) I.ok.mod.kin hm.kp hall ?_ hpl
  refine thn (hkw.run pos pins s1 σ H1 _ I1 (nil_in q)) fun ws s3 ⟨zs, H3, I3, rz, l1, l2, q3⟩ => ⟨I3.kIn, ?_⟩
  rw [hks]
  exact run_gen (n := 1) hF (hr.mono hj) kb tk I3 (us := [.ref p]) (vs := [.ref p]) (.cons rfl .nil) rz rfl l2 (q3 gV hg2)
end
end Dn
namespace Dn
open PySem PySem.Spec PyProof.Rows L2

/-- one or the other -/
def altK {T : Type} (r : R T) (k : R T) : R T := match r with
  | .stuck => k
  | _ => r
def dAlt (f g : DE) : DE := fun s h => altK (f s h) (g s h)
section
variable {W : Wd} {M : Md W} {E : WX} {X : Cx} {e : Expr} {f g : DE}
theorem altD (h1 : PE X e (tD W M E f)) (h2 : PE X e (tD W M E g)) : PE X e (tD W M E (dAlt f g)) := ⟨fun pins s σ H Q I h => by
  obtain ⟨io, hp, as, rl, S, P⟩ := h
  have P' : Pst W (RV W) E σ Q io H (altK (f as hp) (g as hp)) := P
  cases z : f as hp with
  | ok a h' =>
    rw [z] at P'
    exact h1.run pins s σ H Q I ⟨io, hp, as, rl, S, by rw [z]; exact P'⟩
  | exc t fs h' =>
    rw [z] at P'
    exact h1.run pins s σ H Q I ⟨io, hp, as, rl, S, by rw [z]; exact P'⟩
  | stuck =>
    rw [z] at P'
    exact h2.run pins s σ H Q I ⟨io, hp, as, rl, S, P'⟩⟩
end

def isT (h : Hep) (t : Nat) (a : AV) : Bool := match insAt h a with
  | some (_, t', _) => t' == t
  | none => false
section
variable {W : Wd} {M : Md W} {E : WX} {X : Cx} {k j n t : Nat} {ps : List Str} {F : DF} {x : Str} {p pos apos : Pos} {e e' o : Expr} {f g fo : DE}
variable {G : Value → Value → Sem Value} {r r' : DX}
end
end Dn
namespace Dn
open PySem PySem.Spec PyProof.Rows L2

section
variable {M : Model} {prog : Program} {w : World} {A : Around} {E : Value → Shared → Prop} {s : Shared} {K : PySem.W.Frag} {x C f : Addr} {ox : Obj} {od : Option Obj} {b tb : Value}
end
end Dn
namespace Dn
open PySem PySem.Spec PyProof.Rows L2
section
variable {W : Wd} {M : Md W} {E : WX} {X : Cx} {k j n t : Nat} {ps : List Str} {F : DF} {x : Str} {p pos apos : Pos} {e e' o : Expr} {f g fo : DE}
variable {ct : CT}
end
end Dn
namespace Dn
open PySem PySem.Spec PyProof.Rows L2
section
variable {W : Wd} {M : Md W} {E : WX} {X : Cx} {k j n m q t : Nat} {ps ks : List Str} {F : DF} {x : Str} {p pos apos : Pos} {e o : Expr} {es : List Expr} {kws : List Keyword} {f fo : DE} {fa fk : DA} {ix : List Nat} {dfl : List AV} {bs : Bs}
theorem makeC (H : HasC X.prog X.w X.mg X.base W j t x ps n F bs) (i : Nat) (hi : bs[i]? = some (m + 1, ks, ix, dfl)) (hq : ks.length = q) (hr : Room k X.A) (hj : j + 1 ≤ k) (hK : X.K = W.K) (tk : Takes X E)
    (ha : PA X (e :: es) (tDA W M E fa)) (hkw : PK X kws (tDA W M E fk)) (hg : Gl X x := by rfl) (hall : (backToKw pos (keywordEach kws X.env)).all (·.1.isSome) = true := by rfl) (hks : (backToKw pos (keywordEach kws X.env)).filterMap (·.1) = ks := by rfl)
    (hdb : (x == ("__debug__" : Str)) = false := by decide) (he : starEach (e :: es) X.env = (false, eval e X.env) :: starEach es X.env := by rfl)
    (hpl : ((backTo pos (starEach (e :: es) X.env)).any (·.1) || (backToKw pos (keywordEach kws X.env)).any (·.1.isNone)) = false := by rfl) :
    PE X (.Call (.Name x p) (e :: es) kws pos) (tD W M E (dMake t F m q n ix dfl fa fk)) := by
  subst hq
  obtain ⟨a, fd, h1, h2, h3, h4, h5⟩ := H
  have h6 := h5 _ (List.mem_of_getElem? hi)
  rw [← hK] at h1 h4
  exact makeD h3 rfl h1 h4 hr hj h2 hK h6 tk ha hkw hg hall hks hdb he hpl
theorem makeC0 (H : HasC X.prog X.w X.mg X.base W j t x ps n F bs) (i : Nat) (hi : bs[i]? = some (1, ks, ix, dfl)) (hq : ks.length = q) (hr : Room k X.A) (hj : j + 1 ≤ k) (hK : X.K = W.K) (tk : Takes X E)
    (hkw : PK X kws (tDA W M E fk)) (hg : Gl X x := by rfl) (hall : (backToKw pos (keywordEach kws X.env)).all (·.1.isSome) = true := by rfl) (hks : (backToKw pos (keywordEach kws X.env)).filterMap (·.1) = ks := by rfl)
    (hdb : (x == ("__debug__" : Str)) = false := by decide)
    (hpl : ((backTo pos (starEach [] X.env)).any (·.1) || (backToKw pos (keywordEach kws X.env)).any (·.1.isNone)) = false := by rfl) :
    PE X (.Call (.Name x p) [] kws pos) (tD W M E (dMake t F 0 q n ix dfl dNil fk)) := by
  subst hq
  obtain ⟨a, fd, h1, h2, h3, h4, h5⟩ := H
  have h6 := h5 _ (List.mem_of_getElem? hi)
  rw [← hK] at h1 h4
  exact makeD0 h3 rfl h1 h4 hr hj h2 hK h6 tk hkw hg hall hks hdb hpl
end
end Dn
namespace Dn
open PySem PySem.Spec PyProof.Rows L2

theorem clB_ok {K : PySem.W.Frag} {C : Addr} (h : clB K C = true) : Cls K C ∧ PySem.W.findIn K (.ref C) "__class__" = some (some (.builtin "object.__class__")) ∧ PySem.W.mroIn K C (.type "object") = some true := by
  obtain ⟨h1, h⟩ := He.ba h
  obtain ⟨h2, h⟩ := He.ba h
  obtain ⟨h3, h⟩ := He.ba h
  obtain ⟨h4, h⟩ := He.ba h
  obtain ⟨h5, h6⟩ := He.ba h
  exact ⟨⟨h1, h2, h3, He.eqO_ok h4⟩, He.eqO_ok h5, of_decide_eq_true h6⟩
theorem allN_ok {n : Nat} {p : Nat → Bool} (h : allN n p = true) (t : Nat) (ht : t < n) : p t = true := List.all_eq_true.mp h t (List.mem_range.mpr ht)
theorem DefF.fun_ {d : DefF} {K : PySem.W.Frag} (e : d.look K = d.want) (c : d.good K = true) : ∃ g, FunD K d.nm d.ql d.pr d.bd d.sp (d.dl.map (He.Dv.v K)) (d.kw.map fun q => (q.1, q.2.v K)) (d.ad K) g := by
  obtain ⟨kp, c2⟩ := He.ba c
  unfold DefF.look at e
  cases q : K.lookup (d.ad K) with
  | none =>
    rw [q] at c2
    cases c2
  | some o =>
    obtain ⟨o1, o2, o3, o4⟩ := o
    rw [q] at c2 e
    cases o3 with
    | func g =>
      obtain ⟨m1, m2, m3, m4, m5, m6, m7, m8, m9, m10, m11, m12, m13, m14, m15⟩ := g
      have e2 : (some (m1, m2, m3, m4, m5, m6, m7, m15) : He.FnW) = some (d.nm, d.ql, d.pr, .stmts d.bd, d.sp, mainGlobals, [], builtinsNs) := e
      simp only [Option.some.injEq, Prod.mk.injEq] at e2
      obtain ⟨g1, g2, g3, g4, g5, g6, g7, g8⟩ := e2
      subst g1 g2 g3 g4 g5 g6 g7 g8
      have c3 : (PySem.W.codeIn K m13 d.ql && (He.dflB K m8 (d.dl.map (He.Dv.v K)) && He.kwdB K m9 (d.kw.map fun q => (q.1, q.2.v K)))) = true := c2
      obtain ⟨k1, k2⟩ := He.ba c3
      obtain ⟨k3, k4⟩ := He.ba k2
      exact ⟨_, ⟨o1, o2, m8, m9, m10, m11, m12, m13, m14, o4, rfl, q, k1, He.dflB_ok k3, He.kwdB_ok k4⟩, kp⟩
    | _ => cases c2
theorem methB_ok {K : PySem.W.Frag} {C m : Str} {p : Pth} (h : methB C m p K = true) : Meth K (He.ga K C) m (p K) := by
  obtain ⟨h1, h⟩ := He.ba h
  obtain ⟨h2, h3⟩ := He.ba h
  exact ⟨He.eqO_ok h1, h2, h3⟩
theorem mkB_ok {K : PySem.W.Frag} {C : Str} {p : Pth} (h : mkB C p K = true) : Mk K (He.ga K C) (p K) := by
  obtain ⟨h1, h⟩ := He.ba h
  obtain ⟨h2, h⟩ := He.ba h
  obtain ⟨h3, h4⟩ := He.ba h
  exact ⟨h1, He.eqO_ok h2, h3, h4⟩
section
variable {fa : List He.Fa} {fn : List DefF} {xt : List (PySem.W.Frag → Bool)} {K : PySem.W.Frag}
theorem SaysF.fact (c : SaysF fa fn xt K) (i : Nat) {f : He.Fa} (h : fa[i]? = some f := by rfl) : f.ok K = true := List.all_eq_true.mp c.one.1 f (List.mem_of_getElem? h)
theorem SaysF.def_ (c : SaysF fa fn xt K) (i : Nat) {d : DefF} (h : fn[i]? = some d := by rfl) : ∃ g, FunD K d.nm d.ql d.pr d.bd d.sp (d.dl.map (He.Dv.v K)) (d.kw.map fun q => (q.1, q.2.v K)) (d.ad K) g := by
  have e : fn.map (fun d => d.look K) = fn.map DefF.want := congrArg (fun z : AlF => z.2) c
  have e2 : (fn.map fun d => d.look K)[i]? = (fn.map DefF.want)[i]? := by rw [e]
  rw [List.getElem?_map, List.getElem?_map, h] at e2
  exact DefF.fun_ (Option.some.inj e2) (List.all_eq_true.mp c.one.2.1 d (List.mem_of_getElem? h))
end
/-- a name of an attribute -/
theorem fnx {W : Wd} {fn : List Str} (h : W.fn = fn) {i : Nat} {x : Str} (e : fn[i]? = some x) : W.fn[i]? = some x := by
  rw [h]
  exact e
theorem fnn {W : Wd} {fn : List Str} (h : W.fn = fn) {x : Str} (e : x ∉ fn) : x ∉ W.fn := by
  rw [h]
  exact e
section
variable {P : Program} {w : World} {mg : Str → Option Value} {base : Heap} {W : Wd} {k n t : Nat} {f : Addr} {fd : FuncData} {ps : List Str} {F : DF} {bs : Bs} {x : Str}
theorem FnB.meth (B : FnB P w mg base W k f fd ps n F bs) (h : Meth W.K (W.cl t) x f) : HasM P w mg base W k t x ps n F bs := ⟨f, fd, h, B.2.1, B.2.2⟩
end
section
variable {W : Wd} {x qual : Str} {params : Arguments} {body : List Stmt} {scope : Scope} {dvs : List V} {kws : List (Str × V)} {f : Addr} {fd : FuncData} {ps : List Str}
end
theorem etB_ok {p : Pth} {K : PySem.W.Frag} (c : etB p K = true) : ∀ H, SqT K H (p K) [] := by
  unfold etB at c
  split at c
  · rename_i dd its n sl z
    obtain ⟨c1, c2⟩ := He.ba c
    have e : its.toList = [] := by simpa using c1
    have e2 : its.size = 0 := of_decide_eq_true c2
    refine fun H => .inr ⟨_, its, n, z, rfl, rfl, ?_, ?_⟩
    · rw [e2]
      exact Nat.zero_le _
    · rw [e]
      exact .nil
  · cases c
end Dn
namespace Dn
open PySem
section
variable {T : Type} {a b v : AV} {h h1 : Hep} {s : Sl} {t i j n m q c : Nat} {f g k : DE} {fa fk : DA} {F : DF} {ix : List Nat} {dfl : List AV} {fs : List (Nat × AV)} {r r' : DX} {r2 : D2} {ct : CT}
@[simp] theorem fget_nil : fget [] j = none := rfl
@[simp] theorem fget_cons : fget ((i, v) :: fs) j = if i = j then some v else fget fs j := rfl
@[simp] theorem fput_nil : fput [] j v = [(j, v)] := rfl
@[simp] theorem fput_cons : fput ((i, a) :: fs) j v = if i = j then (i, v) :: fs else (i, a) :: fput fs j v := rfl
theorem ins_of (e : h[n]? = some (.ins t fs)) : insAt h (.ref n) = some (n, t, fs) := by
  simp [insAt, e]
@[simp] theorem xFld : dFld j f s h = (f s h).bind fun a h1 => fldK j (insAt h1 a) h1 := rfl
@[simp] theorem fldK_some : fldK j (some (n, t, fs)) h = match fget fs j with
    | some v => .ok v h
    | none => .stuck := rfl
@[simp] theorem xSetF : dSetF j f g s h = (g s h).st s fun v h1 => (f s h1).st s fun o h2 => setfK s j v (insAt h2 o) h2 := rfl
@[simp] theorem setfK_some : setfK s j v (some (n, t, fs)) h = if fs.length < 900 then .nx s (h.set n (.ins t (fput fs j v))) else .stuck := rfl
@[simp] theorem xMeth : dMeth t F n m q ix dfl f fa fk s h = (f s h).bind fun o h1 => methK t F n m q ix dfl fa fk s o h1 := rfl
theorem methK_of (e : h[i]? = some (.ins t fs)) : methK t F n m q ix dfl fa fk s (.ref i) h = (fa s h).bind fun a h1 => (fk s h1).bind fun b h2 => if a.length = n ∧ b.length = m ∧ (sel ix (.ref i :: a ++ dfl ++ b)).length = q then F (sel ix (.ref i :: a ++ dfl ++ b)) h2 else .stuck := by
  unfold methK
  rw [ins_of e]
  exact if_pos rfl
@[simp] theorem xAlt : dAlt f g s h = altK (f s h) (g s h) := rfl
@[simp] theorem altK_ok {x : T} {k : R T} : altK (.ok x h) k = .ok x h := rfl
@[simp] theorem altK_stuck {k : R T} : altK .stuck k = k := rfl
@[simp] theorem ofX_eq : ofX r2 a b h = R.of (r2 a b h) := rfl
def makK (n : Nat) (v : AV) (h : Hep) : R AV := match v with
  | .non => .ok (.ref n) h
  | _ => .stuck
@[simp] theorem makK_non : makK n .non h = .ok (.ref n) h := rfl
@[simp] theorem xMake : dMake t F n m q ix dfl fa fk s h = (fa s h).bind fun a h1 => (fk s h1).bind fun b h2 =>
  if a.length = n ∧ b.length = m ∧ (sel ix (.ref h2.length :: a ++ dfl ++ b)).length = q then (F (sel ix (.ref h2.length :: a ++ dfl ++ b)) (h2 ++ [AO.ins t []])).bind (makK h2.length) else .stuck := by
  unfold dMake makK
  rfl
end
end Dn
namespace Dn
open PySem PySem.Spec PyProof.Rows L2
section
variable {W : Wd} {X : Cx}
end
end Dn
namespace Dn
open PySem PySem.Spec PyProof.Rows L2
section
variable {W : Wd} {M : Md W} {E : WX} {X : Cx}
end
section
variable {W : Wd} {M : Md W} {E : WX} {X : Cx} {k j n t : Nat} {ps : List Str} {F : DF} {x : Str} {p pos apos : Pos} {e e' o : Expr} {f g fo : DE}
end
end Dn
namespace Dn
open PySem PySem.Spec PyProof.Rows L2
section
variable {prog : Program} {w : World} {A : Around} {E : Value → Shared → Prop} {s : Shared}
end
section
variable {X : Cx}
end
section
variable {W : Wd} {M : Md W} {E : WX} {X : Cx} {k : Nat}
end
end Dn
namespace PySem
namespace DX
open PySem.W PySem.Calls PyProof.Rows
section
variable {md : Model} {ar : Around} {ex : Value → Shared → Prop} {hp : Heap} {gs : Array GenState} {dr : Drawn} {tc : Nat} {ops : OsState}
variable {cn qn : Str} {C N : Addr} {bs bm bmB : List Value} {hd : Bool} {sl : List Str} {sb : List Value} {ab : Bool} {col : Option Bool} {dd : Option Addr} {k0 k1 k2 k3 k5 : Option Value} {O nid : String}
end
section
variable {prog : Program} {w : World} {ar : Around} {ex : Value → Shared → Prop} {R : Result → Shared → Prop} {hp : Heap} {gs : Array GenState} {dr : Drawn} {tc : Nat} {ops : OsState}
variable {cn qn : Str} {C N : Addr} {bs bm bmB : List Value} {hd : Bool} {sl : List Str} {sb : List Value} {ab : Bool} {col : Option Bool} {dd : Option Addr} {k0 k1 k2 k3 k5 : Option Value} {O nid : String}
end
section
variable {prog : Program} {w : World} {A : Around} {R : Result → Shared → Prop} {g : Array GenState} {d : Drawn} {tt : Nat} {os : OsState}
end
end DX
end PySem

namespace Dn
open PySem PySem.Spec PyProof.Rows L2

section
variable {X : Cx} {pins : List (Addr × Obj)} {σ : L2.St} {H : Hp} {s : Shared} {e C : Addr} {nm : Str} {y : V} {u : Value} {Q : Unit → Shared → Prop} {E : Value → Shared → Prop} {A : Around} {B newId initId : String} {bmB : List Value}
end
section
variable {X : Cx} {E : WX} {C : Addr} {nm : Str} {B newId initId : String} {bmB : List Value} {x : Str} {p pos : Pos} {e : Expr}
/-- C() of a class without own __init__ -/
theorem pmk_x0 (FB : ExcBaseFacts B newId initId bmB) (q : PySem.W.excIn X.K C bmB newId = true) (gC : X.mg x = some (.ref C)) (kC : PySem.W.keepIn X.K (.ref C) = true) (r : Raises X (.ref C)) (hg : Gl X x := by rfl) (hdb : (x == ("__debug__" : Str)) = false := by decide)
    (hpl : ((backTo pos (starEach [] X.env)).any (·.1) || (backToKw pos (keywordEach [] X.env)).any (·.1.isNone)) = false := by rfl) (hall : (backToKw pos (keywordEach [] X.env)).all (·.1.isSome) = true := by rfl) (hnil : ((backToKw pos (keywordEach [] X.env)).map (·.2)) = [] := by rfl) (hfm : (backToKw pos (keywordEach [] X.env)).filterMap (·.1) = [] := by rfl) :
    PMk X (.Call (.Name x p) [] [] pos) (fun _ H Q => Q (.ref C) none H) := fun pins s σ H Q I h => by
  refine wpAny_Call_Name_kw (ld_glob I hg gC ?_ hdb)
  refine PySem.W.callWith_KW0 (h₀ := X.base) I.ok.mod.kin kC hall ?_ hpl
  rw [hnil, hfm]
  unfold evalAll
  refine wpAny_pure ⟨I.kIn, ?_⟩
  show wpAny _ _ (call (.ref C) []) _ _ _
  obtain ⟨bm, N, nm, qn, bs, hdct, sn, sub, ab, col, dd, k0, k1, k2, k3, k5, mN, hC, hN, hni, T⟩ := exc_obj I.kIn q
  exact wpAny_call_exc_subT FB T hC hN hni (fun h' e hm => mk_of I hm r h (I.hok.gone hm.new)) (by rw [sizeLine_eq]; decide)
end
end Dn
namespace Dn
open PySem PySem.Spec PyProof.Rows L2

def Lnd (X : Cx) (pins : List (Addr × Obj)) (σ : L2.St) (H : Hp) (a : Addr) (cls : Value) (d : Option Addr) (s : Shared) : Prop :=
  ∃ (B : Heap) (sI : Shared), Inv X pins σ H sI ∧ (∀ b o, sI.heap.get? b = some o → b ∉ frs X.stack → B.get? b = some o) ∧ sI.heap.UpToSlots s.heap ∧ HandSPX.FlyingZ B X.stack a (Zc cls d) s.heap ∧ H a = none ∧ s.os = sI.os ∧ AllBare s.gens
/-- clauses that serve all exceptions with the wish w -/
def Cls_ (X : Cx) (D : Ends) (hds : List ExceptHandler) (w : WX) : Prop := ∀ (pins : List (Addr × Obj)) (σ : L2.St) (H : Hp) (a : Addr) (cls : Value) (d : Option Addr) (s : Shared), Lnd X pins σ H a cls d s → w cls d σ H →
  wpAny (model X.prog X.w) X.A (handleBy (.ref a) X.env hds) (SP X pins D) X.xe s
section
variable {X : Cx} {pins : List (Addr × Obj)} {σ : L2.St} {H : Hp} {a : Addr} {cls : Value} {d : Option Addr} {s : Shared} {D : Ends}
theorem Lnd.inv (l : Lnd X pins σ H a cls d s) : Inv X pins σ H s := by
  obtain ⟨B, sI, J, nb, up, fl, na, os, ag⟩ := l
  exact J.landed nb fl.1 up os ag
/-- its object, and that it is no frame -/
theorem Lnd.obj (l : Lnd X pins σ H a cls d s) (hs : X.stack = X.env :: X.outer) (hf : X.env.frame = some X.env.locals) : ∃ oe vs, s.heap.get? a = some oe ∧ Zc cls d oe ∧ oe.data = .fields vs ∧ a ≠ X.env.locals ∧ a ∉ X.fs ∧ H a = none := by
  obtain ⟨B, sI, J, nb, up, fl, na, os, ag⟩ := l
  obtain ⟨oe, vs, z1, z2, z3⟩ := fl.there
  have no : a ∉ frs X.stack := fun hm => by
    obtain ⟨_, o', e', hn⟩ := fl.2.2.1.mem hm
    rw [z1] at e'
    cases e'
    exact hn _ z3
  refine ⟨oe, vs, z1, z2, z3, fun z => no ?_, fun hm => no ?_, na⟩
  · rw [hs]
    exact List.mem_filterMap.mpr ⟨X.env, List.mem_cons_self, by rw [hf, z]⟩
  · rw [hs]
    obtain ⟨e, he, q⟩ := List.mem_filterMap.mp hm
    exact List.mem_filterMap.mpr ⟨e, List.mem_cons_of_mem _ he, q⟩
theorem cls_nil {w : WX} (hf : X.env.frame = some X.env.locals) (tk : Takes X w) : Cls_ X D [] w := fun pins σ H a cls d s l hw => by
  obtain ⟨B, sI, J, nb, up, fl, na, os, ag⟩ := l
  refine wpAny_handleBy_nil ?_
  obtain ⟨_, _, _, oe, vs, T, _, _, z1, _, z3, z4, _⟩ := id fl
  unfold PySem.passOn
  refine wpAny_bind (wpAny_field z1 z3 z4 ?_)
  rw [if_neg (by simp)]
  have up2 : wpAny (model X.prog X.w) X.A (setFlight (.ref a) X.env.frame) (fun _ s4 => wpAny (model X.prog X.w) X.A (throw (.ref a) : Sem Flow) (SP X pins D) X.xe s4) X.xe s := by
    rw [hf]
    exact HandSPX.setFlight_upZ fl fun h4 held up4 => wpAny_throw (tk _ _ ⟨a, B, sI, pins, σ, H, cls, d, rfl, J, nb, up.trans up4, .inr (.inr held), na, os, ag, hw⟩)
  first
    | exact wpAny_bind (wpAny_pure (wpAny_bind up2))
    | exact wpAny_bind up2
/-- a clause's test -/
theorem Lnd.test {x : Str} {np pos : Pos} {c : Value} {b : Bool} {R : Result → Shared → Prop} (l : Lnd X pins σ H a cls d s) (hs : X.stack = X.env :: X.outer) (hf : X.env.frame = some X.env.locals) (hc : Names X x c) (hb : PySem.W.exmOne X.K cls c = some b) (q : R (.ok (if b then .brk else .next)) s) :
    codeAny (model X.prog X.w) (X.A.mark (some (.ref a))) (.handlers (.ref a) [.ExceptHandler (some (.Name x np)) none [] pos] X.env) R s := by
  obtain ⟨oe, vs, z1, z2, z3, nL, nF, na⟩ := l.obj hs hf
  have I2 := l.inv.suite z1 z3 na nL nF
  have ty : PySem.W.Looks (model X.prog X.w) s.heap (typeOf (.ref a)) cls := fun _ _ _ _ k q => wpAny_typeOf_ref (k _ _ z1) (by rw [z2.1]; exact q)
  have lk := PySem.W.exm_one (M := model X.prog X.w) l.inv.kIn ty hb
  refine codeAny_handlers_test ?_
  obtain ⟨g1, g2, g3⟩ := hc
  rcases g3 with g3 | ⟨g3, g4, g5⟩
  · exact ld_glob (X := X.suite a ((a, oe) :: (X.pn ++ pins))) I2 g1 g3 (lk.here q) g2
  · exact ld_blt (X := X.suite a ((a, oe) :: (X.pn ++ pins))) I2 g1 g3 g4 (lk.here q) g5 g2
theorem Lnd.again (l : Lnd X pins σ H a cls d s) {M : Model} {A : Around} {E : Value → Shared → Prop} {Q : Unit → Shared → Prop} (q : ∀ s', Lnd X pins σ H a cls d s' → Q () s') : wpAny M A (setFlight (.ref a) none) Q E s := by
  obtain ⟨B, sI, J, nb, up, fl, na, os, ag⟩ := l
  exact HandSPX.lands_againZ fl fun h4 fl4 up4 => q _ ⟨B, sI, J, nb, up.trans up4, fl4, na, os, ag⟩
variable {hds : List ExceptHandler} {x n : Str} {np pos : Pos} {b₀ : Stmt} {suite : List Stmt} {c : Value} {i : Nat}
/-- except x: suite -/
theorem cls_only {w w' : WX} {ts : Addr → Value → Option Addr → TS} (hs : X.stack = X.env :: X.outer) (hf : X.env.frame = some X.env.locals) (hc : Names X x c)
    (hsu : ∀ (a : Addr) (oe : Obj) (cls : Value) (d : Option Addr) (pn : List (Addr × Obj)), Zc cls d oe → (∃ vs, oe.data = .fields vs) → PSs (X.suite a ((a, oe) :: pn)) (b₀ :: suite) (ts a cls d))
    (hw : ∀ cls d σ H, w cls d σ H → ∃ b, PySem.W.exmOne X.K cls c = some b ∧ (b = true → ∀ a, H a = none → ts a cls d D σ H) ∧ (b = false → w' cls d σ H)) (r : Cls_ X D hds w') :
    Cls_ X D (.ExceptHandler (some (.Name x np)) none (b₀ :: suite) pos :: hds) w := fun pins σ H a cls d s l h => by
  obtain ⟨b, hb, yes, no⟩ := hw _ _ _ _ h
  refine wpAny_handleBy_cons (l.test hs hf hc hb ?_) (fun q => by cases q)
  cases b with
  | false => exact r pins σ H a cls d s l (no rfl)
  | true =>
    refine codeAny_handlers_suite (l.again fun s4 l4 => ?_)
    obtain ⟨oe, vs, z1, z2, z3, nL, nF, na⟩ := l4.obj hs hf
    refine wpAny_mono ((hsu a oe cls d (X.pn ++ pins) z2 ⟨_, z3⟩).run [] _ _ H _ (l4.inv.suite z1 z3 na nL nF) (yes rfl a na)) (fun f s6 h6 => ?_) (fun _ _ z => z.elim)
    have ok := l4.inv.ok
    cases f with
    | ret u =>
      obtain ⟨v6, σ6, H6, S6, r6, q6⟩ := h6
      exact ⟨_, _, _, S6.unsuite ok, r6, q6⟩
    | next =>
      obtain ⟨σ6, H6, S6, q6⟩ := h6
      exact ⟨_, _, S6.unsuite ok, q6⟩
    | brk =>
      obtain ⟨σ6, H6, S6, q6⟩ := h6
      exact ⟨_, _, S6.unsuite ok, q6⟩
    | cont =>
      obtain ⟨σ6, H6, S6, q6⟩ := h6
      exact ⟨_, _, S6.unsuite ok, q6⟩
/-- except x as n: suite -/
theorem cls_as {w w' : WX} {ts : Addr → Value → Option Addr → TS} (hs : X.stack = X.env :: X.outer) (hf : X.env.frame = some X.env.locals) (hN : X.N.Nodup) (hi : X.N[i]? = some n) (hl : X.env.kindOf n = some .local) (hc : Names X x c)
    (hsu : ∀ (a : Addr) (oe : Obj) (cls : Value) (d : Option Addr) (pn : List (Addr × Obj)), Zc cls d oe → (∃ vs, oe.data = .fields vs) → PSs (X.suite a ((a, oe) :: pn)) (b₀ :: suite) (ts a cls d))
    (hw : ∀ cls d σ H, w cls d σ H → ∃ b, PySem.W.exmOne X.K cls c = some b ∧ (b = true → ∀ a, H a = none → ts a cls d ⟨fun σ' H' => D.nx (σ'.set i none) H', D.rt, fun σ' H' => D.bk (σ'.set i none) H', fun σ' H' => D.ct (σ'.set i none) H'⟩ (σ.set i (some (.ref a))) H) ∧ (b = false → w' cls d σ H)) (r : Cls_ X D hds w') :
    Cls_ X D (.ExceptHandler (some (.Name x np)) (some n) (b₀ :: suite) pos :: hds) w := fun pins σ H a cls d s l h => by
  obtain ⟨b, hb, yes, no⟩ := hw _ _ _ _ h
  refine wpAny_handleBy_cons (l.test hs hf hc hb ?_) (fun q => by cases q)
  cases b with
  | false => exact r pins σ H a cls d s l (no rfl)
  | true =>
    refine codeAny_handlers_suite_as (l.again fun s4 l4 => ?_)
    obtain ⟨oe, vs, z1, z2, z3, nL, nF, na⟩ := l4.obj hs hf
    refine store_ok (v := .ref a) (X := X.suite a ((a, oe) :: (X.pn ++ pins))) (l4.inv.suite z1 z3 na nL nF) hN hi (.inl hl) rfl (fun s5 I5 => ?_) (.inr hl)
    refine wpAny_mono ((hsu a oe cls d (X.pn ++ pins) z2 ⟨_, z3⟩).run [] s5 _ H _ I5 (yes rfl a na)) (fun f s6 h6 => ?_) (fun _ _ z => z.elim)
    have ok := l4.inv.ok
    cases f with
    | ret u =>
      obtain ⟨v6, σ6, H6, S6, r6, q6⟩ := h6
      exact gone_ok (S6.unsuite ok) hN hi hl fun s7 J7 => ⟨_, _, _, J7, r6, q6⟩
    | next =>
      obtain ⟨σ6, H6, S6, q6⟩ := h6
      exact gone_ok (S6.unsuite ok) hN hi hl fun s7 J7 => ⟨_, _, J7, q6⟩
    | brk =>
      obtain ⟨σ6, H6, S6, q6⟩ := h6
      exact gone_ok (S6.unsuite ok) hN hi hl fun s7 J7 => ⟨_, _, J7, q6⟩
    | cont =>
      obtain ⟨σ6, H6, S6, q6⟩ := h6
      exact gone_ok (S6.unsuite ok) hN hi hl fun s7 J7 => ⟨_, _, J7, q6⟩
/-- try: body except ..: .. -/
theorem ps_tryG {body : List Stmt} {h₀ : ExceptHandler} {tb : WX → TS} {wi : Ends → WX} (hs : X.stack = X.env :: X.outer) (hf : X.env.frame = some X.env.locals)
    (hb : ∀ (w : WX) (pn : List (Addr × Obj)) (xe : Value → Shared → Prop), Takes (X.tr pn xe) w → PassesOwn (model X.prog X.w) X.A X.env xe → PSs (X.tr pn xe) body (tb w)) (hh : ∀ D, Cls_ X D (h₀ :: hds) (wi D)) :
    PS X (.Try body (h₀ :: hds) [] [] pos) (fun D σ H => tb (wi D) D σ H) := ⟨fun pins s σ H D I h => by
  have ok := I.ok
  have hfr : X.A.frames = some (X.env :: X.outer) := ok.frames.trans (by rw [hs])
  refine wpAny_Try_except ?_
  have tkn : Takes (X.tr (X.pn ++ pins) (fun e s₁ => wpAny (model X.prog X.w) X.A (noteFrame e X.env) (fun _ s₂ => wpAny (model X.prog X.w) X.A (setFlight e none) (fun _ s₃ => wpAny (model X.prog X.w) X.A (handleBy e X.env (h₀ :: hds)) (SP X pins D) X.xe s₃) X.xe s₂) X.xe s₁)) (wi D) := fun u s' x => by
    obtain ⟨a, B, sI, pins', σ', H', cls, d, rfl, J', nb, up, sky, na, os, ag, w⟩ := x
    have J : Inv X pins σ' H' sI := J'.ofTry ok
    have sky2 : Sky B (X.env :: X.outer) a (Zc cls d) X.env.locals s'.heap := by
      rw [← hs]
      exact sky
    show wpAny (model X.prog X.w) X.A (noteFrame (.ref a) X.env) _ _ _
    refine Sky.land Zc.steady hfr hf sky2 fun h3 fl3 up3 => ?_
    exact hh D pins σ' H' a cls d _ ⟨B, sI, J, nb, up.trans up3, by rw [hs]; exact fl3, na, os, ag⟩ w
  refine wpAny_mono ((hb _ _ _ tkn PassesOwn.looking).run [] s σ H D (I.toTry _) h) (fun f s1 h1 => ?_) (fun _ _ z => z)
  cases f with
  | ret u =>
    obtain ⟨v, σ', H', J', r, q⟩ := h1
    exact ⟨v, σ', H', J'.ofTry ok, r, q⟩
  | next =>
    obtain ⟨σ', H', J', q⟩ := h1
    exact wpAny_execs_nil ⟨σ', H', J'.ofTry ok, q⟩
  | brk =>
    obtain ⟨σ', H', J', q⟩ := h1
    exact ⟨σ', H', J'.ofTry ok, q⟩
  | cont =>
    obtain ⟨σ', H', J', q⟩ := h1
    exact ⟨σ', H', J'.ofTry ok, q⟩⟩
end
end Dn
namespace Dn
open PySem PySem.Spec PyProof.Rows L2

def dRaise0 (t : Nat) : DS := fun s h => .exc t [] s h
def SR.noX : SR → SR
  | .exc _ _ _ _ => .stuck
  | r => r
def SR.wip (i : Nat) : SR → SR
  | .nx s h => .nx (s.set i none) h
  | .bk s h => .bk (s.set i none) h
  | .ct s h => .ct (s.set i none) h
  | .rt v h => .rt v h
  | _ => .stuck
def pickH (T : XT) (t : Nat) (fs : List (Nat × AV)) (s : Sl) (h : Hep) : Hds → SR
  | [] => .exc t fs s h
  | (c, o, f) :: r => match T.sub t c with
    | true => (match o with
      | none => (f s h).noX
      | some i => if i < s.length then (f (s.set i (some (.exn t fs))) h).wip i else .stuck)
    | false => pickH T t fs s h r
def dTry (T : XT) (f : DS) (hs : Hds) : DS := fun s h => match f s h with
  | .exc t fs s1 h1 => if T.n ≤ t ∧ t < T.m then pickH T t fs s1 h1 hs else .stuck
  | r => r
def tyLook (l : List (Nat × String × Bool)) (t : Nat) (n : String) : Option Bool := match l with
  | [] => none
  | (t', n', b) :: r => if t' = t ∧ n' = n then some b else tyLook r t n
def isXK (T : XT) (n : String) (o : Option (Option AV)) (h : Hep) : R AV := match o with
  | some (some (.exn t _)) => (match tyLook T.ty t n with
    | some b => .ok (.bl b) h
    | none => .stuck)
  | _ => .stuck
/-- isinstance(e, T), e a caught exception -/
def dIsX (T : XT) (i : Nat) (n : String) : DE := fun s h => isXK T n s[i]? h

/-- a class without own __init__ -/
def HasX0 (mg : Str → Option Value) (W : Wd) (t : Nat) (x : Str) : Prop := ∃ (B newId initId : String) (bmB : List Value), ExcBaseFacts B newId initId bmB ∧ PySem.W.excIn W.K (W.cl t) bmB newId = true ∧ mg x = some (.ref (W.cl t)) ∧ PySem.W.keepIn W.K (.ref (W.cl t)) = true ∧
  PySem.W.subIn W.K (.ref (W.cl t)) (.type "BaseException") = some true ∧ PySem.W.typeIn W.K (.ref (W.cl t)) = some (.type "type")
section
variable {W : Wd} {M : Md W} {E : WX} {X : Cx} {t j k : Nat} {x : Str} {e : Expr} {f : DE} {p p2 pos : Pos}
theorem sRaise0 (h : HasX0 X.mg W t x) (hK : X.K = W.K) (hc : X.calm = true) (tk : Takes X E) (hg : Gl X x := by rfl) (hdb : (x == ("__debug__" : Str)) = false := by decide)
    (hpl : ((backTo p2 (starEach [] X.env)).any (·.1) || (backToKw p2 (keywordEach [] X.env)).any (·.1.isNone)) = false := by rfl) (hall : (backToKw p2 (keywordEach [] X.env)).all (·.1.isSome) = true := by rfl) (hnil : ((backToKw p2 (keywordEach [] X.env)).map (·.2)) = [] := by rfl) (hfm : (backToKw p2 (keywordEach [] X.env)).filterMap (·.1) = [] := by rfl) :
    PS X (.Raise (some (.Call (.Name x p) [] [] p2)) none pos) (tS W M E (dRaise0 t)) := by
  obtain ⟨B, newId, initId, bmB, FB, h1, h2, h3, h4, h5⟩ := h
  rw [← hK] at h1 h3 h4 h5
  refine psI (ps_raise hc tk (pmk_x0 FB h1 h2 h3 (raises_own h4 h5) hg hdb hpl hall hnil hfm)) fun D σ H ⟨io, hp, as, rl, S, P⟩ => ?_
  exact P io H σ _ _ Ext.refl rl S ⟨rfl, .inl ⟨rfl, rfl⟩⟩
end

section
variable {W : Wd} {X : Cx} {T : XT}
theorem PssE0 {D : Ends} {io : List Addr} {H : Hp} {E : WX} {M : Md W} {r : SR} (P : Pss W M E D io H r.noX) : Pss W M E0x D io H r := by
  cases r with
  | exc t fs s h => exact P.elim
  | _ => exact P
end
section
variable {W : Wd} {X : Cx} {T : XT} {E : WX} {a : Addr} {oe : Obj} {pn : List (Addr × Obj)} {i j t : Nat} {fs : List (Nat × AV)} {d : Option Addr} {x nm : Str} {p pos : Pos}
theorem tyLook_in : ∀ {l : List (Nat × String × Bool)} {t : Nat} {n : String} {b : Bool}, tyLook l t n = some b → (t, n, b) ∈ l
  | [], _, _, _, h => by cases h
  | (t', n', b') :: r, t, n, b, h => by
    unfold tyLook at h
    by_cases e : t' = t ∧ n' = n
    · rw [if_pos e] at h
      cases h
      obtain ⟨rfl, rfl⟩ := e
      exact List.mem_cons_self
    · rw [if_neg e] at h
      exact List.mem_cons_of_mem _ (tyLook_in h)
end
end Dn
namespace Dn
open PySem PySem.Spec PyProof.Rows L2

section
variable {X : Cx}
theorem vt (i : Nat) {x : Str} {pos : Pos} (hN : X.N[i]? = some x := by rfl) (hv : Vis X.env.scope x := by first | exact Or.inl rfl | exact Or.inr (Or.inl rfl) | exact Or.inr (Or.inr rfl)) (hd : (x == ("__debug__" : Str)) = false := by decide)
    (hcd : (x == ("__classdict__" : Str)) = false := by decide) : PE X (.Name x pos) (tVar i) := pe_var hN hv hd hcd
end
theorem bt_ValueError : bootBuiltins "ValueError" = some (.type "ValueError") := by decide +kernel
def mkWX (K : PySem.W.Frag) (cs xs fn : List Str) (sub : Nat → Nat → Bool) (hn : fn.Nodup) (h : wdXB cs xs fn sub K = true) (h1 : PySem.W.specialIn K (.builtin "object.__class__") "__get__" = some (some (.builtin "getset_descriptor.__get__"))) (h2 : PySem.W.takesIn K (.builtin "object.__class__") = some true) : Wd where
  K := K
  cl := clOf K (cs ++ xs)
  fn := fn
  fnd := hn
  ct := ctOf cs.length sub
  cg := fun t ht => clB_ok (He.ba (allN_ok h t (of_decide_eq_true ht))).1
  cd := h1
  ck := h2
  ctf := fun n t hn ht => by
    have h3 := (He.ba (He.ba (He.ba (allN_ok h t (of_decide_eq_true ht))).2).2).1
    exact of_decide_eq_true (He.ba (List.all_eq_true.mp h3 n hn)).1
  cty := fun n t hn ht => by
    have h3 := (He.ba (He.ba (He.ba (allN_ok h t (of_decide_eq_true ht))).2).2).1
    exact of_decide_eq_true (He.ba (List.all_eq_true.mp h3 n hn)).2
  csf := fun s t hs ht => by
    have h3 := (He.ba (He.ba (He.ba (He.ba (allN_ok h t (of_decide_eq_true ht))).2).2).2).1
    exact of_decide_eq_true (He.ba (allN_ok h3 s (of_decide_eq_true hs))).1
  cks := fun t ht => (clB_ok (He.ba (allN_ok h t (of_decide_eq_true ht))).1).1
  cb := fun t ht => (He.ba (He.ba (allN_ok h t (of_decide_eq_true ht))).2).1
  css := fun s t hs ht => by
    have h3 := (He.ba (He.ba (He.ba (He.ba (allN_ok h t (of_decide_eq_true ht))).2).2).2).1
    exact of_decide_eq_true (He.ba (allN_ok h3 s (of_decide_eq_true hs))).2
  noat := fun t s ht hs => by
    have h3 := (He.ba (He.ba (He.ba (He.ba (allN_ok h t (of_decide_eq_true ht))).2).2).2).2
    exact He.eqO_ok (List.all_eq_true.mp h3 s hs)
theorem xwB_ok {W : Wd} {cs : List Str} {T : XT} (hc : W.cl = clOf W.K cs) (h : xwB cs W.fn T W.K = true) : XWd W T := by
  obtain ⟨h1, h2⟩ := He.ba h
  have at_ : ∀ t, T.n ≤ t → t < T.m → xcB W.fn W.K (W.cl t) = true ∧ allN (T.m - T.n) (fun j => decide (PySem.W.exmOne W.K (.ref (clOf W.K cs t)) (.ref (clOf W.K cs (T.n + j))) = some (T.sub t (T.n + j)))) = true := fun t a b => by
    have z := He.ba (allN_ok h1 (t - T.n) (by omega))
    rw [show T.n + (t - T.n) = t by omega, ← hc] at z
    rw [← hc]
    exact z
  have xc : ∀ t, T.n ≤ t → t < T.m → xfB W.K (W.cl t) = true ∧ (W.fn.all fun x => He.eqO (PySem.W.findIn W.K (.ref (W.cl t)) x) (some none)) = true ∧ He.eqO (PySem.W.findIn W.K (.ref (W.cl t)) "__class__") (some (some (.builtin "object.__class__"))) = true ∧ decide (PySem.W.mroIn W.K (W.cl t) (.type "object") = some true) = true := fun t a b => by
    obtain ⟨z1, z⟩ := He.ba (at_ t a b).1
    obtain ⟨z2, z⟩ := He.ba z
    exact ⟨z1, z2, He.ba z⟩
  refine ⟨fun s t a b c d => ?_, fun t a b => xfB_ok (xc t a b).1, fun t s a b hs => He.eqO_ok (List.all_eq_true.mp (xc t a b).2.1 s hs), fun t a b => ?_, fun q hq => ?_⟩
  · have z := of_decide_eq_true (allN_ok (at_ s a b).2 (t - T.n) (by omega))
    rw [show T.n + (t - T.n) = t by omega, ← hc] at z
    exact z
  · have xf := xfB_ok (xc t a b).1
    exact ⟨xf.ga, xf.gg, xf.exC, xf.hdC, He.eqO_ok (xc t a b).2.2.1, W.cd, W.ck, of_decide_eq_true (xc t a b).2.2.2⟩
  · rw [hc]
    exact of_decide_eq_true (List.all_eq_true.mp h2 q hq)
theorem x0B_ok {mg : Str → Option Value} {W : Wd} {t : Nat} {x : Str} {B newId initId : String} {bmB : List Value} (F : ExcBaseFacts B newId initId bmB) (hc : W.cl t = He.ga W.K x) (hm : mg x = some (.ref (He.ga W.K x))) (h : x0B x bmB newId W.K = true) : HasX0 mg W t x := by
  obtain ⟨h1, h2⟩ := He.ba h
  obtain ⟨h3, h4⟩ := He.ba h2
  obtain ⟨h5, h6⟩ := He.ba h4
  exact ⟨B, newId, initId, bmB, F, by rw [hc]; exact h1, by rw [hc]; exact hm, by rw [hc]; exact h6, by rw [hc]; exact of_decide_eq_true h3, by rw [hc]; exact of_decide_eq_true h5⟩
end Dn
namespace Dn
open PySem
section
variable {h : Hep} {s : Sl} {t j i c : Nat} {fs : List (Nat × AV)} {v : AV} {f : DE} {fb : DS} {T : XT} {hs : Hds} {n : String}
@[simp] theorem xRaise0 : dRaise0 t s h = .exc t [] s h := rfl
@[simp] theorem SR.fin_exc' : (SR.exc t fs s h).fin = .exc t fs h := rfl
def tryK (T : XT) (hs : Hds) (r : SR) : SR := match r with
  | .exc t fs s1 h1 => if T.n ≤ t ∧ t < T.m then pickH T t fs s1 h1 hs else .stuck
  | r => r
@[simp] theorem xTry : dTry T fb hs s h = tryK T hs (fb s h) := rfl
@[simp] theorem tryK_nx : tryK T hs (.nx s h) = .nx s h := rfl
@[simp] theorem tryK_rt : tryK T hs (.rt v h) = .rt v h := rfl
@[simp] theorem tryK_bk : tryK T hs (.bk s h) = .bk s h := rfl
@[simp] theorem tryK_ct : tryK T hs (.ct s h) = .ct s h := rfl
@[simp] theorem tryK_exc : tryK T hs (.exc t fs s h) = if T.n ≤ t ∧ t < T.m then pickH T t fs s h hs else .stuck := rfl
@[simp] theorem pickH_nil : pickH T t fs s h [] = .exc t fs s h := rfl
@[simp] theorem pickH_only : pickH T t fs s h ((c, none, fb) :: hs) = if T.sub t c = true then (fb s h).noX else pickH T t fs s h hs := by
  rw [pickH]
  cases T.sub t c <;> rfl
@[simp] theorem pickH_as : pickH T t fs s h ((c, some i, fb) :: hs) = if T.sub t c = true then (if i < s.length then (fb (s.set i (some (.exn t fs))) h).wip i else .stuck) else pickH T t fs s h hs := by
  rw [pickH]
  cases T.sub t c <;> rfl
@[simp] theorem noX_nx : (SR.nx s h).noX = .nx s h := rfl
@[simp] theorem noX_rt : (SR.rt v h).noX = .rt v h := rfl
@[simp] theorem noX_bk : (SR.bk s h).noX = .bk s h := rfl
@[simp] theorem noX_ct : (SR.ct s h).noX = .ct s h := rfl
@[simp] theorem wip_nx : (SR.nx s h).wip i = .nx (s.set i none) h := rfl
@[simp] theorem wip_rt : (SR.rt v h).wip i = .rt v h := rfl
@[simp] theorem wip_bk : (SR.bk s h).wip i = .bk (s.set i none) h := rfl
@[simp] theorem wip_ct : (SR.ct s h).wip i = .ct (s.set i none) h := rfl
@[simp] theorem xIsX : dIsX T i n s h = isXK T n s[i]? h := rfl
@[simp] theorem isXK_some : isXK T n (some (some (.exn t fs))) h = match tyLook T.ty t n with
  | some b => .ok (.bl b) h
  | none => .stuck := rfl
@[simp] theorem fget_one : fget [(j, v)] j = some v := by simp [fget]
/-- an exception leaves a call -/
@[simp] theorem R.st_exc' {U : Type} {k : U → Hep → SR} : (R.exc t fs h : R U).st s k = .exc t fs s h := rfl
end
end Dn
namespace Dn
open PySem PySem.Spec PyProof.Rows L2

/-- the dict at a value -/
def dicAt (h : Hep) : AV → Option (Nat × List (Key × AV))
  | .ref n => match h[n]? with
    | some (.dK kvs) => some (n, kvs)
    | _ => none
  | _ => none
section
variable {W : Wd} {M : Md W} {E : WX} {X : Cx} {o e f : Expr} {fo fk fx : DE} {pos apos cpos : Pos}
theorem dicAt_in {io : List Addr} {H : Hp} {hp : Hep} {a : AV} {x : V} {n : Nat} {kvs : List (Key × AV)} (z : dicAt hp a = some (n, kvs)) (rl : Rl W io hp H) (r : RV W io H a x) : ∃ p vs, x = .ref p ∧ a = .ref n ∧ io[n]? = some p ∧ hp[n]? = some (.dK kvs) ∧ H p = some (.dK vs) ∧ RKs W io H kvs vs := by
  cases r with
  | @ref m p hi =>
    have z1 : (match hp[m]? with
      | some (.dK kvs) => some (m, kvs)
      | _ => none) = some (n, kvs) := z
    cases q : hp[m]? with
    | none =>
      rw [q] at z1
      cases z1
    | some ob =>
      rw [q] at z1
      cases ob with
      | dK l =>
        cases z1
        obtain ⟨vs, e1, r1⟩ := rl.dK hi q
        exact ⟨p, vs, rfl, rfl, hi, q, e1, r1⟩
      | _ => cases z1
  | _ => cases z
end
end Dn
namespace Dn
open PySem PySem.Spec PyProof.Rows L2

section
variable {W : Wd} {io : List Addr} {H H' : Hp}
variable {p : Addr} {od : Obj} {vs : List (Key × V)} {o : HO}
theorem unlock_ne {a : Addr} {u : HO} (hp : H p = some (.frz od (.dK vs))) (ha : H a = some u) (n : ∀ b, u ≠ .frz b (.dK vs)) : a ≠ p := fun z => by
  subst z
  rw [hp] at ha
  cases ha
  exact n _ rfl
theorem unlock0 (hp : H p = some (.frz od (.dK vs))) : Ext0 W H (upd H p o) := by
  refine ⟨fun a xs h => ?_, fun a xs h => ?_, fun h' p' hp' => (fun ⟨ps, h1, h2, h3⟩ => ⟨ps, by rw [upd_ne (unlock_ne hp h1 fun _ z => by cases z)]; exact h1, h2, fun pos cv hc => by
      obtain ⟨c, e1, e2⟩ := h3 pos cv hc
      exact ⟨c, e1, by rw [upd_ne (unlock_ne hp e2 fun _ z => by unfold LamX.CodeO at z; cases z)]; exact e2⟩⟩) (h' p' hp'), fun a u h => by rw [upd_ne (unlock_ne hp h fun _ z => by cases z)]; exact h⟩
  · rcases h with (h | ⟨b, h⟩) | h
    · exact .inl (.inl (by rw [upd_ne (unlock_ne hp h fun _ z => by cases z)]; exact h))
    · exact .inl (.inr ⟨b, by rw [upd_ne (unlock_ne hp h fun _ z => by cases z)]; exact h⟩)
    · exact .inr h
  · rcases h with ⟨b, h⟩ | h
    · exact .inl ⟨b, by rw [upd_ne (unlock_ne hp h fun _ z => by cases z)]; exact h⟩
    · exact .inr h
/-- locked and unlocked: all else goes on -/
theorem unlockE {io' : List Addr} {H1 : Hp} (hd : H p = some (.dK vs)) (e : Ext W io (upd H p (.frz od (.dK vs))) io' H1) : Ext W io H io' (upd H1 p (.dK vs)) := by
  have es : Ext W io H io (upd H p (.frz od (.dK vs))) := Ext.set _ hd trivial
  have hp := e.frz p od _ upd_same
  have e2 := es.trans e
  have u := unlock0 (W := W) (o := .dK vs) hp
  refine ⟨e2.pre, fun a xs h => u.tup a xs (e2.tup a xs h), fun a xs h => u.rol a xs (e2.rol a xs h), fun a fs h => ?_, fun a b v h => ?_, fun a v h => ?_, fun h => u.tab (e2.tab h)⟩
  · have := e2.xd a fs h
    rw [upd_ne (unlock_ne hp this fun _ z => by cases z)]
    exact this
  · have ne : a ≠ p := fun z => by
      subst z
      rw [hd] at h
      cases h
    rw [upd_ne ne]
    exact e.frz a b v (by rw [upd_ne ne]; exact h)
  · have := e2.cod a v h
    rw [upd_ne (unlock_ne hp this fun _ z => by cases z)]
    exact this
theorem unlockR {io' : List Addr} {hp2 : Hep} {H1 : Hp} {n : Nat} {kvs : List (Key × AV)} (rl : Rl W io' hp2 H1) (hi : io'[n]? = some p) (hp : H1 p = some (.frz od (.dK vs))) (rk : RKs W io' H1 kvs vs) : Rl W io' (hp2.set n (.dK kvs)) (upd H1 p (.dK vs)) := by
  have u := unlock0 (W := W) (o := .dK vs) hp
  refine ⟨by simp [rl.len], rl.nd, fun i a q hi' h => ?_, u.tab rl.tb⟩
  by_cases e : i = n
  · subst e
    rw [hi] at hi'
    cases hi'
    obtain ⟨hl, _⟩ := List.getElem?_eq_some_iff.mp h
    rw [List.length_set] at hl
    rw [List.getElem?_set_self hl] at h
    cases h
    exact ⟨_, upd_same, .dK (rk.mono0 u)⟩
  · rw [List.getElem?_set_ne (Ne.symm e)] at h
    obtain ⟨v, ev, rv⟩ := rl.at hi' h
    have ne : a ≠ p := fun z => by
      subst z
      obtain ⟨l1, e1⟩ := List.getElem?_eq_some_iff.mp hi
      obtain ⟨l2, e2⟩ := List.getElem?_eq_some_iff.mp hi'
      exact e ((List.getElem_inj rl.nd).mp (e2.trans e1.symm))
    exact ⟨v, by rw [upd_ne ne]; exact ev, rv.mono0 u⟩
end
def lockK (n : Nat) (kvs : List (Key × AV)) (r : R AV) : R AV := match r with
  | .ok v h => .ok v (h.set n (.dK kvs))
  | _ => .stuck
def dLkE (fd f : DE) : DE := fun s h => match fd s h with
  | .ok a _ => (match dicAt h a with
    | some (n, kvs) => lockK n kvs (f s (h.set n (.frz (.dK kvs))))
    | none => .stuck)
  | _ => .stuck
section
variable {W : Wd} {M : Md W} {E : WX} {X : Cx} {e : Expr} {fd f : DE}
theorem dicAt_h {hp : Hep} {a : AV} {n : Nat} {kvs : List (Key × AV)} (z : dicAt hp a = some (n, kvs)) : hp[n]? = some (.dK kvs) := by
  cases a with
  | ref m =>
    have z1 : (match hp[m]? with
      | some (.dK kvs) => some (m, kvs)
      | _ => none) = some (n, kvs) := z
    cases q : hp[m]? with
    | none =>
      rw [q] at z1
      cases z1
    | some ob =>
      rw [q] at z1
      cases ob with
      | dK l =>
        cases z1
        exact q
      | _ => cases z1
  | _ => cases z
theorem lkD (he : PE X e (tD W M E f)) : PE X e (tD W M E (dLkE fd f)) := peI (pe_lock he) fun σ H Q ⟨io, hp, as, rl, S, P⟩ => by
  unfold dLkE at P
  cases z : fd as hp with
  | stuck =>
    rw [z] at P
    exact P.elim
  | exc t fs h =>
    rw [z] at P
    exact P.elim
  | ok a hx =>
    rw [z] at P
    cases z2 : dicAt hp a with
    | none =>
      simp only [z2] at P
      exact P.elim
    | some q =>
      obtain ⟨n, kvs⟩ := q
      simp only [z2] at P
      have hn := dicAt_h z2
      obtain ⟨p, hi⟩ : ∃ p, io[n]? = some p := by
        obtain ⟨l, _⟩ := List.getElem?_eq_some_iff.mp hn
        exact ⟨_, List.getElem?_eq_getElem (by rw [rl.len]; exact l)⟩
      obtain ⟨vs, hd, rk⟩ := rl.dK hi hn
      refine ⟨p, .dK vs, hd, trivial, fun od => ?_⟩
      have es : Ext W io H io (upd H p (.frz od (.dK vs))) := Ext.set _ hd trivial
      refine ⟨io, hp.set n (.frz (.dK kvs)), as, rl.set hi hd trivial (.frz (.dK (rk.mono es))), M.mono es S, ?_⟩
      cases z3 : f as (hp.set n (.frz (.dK kvs))) with
      | stuck =>
        rw [z3] at P
        exact P.elim
      | exc t fs h =>
        rw [z3] at P
        exact P.elim
      | ok v hp2 =>
        rw [z3] at P
        intro io' H' x e' rl' rx
        have hp' := e'.frz p od _ upd_same
        refine ⟨hp', ?_⟩
        exact P io' _ x (unlockE hd e') (unlockR rl' (e'.at hi) hp' ((rk.mono es).mono e')) (rx.mono0 (unlock0 hp'))
end

section
variable {W : Wd} {io : List Addr} {H : Hp} {n : Nat} {p : Addr} {od : Obj} {vs : List (Key × V)}
theorem dk_next {hp : Hep} {w i : Nat} {r : Option AV} (z : (Src.dK n w).next i hp = some r) : ∃ kvs, hp[n]? = some (.frz (.dK kvs)) ∧ r = kvs[i]?.map (pickD w i) := by
  have z1 : (match hp[n]? with
    | some (.frz (.dK kvs)) => some (kvs[i]?.map (pickD w i))
    | _ => none) = some r := z
  cases q : hp[n]? with
  | none =>
    rw [q] at z1
    cases z1
  | some o =>
    rw [q] at z1
    cases o with
    | frz o2 =>
      cases o2 with
      | dK kvs => exact ⟨kvs, rfl, (Option.some.inj z1).symm⟩
      | _ => cases z1
    | _ => cases z1
theorem frz_at {io' : List Addr} {H' : Hp} {hp : Hep} {kvs : List (Key × AV)} (hi : io[n]? = some p) (hd : H p = some (.frz od (.dK vs))) (e : Ext W io H io' H') (rl : Rl W io' hp H') (z : hp[n]? = some (.frz (.dK kvs))) : H' p = some (.frz od (.dK vs)) ∧ RKs W io' H' kvs vs := by
  have h1 := e.frz p od _ hd
  obtain ⟨u, e1, r1⟩ := rl.at (e.at hi) z
  rw [h1] at e1
  cases e1
  cases r1 with
  | frz r2 =>
    cases r2 with
    | dK r3 => exact ⟨h1, r3⟩
theorem src_keys (hi : io[n]? = some p) (hd : H p = some (.frz od (.dK vs))) : RSrc W io H (.dK n 0) (Itk p od vs) := fun io' H' hp e rl => by
  refine ⟨fun i z => ?_, fun i x z => ?_⟩
  · obtain ⟨kvs, z1, z2⟩ := dk_next z
    obtain ⟨h1, rk⟩ := frz_at hi hd e rl z1
    refine ⟨h1, ?_⟩
    rw [← rk.len]
    exact List.getElem?_eq_none_iff.mp (Option.map_eq_none_iff.mp z2.symm)
  · obtain ⟨kvs, z1, z2⟩ := dk_next z
    obtain ⟨h1, rk⟩ := frz_at hi hd e rl z1
    obtain ⟨⟨q, a⟩, e1, rfl⟩ := Option.map_eq_some_iff.mp z2.symm
    obtain ⟨v, e2, rv⟩ := rk.at_ e1
    refine ⟨⟨h1, (List.getElem?_eq_some_iff.mp e2).1⟩, fun w H2 ⟨eH, k2, v2, e3, ew⟩ => ?_⟩
    subst eH
    subst ew
    rw [e2] at e3
    cases e3
    exact ⟨Ext.refl, rl, rv_key q⟩
theorem src_items (hi : io[n]? = some p) (hd : H p = some (.frz od (.dK vs))) : RSrc W io H (.dK n 2) (Iti p od vs) := fun io' H' hp e rl => by
  refine ⟨fun i z => ?_, fun i x z => ?_⟩
  · obtain ⟨kvs, z1, z2⟩ := dk_next z
    obtain ⟨h1, rk⟩ := frz_at hi hd e rl z1
    refine ⟨h1, ?_⟩
    rw [← rk.len]
    exact List.getElem?_eq_none_iff.mp (Option.map_eq_none_iff.mp z2.symm)
  · obtain ⟨kvs, z1, z2⟩ := dk_next z
    obtain ⟨h1, rk⟩ := frz_at hi hd e rl z1
    obtain ⟨⟨q, a⟩, e1, rfl⟩ := Option.map_eq_some_iff.mp z2.symm
    obtain ⟨v, e2, rv⟩ := rk.at_ e1
    refine ⟨⟨h1, (List.getElem?_eq_some_iff.mp e2).1⟩, fun w H2 ⟨T, k2, v2, e3, ew, hT, eH⟩ => ?_⟩
    subst eH
    subst ew
    rw [e2] at e3
    cases e3
    have ex : Ext W io' H' io' (upd H' T (.tup [kV q, v])) := Ext.new0 hT
    exact ⟨ex, rl.other hT, .tup (.inl (.inl upd_same)) (.cons (rv_key q) (.cons (rv.mono ex) .nil))⟩
end
def dDk (w : Nat) (f : DE) : DI := fun s h => (f s h).bind fun a h1 => match a with
  | .ref n => (match h1[n]? with
    | some (.frz (.dK _)) => .ok (.dK n w) h1
    | _ => .stuck)
  | _ => .stuck
section
variable {W : Wd} {M : Md W} {E : WX} {X : Cx} {tg e : Expr} {f : DE} {apos cpos : Pos}
theorem dk_in {w : Nat} {σ : L2.St} {H : Hp} {R : It → Hp → Prop} (h : tG W M (RSrc W) E (dDk w f) σ H R) : tD W M E f σ H fun x H1 => ∃ (d : Addr) (o : Obj) (kvs : List (Key × V)) (io : List Addr) (n : Nat) (hp : Hep), x = .ref d ∧ H1 d = some (.frz o (.dK kvs)) ∧ io[n]? = some d ∧ Rl W io hp H1 ∧ Pst W (RSrc W) E σ R io H1 (.ok (.dK n w) hp) := by
  obtain ⟨io, hp, as, rl, S, P⟩ := h
  refine (step (rh := RV W) (f := f) rl S P).imp fun x H1 ⟨io2, hp2, a, e2, rl2, ra, P2⟩ => ?_
  cases ra with
  | @ref n p hi =>
    have P3 : Pst W (RSrc W) E σ R io2 H1 (match hp2[n]? with
      | some (.frz (.dK _)) => .ok (.dK n w) hp2
      | _ => .stuck) := P2
    cases z : hp2[n]? with
    | none =>
      rw [z] at P3
      exact P3.elim
    | some o =>
      rw [z] at P3
      cases o with
      | frz o2 =>
        cases o2 with
        | dK kvs =>
          obtain ⟨u, e1, r1⟩ := rl2.at hi z
          cases r1 with
          | @frz _ u2 b r2 =>
            cases r2 with
            | dK r3 => exact ⟨p, b, _, io2, n, hp2, rfl, e1, hi, rl2, P3⟩
        | _ => exact P3.elim
      | _ => exact P3.elim
  | _ => exact P2.elim
theorem dkKeys (he : PE X e (tD W M E f)) : PI X tg e (tG W M (RSrc W) E (dDk 0 f)) := piI (pi_keys he) fun σ H R h => (dk_in h).imp fun x H1 ⟨d, o, kvs, io, n, hp, ex, hd, hi, rl, P⟩ => ⟨d, o, ex, .inl ⟨kvs, hd, P.ok rl (src_keys hi hd)⟩⟩
theorem dkItems {elts : List Expr} {kk : Nat} {tpos : Pos} (he : PE X e (tD W M E f)) (hbase : attributeBase e "items" X.env (eval e X.env) = eval e X.env := by rfl) (hline : (apos.endLine == cpos.line) = true := by rfl) :
    PI X (.Tuple elts kk tpos) (.Call (.Attribute e "items" apos) [] [] cpos) (tG W M (RSrc W) E (dDk 2 f)) :=
  piI (pi_items he hbase hline) fun σ H R h => (dk_in h).imp fun x H1 ⟨d, o, kvs, io, n, hp, ex, hd, hi, rl, P⟩ => ⟨d, o, kvs, ex, hd, P.ok rl (src_items hi hd)⟩
end
end Dn
namespace Dn
open PySem PySem.Spec PyProof.Rows L2

def putAtD (D : Nat) (k : Option Key) (z : AV) (h : Hep) : Option Hep := match k, h[D]? with
  | some q, some (.dK kvs) => if kvs.length < SZ then some (h.set D (.dK (dput kvs q z))) else none
  | _, _ => none
def dDcL (src : Src) (g : DG) (tt : DT) (tk tv : DE) (D : Nat) (s0 : Sl) : Nat → Nat → Hep → R AV
  | 0, _, _ => .stuck
  | k + 1, i, h => match src.next i h with
    | none => .stuck
    | some none => .ok (.ref D) h
    | some (some x) => match g x s0 with
      | none => .stuck
      | some s1 => (tt s1 h).noX.bind fun b h1 => match b with
        | false => dDcL src g tt tk tv D s0 k (i + 1) h1
        | true => (tk s1 h1).noX.bind fun y h2 => (tv s1 h2).noX.bind fun z h3 => match putAtD D (keyOf y) z h3 with
          | none => .stuck
          | some h4 => dDcL src g tt tk tv D s0 k (i + 1) h4
def dDc (f : DI) (g : DG) (tt : DT) (tk tv : DE) (vs : List Nat) : DE := fun s h => (f s h).bind fun src h1 => dDcL src g tt tk tv h1.length (wipeS s vs) (src.len h1 + 1) 0 (h1 ++ [AO.dK []])
section
variable {W : Wd} {M : Md W} {E : WX} {X : Cx} {pos : Pos}
theorem dc_in {f : DI} {g : DG} {tt : DT} {tk tv : DE} {vs : List Nat} {σ : L2.St} {H : Hp} {Q : VK} (ok : ∀ v ∈ vs, M.ok v)
    (h : tD W M E (dDc f g tt tk tv vs) σ H Q) : tDc (tG W M (RSrc W) E f) (tgG W M (wipC vs) g) (tDT W M E0x tt) (tD W M E0x tk) (tD W M E0x tv) vs σ H Q := by
  obtain ⟨io, hp, as, rl, S, P⟩ := h
  refine (step (rh := RSrc W) (f := f) rl S P).imp fun J H1 ⟨io1, hp1, src, e1, rl1, rs, P1⟩ => ?_
  intro D hD
  have eD := Ext.new (W := W) io1 (.dK []) hD [D]
  have rlD : Rl W (io1 ++ [D]) (hp1 ++ [AO.dK []]) (upd H1 D (.dK [])) := rl1.new hD (.dK .nil)
  have wS : M.rel io1 H1 (wipeS as vs) (wipe σ vs) := wipe_rel (M.mono e1 S) ok
  have atD := rl1.atLen D
  refine ⟨fun i m H2 => ∃ io2 hp2, Ext W (io1 ++ [D]) (upd H1 D (.dK [])) io2 H2 ∧ Rl W io2 hp2 H2 ∧ Pst W (RV W) E σ Q io2 H2 (dDcL src g tt tk tv hp1.length (wipeS as vs) m i hp2), ⟨_, _, _, Ext.refl, rlD, Pst.later P1 eD⟩, ?_⟩
  rintro i m H2 ⟨io2, hp2, e2, rl2, P2⟩
  have e12 := eD.trans e2
  obtain ⟨hstop, hgo⟩ := rs io2 H2 hp2 e12 rl2
  cases m with
  | zero => exact P2.elim
  | succ m =>
    unfold dDcL at P2
    cases z : src.next i hp2 with
    | none =>
      rw [z] at P2
      exact P2.elim
    | some o =>
      cases o with
      | none =>
        rw [z] at P2
        exact .inl ⟨hstop i z, P2.ok rl2 (.ref (e2.at atD))⟩
      | some x =>
        rw [z] at P2
        obtain ⟨go, hy⟩ := hgo i x z
        refine .inr ⟨go, fun H3 => ∃ io3 hp3, Ext W (io1 ++ [D]) (upd H1 D (.dK [])) io3 H3 ∧ Rl W io3 hp3 H3 ∧ Pst W (RV W) E σ Q io3 H3 (dDcL src g tt tk tv hp1.length (wipeS as vs) m (i + 1) hp3), fun H' q => ⟨m, Nat.lt_succ_self m, q⟩, fun v H3 hyl => ?_⟩
        obtain ⟨e3, rl3, r3⟩ := hy v H3 hyl
        refine ⟨io2, hp2, wipeS as vs, x, rl3, M.mono e3 (M.mono e12 wS), r3, ?_⟩
        have P3 := Pst.later P2 e3
        cases z2 : g x (wipeS as vs) with
        | none =>
          simp only [z2] at P3
          exact P3
        | some as3 =>
          simp only [z2] at P3
          intro σ' S' hw
          refine ⟨Eq.trans hw (wipe_wipe σ vs), ?_⟩
          have S2' : M.rel io2 H3 as3 σ' := S'
          refine (step0 (rh := fun _ _ b c => b = c) (f := tt) (σ := σ') rl3 S2' P3).imp fun b H4 ⟨io4, hp4, b', e4, rl4, rb, P4⟩ => ?_
          subst rb
          cases b' with
          | false => exact iteF ⟨io4, hp4, (e2.trans e3).trans e4, rl4, P4⟩
          | true =>
            refine iteT ((step0 (rh := RV W) (f := tk) (σ := σ') rl4 (M.mono e4 S2') P4).imp fun y H5 ⟨io5, hp5, a, e5, rl5, ra, P5⟩ => ?_)
            refine (step0 (rh := RV W) (f := tv) (σ := σ') rl5 (M.mono e5 (M.mono e4 S2')) P5).imp fun w H6 ⟨io6, hp6, c, e6, rl6, rc, P6⟩ => ?_
            have atD6 : io6[hp1.length]? = some D := e6.at (e5.at (e4.at (e3.at (e2.at atD))))
            unfold putAtD at P6
            cases ka : keyOf a with
            | none =>
              simp only [ka] at P6
              exact P6.elim
            | some k =>
              cases z6 : hp6[hp1.length]? with
              | none =>
                simp only [ka, z6] at P6
                exact P6.elim
              | some o6 =>
                cases o6 with
                | dK kvs =>
                  simp only [ka, z6] at P6
                  by_cases hl : kvs.length < SZ
                  · simp only [if_pos hl] at P6
                    obtain ⟨avs, ea, rk⟩ := rl6.dK atD6 z6
                    refine ⟨avs, k, keyOf_in ka ra, ea, by rw [← rk.len]; exact szT hl, ?_⟩
                    have es : Ext W io6 H6 io6 (upd H6 D (.dK (putK avs k w))) := Ext.set _ ea trivial
                    exact ⟨io6, _, ((((e2.trans e3).trans e4).trans e5).trans e6).trans es, rl6.set atD6 ea trivial (.dK ((rk.put k rc).mono es)), Pst.later P6 es⟩
                  · simp only [if_neg hl] at P6
                    exact P6.elim
                | _ =>
                  simp only [ka, z6] at P6
                  exact P6.elim
theorem dcD {kx vx tg iter : Expr} {ifs : List Expr} {scope : Scope} {own : List (Str × Nat)} {f : DI} {g : DG} {tt : DT} {tk tv : DE} (hc : X.calm = true) (hN : X.N.Nodup) (hi : PI X tg iter (tG W M (RSrc W) E f)) (ok : BlkOk X.N X.env.scope scope own)
    (hg : ∀ (s : Shared) (H : Hp) (C : Addr) (cl : List (Str × Addr)) (fp : List Addr), PG (X.blk s H scope (compEnvC scope cl C X.env) fp) tg (tgG W M (wipC (own.map (·.2))) g))
    (ht : ∀ (s : Shared) (H : Hp) (C : Addr) (cl : List (Str × Addr)) (fp : List Addr), PTs (X.blk s H scope (compEnvC scope cl C X.env) fp) ifs (tDT W M E0x tt))
    (hk : ∀ (s : Shared) (H : Hp) (C : Addr) (cl : List (Str × Addr)) (fp : List Addr), PE (X.blk s H scope (compEnvC scope cl C X.env) fp) kx (tD W M E0x tk))
    (hv : ∀ (s : Shared) (H : Hp) (C : Addr) (cl : List (Str × Addr)) (fp : List Addr), PE (X.blk s H scope (compEnvC scope cl C X.env) fp) vx (tD W M E0x tv)) (ho : ∀ v ∈ own.map (·.2), M.ok v) (hs : ∀ x, foldedSetIterable iter X.env x = pure x := by intro _; rfl) :
    PE X (.DictComp kx vx [⟨tg, iter, ifs, 0⟩] scope pos) (tD W M E (dDc f g tt tk tv (own.map (·.2)))) := peI (pe_dc hc hN hi ok hg ht hk hv hs) fun _ _ _ h => dc_in ho h
end

def mergeA (kvs more : List (Key × AV)) : List (Key × AV) := more.foldl (fun acc kv => dput acc kv.1 kv.2) kvs
section
variable {W : Wd} {M : Md W} {E : WX} {X : Cx}
end

def leI (a b : Int) : Bool := decide (a ≤ b)
def sortedL : DL := fun as h => match as with
  | [a] => match lstAt h a with
    | some (_, xs) => (intsOf xs).map fun ns => (.ref h.length, h ++ [AO.lst ((ns.mergeSort leI).map .int)])
    | none => none
  | _ => none
theorem sorted_one : ∀ {l m : List Int}, l.Perm m → l.Pairwise (· ≤ ·) → m.Pairwise (· ≤ ·) → l = m
  | [], m, p, _, _ => by rw [List.nil_perm.mp p]
  | a :: l, [], p, _, _ => absurd p.length_eq (by simp)
  | a :: l, b :: m, p, hl, hm => by
    rw [List.pairwise_cons] at hl hm
    have e : a = b := by
      have h1 : a ∈ b :: m := p.subset List.mem_cons_self
      have h2 : b ∈ a :: l := p.symm.subset List.mem_cons_self
      rcases List.mem_cons.mp h1 with h1 | h1
      · exact h1
      · rcases List.mem_cons.mp h2 with h2 | h2
        · exact h2.symm
        · have := hm.1 a h1
          have := hl.1 b h2
          omega
    subst e
    rw [sorted_one ((List.perm_cons a).mp p) hl.2 hm.2]
theorem mergeI_sorted (ns : List Int) : (ns.mergeSort leI).Pairwise (· ≤ ·) := by
  have h := List.pairwise_mergeSort (le := leI) (fun a b c h1 h2 => by
    have h1 := of_decide_eq_true h1
    have h2 := of_decide_eq_true h2
    exact decide_eq_true (by omega)) (fun a b => by
    unfold leI
    by_cases c : a ≤ b
    · rw [decide_eq_true c]
      rfl
    · rw [decide_eq_true (show b ≤ a by omega), Bool.or_true]) ns
  exact h.imp fun {a b} h => of_decide_eq_true h
section
variable {W : Wd} {X : Cx}
theorem cSorted (hK : X.K = W.K) : CallR X (.builtin "sorted") (tl W sortedL) := call_imp cr_sortedI fun xs H Q ⟨io, hp, as, rl, ra, P⟩ => by
  match as, ra, P with
  | [], .nil, P => exact P.elim
  | _ :: _ :: _, _, P => exact P.elim
  | [a], ra, P =>
    obtain ⟨x, rfl, r1⟩ := one_inv ra
    have P1 : Pop W (RV W) Q io H (match lstAt hp a with
      | some (_, xs) => (intsOf xs).map fun ns => (.ref hp.length, hp ++ [AO.lst ((ns.mergeSort leI).map .int)])
      | none => none) := P
    cases z2 : lstAt hp a with
    | none =>
      rw [z2] at P1
      exact P1.elim
    | some q =>
      obtain ⟨n, ys⟩ := q
      rw [z2] at P1
      obtain ⟨p, vs, rfl, hi, hu, rv⟩ := lstAt_in z2 rl r1
      cases z3 : intsOf ys with
      | none =>
        simp only [z3] at P1
        exact P1.elim
      | some ns =>
        simp only [z3] at P1
        have ev := intsOf_in z3 rv
        subst ev
        refine ⟨p, ns, rfl, SqL.of hu, fun ns' q hp' hs hn => ?_⟩
        have e : ns' = ns.mergeSort leI := sorted_one (hp'.trans (List.mergeSort_perm ns leI).symm) hs (mergeI_sorted ns)
        subst e
        have ex := Ext.new (W := W) io (.lst ((ns.mergeSort leI).map V.int)) hn [q]
        exact P1 _ _ _ ex (rl.new hn (.lst (RVs.ints _))) (.ref (rl.atLen q))
end

section
variable {W : Wd} {X : Cx}
end
end Dn
namespace Dn
open PySem PySem.Spec PyProof.Rows L2

def h0 : DGHs := fun xs s h => match xs with
  | [] => .nx s h
  | _ => .stuck
section
variable {W : Wd} {M : Md W} {E : WX} {X : Cx}
end

def isTK (ct : CT) (n1 n2 : String) (t : Option TW) (h : Hep) : R AV := match t with
  | some t => .ok (.bl (t.sub ct (.ty n1) || t.sub ct (.ty n2))) h
  | none => .stuck
def dIsLT (ct : CT) (n1 n2 : String) (f : DE) : DE := fun s h => (f s h).bind fun a h1 => isTK ct n1 n2 (twOf ct h1 a) h1
section
variable {W : Wd} {M : Md W} {E : WX} {X : Cx}
theorem isLTD {c : CT} {e : Expr} {f : DE} {n1 n2 : String} {x1 x2 : Str} {p1 p2 p3 pt pos : Pos} {k : Nat} (hK : X.K = W.K) (hW : W.ct = c) (hm : X.mg "isinstance" = none) (he : PE X e (tD W M E f)) (hm1 : X.mg x1 = none) (hv1 : bootBuiltins x1 = some (.type n1)) (hm2 : X.mg x2 = none) (hv2 : bootBuiltins x2 = some (.type n2))
    (hn1 : n1 ∈ tyNames := by decide) (hn2 : n2 ∈ tyNames := by decide)
    (hg : Gl X "isinstance" := by rfl) (hg1 : Gl X x1 := by rfl) (hg2 : Gl X x2 := by rfl) (hx1 : x1 ≠ "__name__" := by decide) (hd1 : (x1 == ("__debug__" : Str)) = false := by decide) (hx2 : x2 ≠ "__name__" := by decide) (hd2 : (x2 == ("__debug__" : Str)) = false := by decide)
    (hs : starEach [e, .Tuple [.Name x1 p1, .Name x2 p2] k pt] X.env = (false, eval e X.env) :: starEach [.Tuple [.Name x1 p1, .Name x2 p2] k pt] X.env := by rfl)
    (hs2 : starEach [.Tuple [.Name x1 p1, .Name x2 p2] k pt] X.env = (false, eval (.Tuple [.Name x1 p1, .Name x2 p2] k pt) X.env) :: starEach [] X.env := by rfl)
    (hs3 : starEach [.Name x1 p1, .Name x2 p2] X.env = (false, eval (.Name x1 p1) X.env) :: starEach [.Name x2 p2] X.env := by rfl)
    (hs4 : starEach [.Name x2 p2] X.env = (false, eval (.Name x2 p2) X.env) :: starEach [] X.env := by rfl)
    (hpl : (backTo pos (starEach [.Tuple [.Name x1 p1, .Name x2 p2] k pt] X.env)).any (·.1) = false := by rfl) :
    PE X (.Call (.Name "isinstance" p3) [e, .Tuple [.Name x1 p1, .Name x2 p2] k pt] [] pos) (tD W M E (dIsLT c n1 n2 f)) := by
  subst hW
  have ta : PA X [e, .Tuple [.Name x1 p1, .Name x2 p2] k pt] (tCons (tD W M E f) (tCons (tTup (tCons (tC (.ty n1)) (tCons (tC (.ty n2)) tNil))) tNil)) :=
    pa_cons he (pa_cons (pe_tup (pa_cons (pe_bltn hg1 hm1 hv1 (v := .ty n1) rfl hx1 hd1) (pa_cons (pe_bltn hg2 hm2 hv2 (v := .ty n2) rfl hx2 hd2) pa_nil (by exact hs4)) (by exact hs3))) pa_nil (by exact hs2)) (by exact hs)
  refine peI (pe_callB call_isiT hg hm PyProof.Rows.Boot.«isinstance» ta (by decide) (by decide) (by exact hs) (by exact hpl)) fun σ H Q ⟨io, hp, as, rl, S, P⟩ => ?_
  refine (step (rh := RV W) (rh' := RV W) (f := f) rl S P).imp fun x H1 ⟨io2, hp2, a, e2, rl2, ra, P2⟩ => ?_
  refine ⟨(by decide : 2 ≤ sizeLine), fun p hp0 => ?_⟩
  cases z : twOf W.ct hp2 a with
  | none =>
    rw [z] at P2
    exact P2.elim
  | some t =>
    rw [z] at P2
    have e3 : Ext W io2 H1 io2 (upd H1 p (.tup [.ty n1, .ty n2])) := Ext.new0 hp0
    have rl3 : Rl W io2 hp2 (upd H1 p (.tup [.ty n1, .ty n2])) := rl2.other hp0
    obtain ⟨k1, t1⟩ := twOf_in z rl3 (ra.mono e3)
    have a1 := TW.sub_in (a := t) (b := .ty n1) W k1 hn1
    have a2 := TW.sub_in (a := t) (b := .ty n2) W k1 hn2
    refine ⟨x, p, _, t.val W, [.type n1, .type n2], t.sub W.ct (.ty n1) || t.sub W.ct (.ty n2), rfl, upd_same, .cons (.ty n1) (.cons (.ty n2) .nil), by rw [hK]; exact t1, ?_, ?_⟩
    · rw [hK]
      refine kitAny_cons a1 (fun z1 => ?_) (fun z1 => by rw [z1]; rfl)
      refine kitAny_cons a2 (fun z2 => ?_) (fun z2 => by rw [z2, Bool.or_true])
      rw [z1, z2]
      exact kitAny_nil
    · exact (Pst.later P2 e3).ok rl3 (.bl _)
end
end Dn
namespace PySem
open Sem (wp)
section
variable {prog : Program} {w : World} {A : Around} {E : Value → Shared → Prop} {s : Shared}
/-- one step of a walk through a dict's keys, as enumerate asks for it -/
theorem dn_draw_key {a d : Addr} {i n ep : Nat} {ob : Obj} {L : Array DictEntry} {x : DictEntry} {Q : Value → Shared → Prop} (ki : s.heap.IsKeyIter a d i n ep) (gd : s.heap.get? d = some ob) (dt : ob.data = .dict L ep)
    (len : L.size = n) (at_ : L[i]? = some x) (q : ∀ h', h'.IsKeyIter a d (i + 1) n ep → Heap.SameBut a s.heap h' → Q x.key { s with heap := h' }) : wpAny (model prog w) A (Builtin.SmallTypes.nextOf (.ref a)) Q E s := by
  obtain ⟨oi, gi, ci, di⟩ := id ki
  unfold Builtin.SmallTypes.nextOf
  have own : Builtin.Dict_items.ownsTuple "dict_keyiterator" = false := by decide
  obtain ⟨lt, ex⟩ := Array.getElem?_eq_some_iff.mp at_
  have on_ : (s.heap.update a (Obj.mapFields (·.setIfInBounds 1 (rawInt ((i : Int) + 1))))).IsKeyIter a d (i + 1) n ep := by
    refine ⟨_, Heap.get?_update_self _ gi (Obj.isFreed_of_fields (Obj.data_mapFields di _)), (Obj.cls_mapFields ..).trans ci, ?_⟩
    rw [Obj.data_mapFields di]; simp [rawInt]
  refine wpAny_bind (wpAny_callSpecial?_slot (name := Str.ofString "__next__") ki.typeIs F.slot_dict_keyiterator_next (wpAny_call_entry F.slot_dict_keyiterator_next ki.typeIs F.entry_dict_keyiterator_next ?_ (F.args_dict_keyiterator_next_1 _)))
  refine wpAny_bind (wpAny_pure (wpAny_bind (wpAny_bind ?_)))
  first | refine wpAny_bind (wpAny_typeNameOfWhole_keyiter ki.typeIs (wpAny_pure (wpAny_bind (wpAny_fieldsOf gi di ?_)))) | refine wpAny_bind (wpAny_typeNameOf_keyiter ki.typeIs (wpAny_pure (wpAny_bind (wpAny_fieldsOf gi di ?_))))
  simp only [own, Bool.false_eq_true, if_false]
  show wpAny _ _ (if (Value.ref d == Value.none) = true then _ else _) _ _ s
  rw [if_neg (by exact Bool.false_ne_true : ¬ (Value.ref d == Value.none) = true)]
  refine wpAny_bind (wpAny_pure (wpAny_bind (wpAny_dictEntries gd dt ?_))); rw [if_neg (by rw [len]; simp)]
  refine wpAny_bind (wpAny_pure (wpAny_bind (wpAny_dictEpoch gd dt ?_))); rw [if_neg (by simp)]; refine wpAny_pure ?_
  simp only [show ¬ ((i : Int) < 0) from Int.not_lt.mpr (Int.natCast_nonneg i), if_false, Int.toNat_natCast, Array.getElem?_eq_getElem lt]
  refine wpAny_bind ?_
  first | refine wpAny_bind (wpAny_typeNameOfWhole_keyiter ki.typeIs (wpAny_pure (wpAny_bind (wpAny_isOneOf_keyiter ki.typeIs ?_)))) | refine wpAny_bind (wpAny_typeNameOf_keyiter ki.typeIs (wpAny_pure (wpAny_bind (wpAny_isOneOf_keyiter ki.typeIs ?_))))
  show wpAny _ _ (setField (.ref a) 1 (rawInt ((i : Int) + 1)) >>= _) _ _ s
  refine wpAny_bind (wpAny_setField gi di (by simp) (wpAny_bind (wpAny_holding (wpAny_bind ?_))))
  refine wpAny_isOneOf_keyiter (s := { s with heap := s.heap.update a (Obj.mapFields (·.setIfInBounds 1 (rawInt ((i : Int) + 1)))) }) on_.typeIs ?_
  show wpAny _ _ (pure L[i].key) _ _ _
  rw [ex]
  exact wpAny_pure (wpAny_pure ⟨_, rfl, wpAny_pure (q _ on_ (Heap.SameBut.update ..))⟩)
theorem dn_draw_key_end {a d : Addr} {i n ep : Nat} {ob : Obj} {L : Array DictEntry} {Q : Value → Shared → Prop} (hh : A.handled = none) (ki : s.heap.IsKeyIter a d i n ep) (gd : s.heap.get? d = some ob) (dt : ob.data = .dict L ep)
    (len : L.size = n) (ge : n ≤ i) (q : ∀ h' e, Heap.ExtBut a s.heap h' → (∃ o, h'.get? e = some o ∧ o.cls = .type "StopIteration") → E (.ref e) { s with heap := h' }) : wpAny (model prog w) A (Builtin.SmallTypes.nextOf (.ref a)) Q E s := by
  obtain ⟨oi, gi, ci, di⟩ := id ki
  unfold Builtin.SmallTypes.nextOf
  have own : Builtin.Dict_items.ownsTuple "dict_keyiterator" = false := by decide
  have none_ : L[i]? = none := Array.getElem?_eq_none (by rw [len]; exact ge)
  refine wpAny_bind (wpAny_callSpecial?_slot (name := Str.ofString "__next__") ki.typeIs F.slot_dict_keyiterator_next (wpAny_call_entry F.slot_dict_keyiterator_next ki.typeIs F.entry_dict_keyiterator_next ?_ (F.args_dict_keyiterator_next_1 _)))
  refine wpAny_bind (wpAny_pure (wpAny_bind (wpAny_bind ?_)))
  first | refine wpAny_bind (wpAny_typeNameOfWhole_keyiter ki.typeIs (wpAny_pure (wpAny_bind (wpAny_fieldsOf gi di ?_)))) | refine wpAny_bind (wpAny_typeNameOf_keyiter ki.typeIs (wpAny_pure (wpAny_bind (wpAny_fieldsOf gi di ?_))))
  simp only [own, Bool.false_eq_true, if_false]
  show wpAny _ _ (if (Value.ref d == Value.none) = true then _ else _) _ _ s
  rw [if_neg (by exact Bool.false_ne_true : ¬ (Value.ref d == Value.none) = true)]
  refine wpAny_bind (wpAny_pure (wpAny_bind (wpAny_dictEntries gd dt ?_))); rw [if_neg (by rw [len]; simp)]
  refine wpAny_bind (wpAny_pure (wpAny_bind (wpAny_dictEpoch gd dt ?_))); rw [if_neg (by simp)]; refine wpAny_pure ?_
  simp only [show ¬ ((i : Int) < 0) from Int.not_lt.mpr (Int.natCast_nonneg i), if_false, Int.toNat_natCast, none_]
  refine wpAny_bind ?_
  first | refine wpAny_bind (wpAny_typeNameOfWhole_keyiter ki.typeIs (wpAny_pure ?_)) | refine wpAny_bind (wpAny_typeNameOf_keyiter ki.typeIs (wpAny_pure ?_))
  show wpAny _ _ (setField (.ref a) 0 .none >>= _) _ _ s
  refine wpAny_bind (wpAny_setField gi di (by simp) ?_)
  show wpAny _ _ (newExc (.type "StopIteration") [] >>= _) _ _ _
  refine wpAny_bind ?_
  simp only [newExc, newTuple]
  refine wpAny_bind (wpAny_newObj_type (wpAny_bind (m := firstArgMember _ _) (wpAny_of_eq (a := Value.none) (by first | rfl | (simp only [firstArgMember]; rfl)) (wpAny_newObj_type ?_ (by size_fits)))) (by size_fits))
  simp only [raiseNew]
  refine wpAny_bind (wpAny_handled ?_)
  first | rw [show A.in1.handled = none from hh] | rw [hh]
  exact wpAny_bind (wpAny_pure (wpAny_throw (q _ _ (((Heap.SameBut.update ..).extBut.push _).push _) ⟨_, Heap.get?_push_size _ rfl, rfl⟩)))
end
end PySem
namespace Dn
open PySem PySem.Spec PyProof.Rows L2

theorem draws_keys {prog : Program} {w : World} {A : Around} (hh : A.handled = none) (it d : Addr) (ne : d ≠ it) (L : Array DictEntry) (ep : Nat) :
    Draws prog w A it [it, d] L.size (fun i v => ∃ x, L[i]? = some x ∧ v = x.key) (fun i h => h.IsKeyIter it d i L.size ep ∧ ∃ o, h.get? d = some o ∧ o.data = .dict L ep) where
  live := fun _ _ st => by
    obtain ⟨o, ho, _⟩ := st.1
    exact ⟨o, ho⟩
  frame := fun _ _ _ st k => by
    obtain ⟨s1, o, s2, s3⟩ := st
    exact ⟨s1.at fun o e => k it (by simp) o e, o, k d (by simp) o s2, s3⟩
  item := fun i s Q E hi st q => by
    obtain ⟨s1, o, s2, s3⟩ := st
    have at_ : L[i]? = some L[i] := Array.getElem?_eq_getElem hi
    exact dn_draw_key s1 s2 s3 rfl at_ fun h' k' sb => q _ h' s.toks ⟨_, at_, rfl⟩ ⟨k', o, (sb.2 d ne).trans s2, s3⟩ sb
  done := fun s Q E st q => by
    obtain ⟨s1, o, s2, s3⟩ := st
    exact dn_draw_key_end hh s1 s2 s3 rfl (Nat.le_refl _) q
def ItK (d : Addr) (o : Obj) (kvs : List (Key × V)) : It :=
  ⟨fun i H => H d = some (.frz o (.dK kvs)) ∧ i < kvs.length, fun i H v H' => ∃ T k x, v = .ref T ∧ H T = none ∧ kvs[i]? = some (k, x) ∧ H' = upd H T (.tup [.int (i : Nat), kV k]), fun i H => H d = some (.frz o (.dK kvs)) ∧ kvs.length ≤ i⟩
theorem turn_enumK {P : Program} {w : World} {K : PySem.W.Frag} {elts : List Expr} {kk : Nat} {tpos : Pos} {kvs : List (Key × V)} {o : Obj} {L : Array DictEntry} {ep : Nat} (d e it : Addr) (hod : o.data = .dict L ep) :
    Turn P w K (.Tuple elts kk tpos) (ItK d o kvs) [e, it] e (fun i h => (∃ old, IsEnum h e it ((i : Nat) : Int) old) ∧ h.IsKeyIter it d i kvs.length ep ∧ e ≠ it ∧ d ≠ it ∧ d ≠ e) where
  mem := by simp
  obj := fun i h st b hb => by
    obtain ⟨⟨old, he⟩, ⟨oi, ho, hc, hd⟩, _⟩ := st
    rcases (by simpa using hb : b = e ∨ b = it) with rfl | rfl
    · exact ⟨_, he, fun v q => nomatch q⟩
    · exact ⟨oi, ho, fun v q => by rw [hd] at q; cases q⟩
  keep := fun i h h' st k => by
    obtain ⟨⟨old, he⟩, hi, r⟩ := st
    exact ⟨⟨old, k e (by simp) _ he⟩, hi.at fun o q => k it (by simp) o q, r⟩
  item := by
    intro X hP hw hK hc i pins s σ H E I hf st hg
    subst hP hw hK
    obtain ⟨⟨old, he⟩, hit, hne, hdi, hde⟩ := st
    obtain ⟨hd, hi⟩ := hg
    obtain ⟨hs, hgd, hx, es', ep', vs, hdt, hsz, kv, hm⟩ := I.frzK hd
    obtain ⟨rfl, rfl⟩ := dict_ep hod hdt
    obtain ⟨⟨k, v⟩, hkv⟩ : ∃ p, kvs[i]? = some p := ⟨kvs[i], List.getElem?_eq_getElem hi⟩
    obtain ⟨u, hu, ru⟩ := kv_get kv hkv
    have hlt : i < es'.size := by
      rw [hsz]
      exact hi
    obtain ⟨o2, es2, g2, _, d2, _, prs, _⟩ := id hm
    rw [hgd] at g2
    cases g2
    obtain ⟨rfl, _⟩ := dict_ep hdt d2
    have kis : keyIs k es2[i].key = true := (prs.get? (e := es2[i]) (by simp [hlt]) hu).1
    rw [← hsz] at hit
    have D : Draws X.prog X.w X.A.in1 it [it, d] es2.size (fun i v => ∃ x, es2[i]? = some x ∧ v = x.key) (fun i h => h.IsKeyIter it d i es2.size ep' ∧ ∃ o, h.get? d = some o ∧ o.data = .dict es2 ep') := draws_keys (show X.A.in1.handled = none from I.ok.hd hc) it d hdi es2 ep'
    have hel : e < s.heap.objs.size := Heap.lt_size he
    have hil : it < s.heap.objs.size := by
      obtain ⟨_, q, _⟩ := hit
      exact Heap.lt_size q
    have hef : e ∉ [it, d] := fun z => by
      rcases (by simpa using z : e = it ∨ e = d) with z | z
      · exact hne z
      · exact hde z.symm
    refine wpAny_pyNext_enum_itemC D he ⟨hit, o, hgd, hdt⟩ hlt hne hef fun y h' tk hP ho hit' hT hsz2 hk => ?_
    obtain ⟨en, e1, ey⟩ := hP
    rw [Array.getElem?_eq_getElem hlt] at e1
    cases e1
    subst ey
    refine ⟨_, rfl, wpAny_letOwnedTupleGo_enum (s := { s with heap := h', toks := tk + 1 }) ho fun h'' he' sb => ?_⟩
    have hT2 : h''.get? s.heap.objs.size = some { cls := .type "tuple", data := .seq #[.int i tk, es2[i].key] } := (sb.2 _ (Nat.ne_of_gt hel)).trans hT
    have new : ObjOk X.prog X.w (upd H s.heap.objs.size (.tup [.int (i : Nat), kV k])) h'' s.heap.objs.size (.tup [.int (i : Nat), kV k]) :=
      ⟨by show 2 ≤ sizeLine; decide, [.int i tk, es2[i].key], .cons ⟨_, rfl⟩ (.cons (relV_key kis) .nil), ⟨_, hT2, rfl, _, rfl⟩⟩
    have I1 : Inv X pins σ (upd H s.heap.objs.size (.tup [.int (i : Nat), kV k])) { s with heap := h'', toks := tk + 1 } :=
      I.turnedNew (ch := [e, it]) (fun b ob hb q => (sb.2 b (fun z => hb (by simp [z]))).trans (hk b ob (fun z => hb (by simp [z])) (fun z => hb (by simp [z])) q)) hf (Nat.le_refl _) new
    have st3 : h''.IsKeyIter it d (i + 1) kvs.length ep' := by
      rw [← hsz]
      exact hit'.1.at fun o q => (sb.2 it (Ne.symm hne)).trans q
    have st4 : IsEnum h'' e it ((i + 1 : Nat) : Int) es2[i].key := by
      rw [show ((i + 1 : Nat) : Int) = (i : Int) + 1 by omega]
      exact he'
    refine ⟨.ref s.heap.objs.size, _, I1, rfl, ⟨_, k, v, rfl, I.hok.fresh (Nat.le_refl _), hkv, rfl⟩, ⟨⟨_, st4⟩, st3, hne, hdi, hde⟩, fun b hb => ?_⟩
    · have hb' : b < s.heap.objs.size := by
        rcases (by simpa using hb : b = e ∨ b = it) with z | z
        · rw [z]; exact hel
        · rw [z]; exact hil
      rw [upd_ne (Nat.ne_of_lt hb')]
      exact (hf b hb).1
  done := by
    intro X hP hw hK hc i pins s σ H E I hf st hg
    subst hP hw hK
    obtain ⟨⟨old, he⟩, hit, hne, hdi, hde⟩ := st
    obtain ⟨hd, hi⟩ := hg
    obtain ⟨hs, hgd, hx, es', ep', vs, hdt, hsz, kv, hm⟩ := I.frzK hd
    obtain ⟨rfl, rfl⟩ := dict_ep hod hdt
    obtain ⟨f0, f1, f2, f3, f4, f5⟩ := hf it (by simp)
    rw [← hsz] at hit hi
    have D : Draws X.prog X.w X.A.in1 it [it, d] i (fun i v => ∃ x, es'[i]? = some x ∧ v = x.key) (fun j h => j = i ∧ h.IsKeyIter it d j es'.size ep' ∧ ∃ o, h.get? d = some o ∧ o.data = .dict es' ep') :=
      { live := fun _ _ st => by
          obtain ⟨_, ⟨o, ho, _⟩, _⟩ := st
          exact ⟨o, ho⟩
        frame := fun _ _ _ st k => by
          obtain ⟨s0, s1, o, s2, s3⟩ := st
          exact ⟨s0, s1.at fun o e => k it (by simp) o e, o, k d (by simp) o s2, s3⟩
        item := fun j s Q E hj st q => absurd st.1 (Nat.ne_of_lt hj)
        done := fun s Q E st q => by
          obtain ⟨_, s1, o, s2, s3⟩ := st
          exact dn_draw_key_end (show X.A.in1.handled = none from I.ok.hd hc) s1 s2 s3 rfl hi q }
    exact wpAny_pyNext_enum_endD D he ⟨rfl, hit, o, hgd, hdt⟩ fun h' eb => ⟨rfl, I.turned (t' := s.toks) (fun b o hb q => eb b o hb q) f0 f1 f3 f4 f5⟩
  self := fun A i s Q E st h => by
    obtain ⟨⟨_, he⟩, _⟩ := st
    exact wpAny_pyIter_enum he h
section
variable {W : Wd} {io : List Addr} {H : Hp} {n : Nat} {p : Addr} {od : Obj} {vs : List (Key × V)}
theorem src_enK (hi : io[n]? = some p) (hd : H p = some (.frz od (.dK vs))) : RSrc W io H (.dK n 3) (ItK p od vs) := fun io' H' hp e rl => by
  refine ⟨fun i z => ?_, fun i x z => ?_⟩
  · obtain ⟨kvs, z1, z2⟩ := dk_next z
    obtain ⟨h1, rk⟩ := frz_at hi hd e rl z1
    refine ⟨h1, ?_⟩
    rw [← rk.len]
    exact List.getElem?_eq_none_iff.mp (Option.map_eq_none_iff.mp z2.symm)
  · obtain ⟨kvs, z1, z2⟩ := dk_next z
    obtain ⟨h1, rk⟩ := frz_at hi hd e rl z1
    obtain ⟨⟨q, a⟩, e1, rfl⟩ := Option.map_eq_some_iff.mp z2.symm
    obtain ⟨v, e2, rv⟩ := rk.at_ e1
    refine ⟨⟨h1, (List.getElem?_eq_some_iff.mp e2).1⟩, fun w H2 ⟨T, k2, v2, ew, hT, e3, eH⟩ => ?_⟩
    subst eH
    subst ew
    rw [e2] at e3
    cases e3
    have ex : Ext W io' H' io' (upd H' T (.tup [.int (i : Nat), kV q])) := Ext.new0 hT
    exact ⟨ex, rl.other hT, .tup (.inl (.inl upd_same)) (.cons (.int _) (.cons (rv_key q) .nil))⟩
end
theorem begins_keys {prog0 : Program} {d : Addr} {o : Obj} {L : Array DictEntry} {ep : Nat} (hd : (d == sysModules) = false) (hx : o.ExactDict) (dt : o.data = .dict L ep) :
    Begins (.ref d) { cls := .type "dict_keyiterator", data := .fields #[.ref d, .int 0 0, .int L.size 0, .int ep 0] } (fun h => h.get? d = some o) where
  iter := fun prog w A E s Q g h => iter_keys hd g hx dt h
  keeps := fun h h' x k => k d o x
  free := rfl
section
variable {W : Wd} {M : Md W} {E : WX} {X : Cx} {e : Expr} {f : DE} {p pos tpos : Pos} {elts : List Expr} {kk : Nat}
theorem enkD (hK : X.K = W.K) (he : PE X e (tD W M E f)) (hm : X.mg "enumerate" = none) (hg : Gl X "enumerate" := by rfl) (hs : starEach [e] X.env = [(false, eval e X.env)] := by rfl) :
    PI X (.Tuple elts kk tpos) (.Call (.Name "enumerate" p) [e] [] pos) (tG W M (RSrc W) E (dDk 3 f)) := by
  refine ⟨fun pins s σ H R I h => ?_⟩
  have h0 : tCons (tD W M E f) tNil σ H (fun vs H1 => ∃ (d : Addr) (o : Obj) (kvs : List (Key × V)) (io : List Addr) (n : Nat) (hp : Hep), vs = [.ref d] ∧ H1 d = some (.frz o (.dK kvs)) ∧ io[n]? = some d ∧ Rl W io hp H1 ∧ Pst W (RSrc W) E σ R io H1 (.ok (.dK n 3) hp)) :=
    (dk_in h).imp fun x H1 ⟨d, o, kvs, io, n, hp, ex, hd, hi, rl, P⟩ => ⟨d, o, kvs, io, n, hp, by rw [ex], hd, hi, rl, P⟩
  refine Call_ (ld_blt I hg hm boot_enumerate (PyProof.Rows.callWith_type1 (thn ((pa_cons he pa_nil hs).run pos pins s σ H _ I h0) fun us s1 ⟨vs, H1, I1, r1, q1⟩ => ?_) hs rfl))
  obtain ⟨d, o, kvs, io, n, hp, rfl, hd, hi, rl, P⟩ := q1
  obtain ⟨u, rfl, ru⟩ := vals1 r1
  obtain rfl : u = Value.ref d := ru
  obtain ⟨hss, hgd, hx, es, ep, vs, hdt, hsz, kv, hm2⟩ := I1.frzK hd
  have hlt : d < s1.heap.objs.size := Heap.lt_size hgd
  have fp : ∀ b ∈ [s1.heap.objs.size + 1, s1.heap.objs.size], FpOk X pins H1 b := fun b hb => by
    have hle : s1.heap.objs.size ≤ b := by
      rcases (by simpa using hb : b = s1.heap.objs.size + 1 ∨ b = s1.heap.objs.size) with z | z
      · rw [z]; exact Nat.le_add_right _ _
      · rw [z]; exact Nat.le_refl _
    exact I1.fpOk hle (I1.hok.fresh hle)
  refine dn_enum_begins (begins_keys (prog0 := X.prog) hss hx hdt) hgd fun h' he hit hsz2 hk => wpAny_pyIter_enum he ?_
  have I2 : Inv X pins σ H1 { s1 with heap := h' } := I1.kept (t' := s1.toks) hk
  refine ⟨s1.heap.objs.size + 1, [s1.heap.objs.size + 1, s1.heap.objs.size], _, ItK d o kvs, H1, rfl, I2, turn_enumK d (s1.heap.objs.size + 1) s1.heap.objs.size hdt, ⟨⟨.none, he⟩, ⟨_, hit, rfl, by rw [hsz]; rfl⟩, Nat.succ_ne_self _, Nat.ne_of_lt hlt, Nat.ne_of_lt (Nat.lt_succ_of_lt hlt)⟩, fp, ?_⟩
  exact P.ok rl (src_enK hi hd)
end
end Dn
namespace Dn
open PySem PySem.Spec PyProof.Rows L2

def liK (o : Option (Nat × List (Key × AV))) (h : Hep) : R AV := match o with
  | some (_, kvs) => .ok (.ref h.length) (h ++ [AO.lst (kvs.map fun kv => .tup [ofKey kv.1, kv.2])])
  | none => .stuck
def dLi (fo : DE) : DE := fun s h => (fo s h).bind fun o h1 => liK (dicAt h1 o) h1
section
variable {W : Wd} {M : Md W} {E : WX} {X : Cx} {io : List Addr} {H H' : Hp} {hp : Hep}
theorem Ext.grow (k : ∀ b o, H b = some o → H' b = some o) (io l : List Addr) : Ext W io H (io ++ l) H' :=
  ⟨⟨l, rfl⟩, fun a xs h => by
    rcases h with (h | ⟨o, h⟩) | h
    · exact .inl (.inl (k _ _ h))
    · exact .inl (.inr ⟨o, k _ _ h⟩)
    · exact .inr h, fun a xs h => by
    rcases h with ⟨o, h⟩ | h
    · exact .inl ⟨o, k _ _ h⟩
    · exact .inr h, fun a fs h => k _ _ h, fun a o u h => k _ _ h, fun a u h => k _ _ h, fun h p hp => (h p hp).ext k⟩
theorem Rl.gain (rl : Rl W io hp H) (k : ∀ b o, H b = some o → H' b = some o) {p : Addr} {o : AO} {u : HO} (hn : H p = none) (e : H' p = some u) (r : RO W (io ++ [p]) H' o u) : Rl W (io ++ [p]) (hp ++ [o]) H' := by
  have hp' : p ∉ io := fun h => by
    obtain ⟨u, e⟩ := rl.mem h
    rw [hn] at e
    cases e
  refine ⟨by simp [rl.len], ?_, fun i a q hi h => ?_, fun p h => (rl.tb p h).ext k⟩
  · refine List.nodup_append.mpr ⟨rl.nd, by simp, fun a ha b hb => ?_⟩
    rw [List.mem_singleton] at hb
    subst hb
    exact fun z => hp' (z ▸ ha)
  · by_cases hl : i < io.length
    · rw [List.getElem?_append_left hl] at hi
      rw [List.getElem?_append_left (by rw [← rl.len]; exact hl)] at h
      obtain ⟨u, e, r'⟩ := rl.at hi h
      exact ⟨u, k _ _ e, r'.mono (Ext.grow k io [p])⟩
    · obtain ⟨l1, z1⟩ := List.getElem?_eq_some_iff.mp hi
      obtain ⟨l2, z2⟩ := List.getElem?_eq_some_iff.mp h
      rw [List.length_append, List.length_singleton] at l1
      have ei : i = io.length := by omega
      have ei2 : i = hp.length := by rw [← rl.len]; exact ei
      have e1 : a = p := by
        rw [ei, List.getElem?_append_right (Nat.le_refl _), Nat.sub_self] at hi
        exact (Option.some.inj hi).symm
      have e2 : q = o := by
        rw [ei2, List.getElem?_append_right (Nat.le_refl _), Nat.sub_self] at h
        exact (Option.some.inj h).symm
      subst e1
      subst e2
      exact ⟨u, e, r⟩
theorem items_in {io : List Addr} {H H' : Hp} (ex : Ext W io H io H') : ∀ {kvs : List (Key × AV)} {vs : List (Key × V)} {ts : List Addr}, RKs W io H kvs vs → Paired (fun (t : Addr) (q : Key × V) => H' t = some (.tup [kV q.1, q.2])) ts vs → RVs W io H' (kvs.map fun kv => .tup [ofKey kv.1, kv.2]) (ts.map V.ref)
  | _, _, _, .nil, .nil => .nil
  | _, _, _, .cons r q, .cons e t => .cons (.tup (.inl (.inl e)) (.cons (rv_key _) (.cons (r.mono ex) .nil))) (items_in ex q t)
theorem liD {e : Expr} {fo : DE} {p apos cpos pos : Pos} (hc : X.calm = true) (hm : X.mg "list" = none) (hv : bootBuiltins "list" = some (.type "list")) (he : PE X e (tD W M E fo)) (hg : Gl X "list" := by rfl) (hbase : attributeBase e "items" X.env (eval e X.env) = eval e X.env := by rfl) (hline : (apos.endLine == cpos.line) = true := by rfl)
    (hs : starEach [.Call (.Attribute e "items" apos) [] [] cpos] X.env = (false, eval (.Call (.Attribute e "items" apos) [] [] cpos) X.env) :: starEach [] X.env := by rfl) :
    PE X (.Call (.Name "list" p) [.Call (.Attribute e "items" apos) [] [] cpos] [] pos) (tD W M E (dLi fo)) := peI (LiI.pe_listItems hc he hg hm hv hbase hline hs) fun σ H Q ⟨io, hp, as, rl, S, P⟩ => by
  refine (step (rh := RV W) (rh' := RV W) (f := fo) rl S P).imp fun x H1 ⟨io2, hp2, a, e2, rl2, ra, P2⟩ => ?_
  cases z : dicAt hp2 a with
  | none =>
    rw [z] at P2
    exact P2.elim
  | some q =>
    obtain ⟨n, kvs⟩ := q
    rw [z] at P2
    obtain ⟨p, vs, rfl, ea, hi, hn, hd, rk⟩ := dicAt_in z rl2 ra
    refine ⟨p, vs, rfl, hd, fun H' L ts k hL hts hLt eL pr => ?_⟩
    have ex0 : Ext W io2 H1 io2 H' := by
      have := Ext.grow (W := W) k io2 []
      rwa [List.append_nil] at this
    have ex : Ext W io2 H1 (io2 ++ [L]) H' := Ext.grow k io2 [L]
    have ex1 : Ext W io2 H' (io2 ++ [L]) H' := Ext.grow (fun _ _ z => z) io2 [L]
    have rl3 : Rl W (io2 ++ [L]) (hp2 ++ [AO.lst (kvs.map fun kv => .tup [ofKey kv.1, kv.2])]) H' := rl2.gain k hL eL (.lst ((items_in ex0 rk pr).mono ex1))
    have at_ : (io2 ++ [L])[hp2.length]? = some L := by
      rw [← rl2.len]
      simp
    exact P2 _ _ _ ex rl3 (.ref at_)
end
end Dn
namespace Dn
open PySem L2
theorem set_last {h : Hep} {a b : AO} : (h ++ [a]).set h.length b = h ++ [b] := by
  rw [List.set_append_right _ _ (Nat.le_refl _), Nat.sub_self]
  rfl
theorem at_last {h : Hep} {a : AO} : (h ++ [a])[h.length]? = some a := by
  rw [List.getElem?_append_right (Nat.le_refl _), Nat.sub_self]
  rfl
theorem keyOf_of (q : Key) : keyOf (ofKey q) = some q := by
  cases q <;> rfl
theorem dput_len (kvs : List (Key × AV)) (q : Key) (v : AV) : (dput kvs q v).length ≤ kvs.length + 1 := by
  unfold dput
  split
  · simp
  · simp
theorem dcL_pure {src : Src} {g : DG} {tk tv : DE} {s0 : Sl} {h1 : Hep} {xs : List AV} {kvs : List (Key × AV)} (hl : xs.length = kvs.length) (hz : xs.length ≤ 100000) (hs : ∀ (acc : List (Key × AV)) (i : Nat), src.next i (h1 ++ [AO.dK acc]) = some xs[i]?)
    (step : ∀ (i : Nat) (x : AV) (q : Key) (v : AV) (acc : List (Key × AV)), xs[i]? = some x → kvs[i]? = some (q, v) → ∃ s1, g x s0 = some s1 ∧ tk s1 (h1 ++ [AO.dK acc]) = .ok (ofKey q) (h1 ++ [AO.dK acc]) ∧ tv s1 (h1 ++ [AO.dK acc]) = .ok v (h1 ++ [AO.dK acc])) :
    ∀ (k i : Nat) (acc : List (Key × AV)), k + i = xs.length → acc.length ≤ i → dDcL src g dYes tk tv h1.length s0 (k + 1) i (h1 ++ [AO.dK acc]) = .ok (.ref h1.length) (h1 ++ [AO.dK (mergeA acc (kvs.drop i))])
  | k, i, acc, e, ha => by
    have hn := hs acc i
    cases z : xs[i]? with
    | none =>
      have hi := List.getElem?_eq_none_iff.mp z
      rw [z] at hn
      rw [List.drop_eq_nil_of_le (by omega)]
      unfold dDcL
      simp only [hn]
      rfl
    | some x =>
      obtain ⟨hi, _⟩ := List.getElem?_eq_some_iff.mp z
      obtain ⟨k, rfl⟩ : ∃ m, k = m + 1 := ⟨k - 1, by omega⟩
      rw [z] at hn
      obtain ⟨⟨q, v⟩, z2⟩ : ∃ p, kvs[i]? = some p := ⟨_, List.getElem?_eq_getElem (by omega)⟩
      obtain ⟨s1, e1, e2, e3⟩ := step i x q v acc z z2
      have hzz : acc.length < SZ := by
        have : SZ = 1000000 := rfl
        omega
      have e5 : putAtD h1.length (keyOf (ofKey q)) v (h1 ++ [AO.dK acc]) = some (h1 ++ [AO.dK (dput acc q v)]) := by
        unfold putAtD
        rw [keyOf_of, at_last]
        simp only [if_pos hzz, set_last]
      have r := dcL_pure hl hz hs step k (i + 1) (dput acc q v) (by omega) (Nat.le_trans (dput_len _ _ _) (Nat.succ_le_succ ha))
      have ed : kvs.drop i = (q, v) :: kvs.drop (i + 1) := by
        obtain ⟨l2, z3⟩ := List.getElem?_eq_some_iff.mp z2
        rw [← z3]
        exact List.drop_eq_getElem_cons l2
      rw [ed]
      show dDcL src g dYes tk tv h1.length s0 (k + 1 + 1) i (h1 ++ [AO.dK acc]) = .ok (.ref h1.length) (h1 ++ [AO.dK (mergeA (dput acc q v) (kvs.drop (i + 1)))])
      rw [← r]
      have t1 : dYes s1 (h1 ++ [AO.dK acc]) = .ok true (h1 ++ [AO.dK acc]) := rfl
      unfold dDcL
      simp only [hn, e1, t1, R.noX_ok, R.bind_ok, e2, e3, e5]
      rfl
theorem dc_pure {f : DI} {src : Src} {g : DG} {tk tv : DE} {vs : List Nat} {s : Sl} {h h1 : Hep} {xs : List AV} {kvs : List (Key × AV)} (ef : f s h = .ok src h1) (hl : xs.length = kvs.length) (hz : xs.length ≤ 100000) (hlen : src.len h1 = xs.length) (hs : ∀ (acc : List (Key × AV)) (i : Nat), src.next i (h1 ++ [AO.dK acc]) = some xs[i]?)
    (step : ∀ (i : Nat) (x : AV) (q : Key) (v : AV) (acc : List (Key × AV)), xs[i]? = some x → kvs[i]? = some (q, v) → ∃ s1, g x (wipeS s vs) = some s1 ∧ tk s1 (h1 ++ [AO.dK acc]) = .ok (ofKey q) (h1 ++ [AO.dK acc]) ∧ tv s1 (h1 ++ [AO.dK acc]) = .ok v (h1 ++ [AO.dK acc])) :
    dDc f g dYes tk tv vs s h = .ok (.ref h1.length) (h1 ++ [AO.dK (mergeA [] kvs)]) := by
  have r := dcL_pure hl hz hs step xs.length 0 [] (by omega) (Nat.le_refl _)
  unfold dDc
  rw [ef]
  show dDcL src g dYes tk tv h1.length (wipeS s vs) (src.len h1 + 1) 0 (h1 ++ [AO.dK []]) = _
  rw [hlen]
  exact r
theorem lk_pure {fd f : DE} {s : Sl} {h hx g : Hep} {n : Nat} {kvs : List (Key × AV)} {v : AV} (ed : fd s h = .ok (.ref n) hx) (en : h[n]? = some (.dK kvs)) (e : f s (h.set n (.frz (.dK kvs))) = .ok v (h.set n (.frz (.dK kvs)) ++ g)) : dLkE fd f s h = .ok v (h ++ g) := by
  obtain ⟨hn, ex⟩ := List.getElem?_eq_some_iff.mp en
  have e1 : dicAt h (.ref n) = some (n, kvs) := by
    simp only [dicAt, en]
  unfold dLkE
  rw [ed]
  simp only [e1]
  rw [e]
  show R.ok v ((h.set n (.frz (.dK kvs)) ++ g).set n (.dK kvs)) = _
  rw [List.set_append_left _ _ (by simpa using hn), List.set_set]
  rw [← ex, List.set_getElem_self hn]
/-- the dict that a run of pairs makes, where no key comes twice -/
theorem merge_nd : ∀ (more acc : List (Key × AV)), ((acc ++ more).map (·.1)).Nodup → mergeA acc more = acc ++ more
  | [], acc, _ => by simp [mergeA]
  | (q, v) :: r, acc, nd => by
    have hq : (acc.any fun kv => decide (kv.1 = q)) = false := by
      rw [List.any_eq_false]
      intro kv hk
      have : q ∉ acc.map (·.1) := fun z => by
        rw [List.map_append, List.nodup_append] at nd
        exact nd.2.2 q z q (by simp) rfl
      exact fun z => this (List.mem_map.mpr ⟨kv, hk, of_decide_eq_true z⟩)
    have ep : dput acc q v = acc ++ [(q, v)] := by
      unfold dput
      rw [if_neg (by rw [hq]; exact Bool.false_ne_true)]
    show mergeA (dput acc q v) r = _
    rw [ep, merge_nd r _ (by simpa using nd)]
    simp
end Dn
namespace Dn
open PySem PySem.Spec PyProof.Rows L2

section
variable {W : Wd} {M : Md W} {E : WX} {X : Cx} {c a b : Expr} {ft fa fb : DT} {pos : Pos}
end
end Dn
namespace Dn
open PySem PySem.SeqAt
open AutoSeq1 (wpAny_loadPart')
open MeetsSeq MeetsSeq2 MeetsSeq3 SeqRoads2
section
variable {prog : Program} {w : World}
end
end Dn
namespace Dn
open PySem PySem.Spec PyProof.Rows L2
section
variable {W : Wd} {X : Cx}
end
end Dn
namespace Dn
open PySem PySem.Spec PyProof.Rows L2
section
variable {prog : Program} {w : World} {A : Around} {E : Value → Shared → Prop} {s : Shared}
end
section
variable {X : Cx} {pos : Pos}
end
def hL (gs : DGHs) : DGH := fun v s h => match lstAt h v with
  | some (_, xs) => gs xs s h
  | none => .stuck
section
variable {W : Wd} {M : Md W} {E : WX} {X : Cx}
end
section
variable {W : Wd} {M : Md W} {E : WX} {X : Cx} {tg iter : Expr} {body : List Stmt} {f : DI} {g : DGH} {fb : DS} {pos : Pos}
end
end Dn
namespace Dn
open PySem PySem.Spec PyProof.Rows L2
section
variable {P : Program} {w : World} {mg : Str → Option Value} {base : Heap} {W : Wd} {k n : Nat} {x : Str} {ps : List Str} {F : DF} {bs : Bs}
end
end Dn
namespace Dn
open PySem PySem.Spec PyProof.Rows L2
theorem valB_ok {r : Option PySem.W.CFound} {a : Addr} (h : valB r a = true) : r = some (.val (.ref a)) := by
  unfold valB at h
  split at h
  · rw [of_decide_eq_true h]
  · cases h
theorem clsatB_ok {K : PySem.W.Frag} {C m : Str} {p : Pth} (h : clsatB C m p K = true) : ClsAt K (He.ga K C) m (p K) := by
  obtain ⟨h1, h⟩ := He.ba h
  obtain ⟨h2, h⟩ := He.ba h
  obtain ⟨h3, h4⟩ := He.ba h
  exact ⟨h1, He.eqO_ok h2, valB_ok h3, h4⟩
def HasA (P : Program) (w : World) (mg : Str → Option Value) (base : Heap) (W : Wd) (k t : Nat) (x : Str) (ps : List Str) (n : Nat) (F : DF) (bs : Bs) : Prop :=
  ∃ (a : Addr) (fd : FuncData), ClsAt W.K (W.cl t) x a ∧ FnOk P w W.K mg base (L2.CX P w) k a fd ps (spD W n F) ∧ ∀ b ∈ bs, BnD W fd ps b.1 b.2.1 b.2.2.1 b.2.2.2
section
variable {P : Program} {w : World} {mg : Str → Option Value} {base : Heap} {W : Wd} {k n t : Nat} {f : Addr} {fd : FuncData} {ps : List Str} {F : DF} {x : Str} {bs : Bs}
theorem FnB.clsat (B : FnB P w mg base W k f fd ps n F bs) (h : ClsAt W.K (W.cl t) x f) : HasA P w mg base W k t x ps n F bs := ⟨f, fd, h, B.2.1, B.2.2⟩
end
section
variable {W : Wd} {M : Md W} {E : WX} {X : Cx} {k j n m q t : Nat} {ps ks : List Str} {F : DF} {x c : Str} {p pos apos kpos : Pos} {e : Expr} {es : List Expr} {kws : List Keyword} {fa fk : DA} {ix : List Nat} {dfl : List AV} {bs : Bs}
theorem clsD {pl : Sem Bool} (H : HasA X.prog X.w X.mg X.base W j t x ps n F bs) (i : Nat) (hi : bs[i]? = some (m, ks, ix, dfl)) (hq : ks.length = q) (hr : Room k X.A) (hj : j ≤ k) (hK : X.K = W.K) (tk : Takes X E)
    (ho : PE X (.Name c p) (tD W M E (dC (.cls t)))) (ha : PA X (e :: es) (tDA W M E fa)) (hkw : PK X kws (tDA W M E fk)) (hall : (backToKw pos (keywordEach kws X.env)).all (·.1.isSome) = true := by rfl) (hks : (backToKw pos (keywordEach kws X.env)).filterMap (·.1) = ks := by rfl)
    (he : starEach (e :: es) X.env = (false, eval e X.env) :: starEach es X.env := by rfl)
    (hpl : ((backTo pos (starEach (e :: es) X.env)).any (·.1) || (backToKw pos (keywordEach kws X.env)).any (·.1.isNone)) = false := by rfl)
    (ht : eval (.Call (.Attribute (.Name c p) x apos) (e :: es) kws pos) X.env = (do
      let ov ← eval (.Name c p) X.env
      standAt apos.atName
      let (f, first) ← holding [ov] (getMethod ov x pl)
      callWith pos f first (backTo pos (starEach (e :: es) X.env)) (backToKw pos (keywordEach kws X.env))) := by rfl) :
    PE X (.Call (.Attribute (.Name c p) x apos) (e :: es) kws pos) (tD W M E (dCallC F m q n ix dfl fa fk)) := by
  subst hq
  obtain ⟨a, fd, hc, hF, hb⟩ := H
  obtain ⟨g, gV, kb, hg2⟩ := hb _ (List.mem_of_getElem? hi)
  dsimp only at kb
  rw [← hK] at kb hc hF
  refine ⟨fun pins s σ H Q I h => ?_⟩
  have h1 : tD W M E (dC (.cls t)) σ H fun v H1 => v = .ref (W.cl t) ∧ tD W M E (dCallC F m ks.length n ix dfl fa fk) σ H1 Q := by
    obtain ⟨io, hp, as, rl, S, P⟩ := h
    refine ⟨io, hp, as, rl, S, fun io' H' v e' rl' rv => ?_⟩
    have ev : v = .ref (W.cl t) := by
      cases rv
      rfl
    exact ⟨ev, io', hp, as, rl', M.mono e' S, Pst.later P e'⟩
  refine PySem.W.methodCall_KW (pl := pl) (thn (ho.run pins s σ H _ I h1) fun u s1 ⟨v, H1, I1, rx, ev, q1⟩ => ?_) ht
  subst ev
  obtain rfl : u = Value.ref (W.cl t) := rx
  refine PySem.W.method_cls I1.kIn hc.ga (PySem.W.cls_value I1.kIn hc.rd hc.at_ rfl ?_)
  have I2 : Inv X pins σ H1 { s1 with toks := s1.toks + 1 } := I1.tok _
  refine PySem.W.callWith_KW (first := []) (h₀ := X.base) I.ok.mod.kin hc.kp hall (thn (ha.run pos pins _ σ H1 _ I2 (args_in q1)) fun us s2 ⟨vs2, H2, I3, r, q2⟩ => ?_) hpl he
  refine thn (hkw.run pos pins s2 σ H2 _ I3 q2) fun ws s3 ⟨zs, H3, I4, rz, l1, l2, q3⟩ => ⟨I4.kIn, ?_⟩
  rw [hks]
  exact run_gen hF (hr.mono hj) kb tk I4 r rz l1 l2 (q3 gV hg2)
end
end Dn
namespace Dn
open PySem PySem.Spec PyProof.Rows L2
end Dn
namespace Dn
open PySem PySem.Spec PyProof.Rows L2
section
variable {W : Wd} {X : Cx}
end
end Dn
namespace Dn
open PySem PySem.Spec PyProof.Rows L2
section
variable {prog : Program} {w : World} {A : Around} {E : Value → Shared → Prop} {s : Shared} {K : PySem.W.Frag} {x y C C2 : Addr} {ox oy : Obj} {od od2 : Option Obj}
end
section
variable {W : Wd} {M : Md W} {E : WX} {X : Cx} {k j n q t : Nat} {ps : List Str} {F : DF} {ct : CT}
end
section
variable {P : Program} {w : World} {mg : Str → Option Value} {base : Heap} {W : Wd} {x qual : Str} {params : Arguments} {body : List Stmt} {scope : Scope} {f : Addr} {fd : FuncData}
end
section
variable {W : Wd} {M : Md W} {E : WX} {X : Cx} {k j n m t : Nat} {ks : List Str} {F : DF} {x : Str} {p pos : Pos} {e : Expr} {es : List Expr} {fa : DA} {f : Addr}
end
end Dn
namespace Dn
open PySem PySem.Spec PyProof.Rows L2
section
variable {W : Wd} {M : Md W} {E : WX} {X : Cx} {o e f : Expr} {fo fk fx : DE} {pos apos cpos : Pos}
end
section
variable {W : Wd} {M : Md W} {E : WX} {X : Cx} {k j n m t : Nat} {F : DF} {x : Str} {p pos p2 : Pos} {e e2 : Expr} {es : List Expr} {fa : DA} {f : Addr}
end
section
variable {W : Wd} {X : Cx}
end
end Dn
namespace Dn
open PySem PySem.Spec PyProof.Rows L2
section
variable {W : Wd} {M : Md W} {E : WX} {X : Cx} {a b : Expr} {es : List Expr} {f g : DE} {pos : Pos}
end
end Dn
namespace Dn
open PySem PySem.Spec PyProof.Rows L2
section
variable {W : Wd} {M : Md W} {E : WX} {X : Cx} {k j n m t : Nat} {F : DF} {x : Str} {p pos p2 p3 : Pos} {e e2 : Expr} {es : List Expr} {fa : DA} {f : Addr} {fe : DE}
open PySem.Calls in
end
end Dn
namespace Dn
open PySem PySem.Spec PyProof.Rows L2

section
variable {W : Wd} {M : Md W} {E : WX} {X : Cx} {st : Stmt} {fd : DE} {f : DS}
end
end Dn
namespace Dn
open PySem PySem.Spec PyProof.Rows L2

def maxI (ns : List Int) : Option Int := ns.find? fun m => ns.all fun y => decide (y ≤ m)
def maxLL : DL := fun as h => match as with
  | [a] => match lstAt h a with
    | some (_, xs) => match intsOf xs with
      | some ns => (maxI ns).map fun m => (.int m, h)
      | none => none
    | none => none
  | _ => none
theorem maxI_mem {ns : List Int} {m : Int} (e : maxI ns = some m) : m ∈ ns ∧ ∀ y ∈ ns, y ≤ m := by
  have a := List.find?_some e
  rw [List.all_eq_true] at a
  exact ⟨List.mem_of_find?_eq_some e, fun y hy => of_decide_eq_true (a y hy)⟩
theorem maxI_of {ns : List Int} {m : Int} (h1 : m ∈ ns) (h2 : ∀ y ∈ ns, y ≤ m) : maxI ns = some m := by
  cases z : maxI ns with
  | none =>
    have := List.find?_eq_none.mp z m h1
    exact absurd (List.all_eq_true.mpr fun y hy => decide_eq_true (h2 y hy)) this
  | some q =>
    obtain ⟨a, b⟩ := maxI_mem z
    have := h2 q a
    have := b m h1
    rw [show q = m by omega]
section
variable {W : Wd} {X : Cx}
theorem cMaxL (hK : X.K = W.K) (hc : X.calm = true) : CallR X (.builtin "max") (tl W maxLL) := call_imp (cr_max hc) fun xs H Q ⟨io, hp, as, rl, ra, P⟩ => by
  rw [hK]
  match as, ra, P with
  | [], .nil, P => exact P.elim
  | _ :: _ :: _, _, P => exact P.elim
  | [a], ra, P =>
    obtain ⟨x, rfl, r1⟩ := one_inv ra
    have P1 : Pop W (RV W) Q io H (match lstAt hp a with
      | some (_, xs) => match intsOf xs with
        | some ns => (maxI ns).map fun m => (AV.int m, hp)
        | none => none
      | none => none) := P
    cases z2 : lstAt hp a with
    | none =>
      rw [z2] at P1
      exact P1.elim
    | some q =>
      obtain ⟨n, ys⟩ := q
      rw [z2] at P1
      obtain ⟨p, vs, rfl, hi, hu, rv⟩ := lstAt_in z2 rl r1
      cases z3 : intsOf ys with
      | none =>
        simp only [z3] at P1
        exact P1.elim
      | some ns =>
        simp only [z3] at P1
        have ev := intsOf_in z3 rv
        subst ev
        cases z4 : maxI ns with
        | none =>
          simp only [z4] at P1
          exact P1.elim
        | some m =>
          simp only [z4] at P1
          obtain ⟨m1, m2⟩ := maxI_mem z4
          refine ⟨p, ns, rfl, SqL.of hu, List.length_pos_iff.mpr (fun e => by rw [e] at m1; cases m1), fun q h1 h2 => ?_⟩
          have a := h2 m m1
          have b := m2 q h1
          have e : q = m := by omega
          subst e
          exact Pop.ok P1 rl (.int _)
end

end Dn
namespace Dn
open PySem PySem.Spec PyProof.Rows L2

section
variable {M : Model} {A : Around} {E : Value → Shared → Prop} {s : Shared} {K : PySem.W.Frag} {x C L f : Addr} {h₀ : Heap} {m : Str → Option Value} {ox : Obj} {od : Option Obj} {Q : Value → Shared → Prop}
end
section
variable {W : Wd} {M : Md W} {E : WX} {X : Cx} {k j t : Nat} {ps : List Str} {F : DF} {pos : Pos} {o : Expr} {fo : DE}
end
end Dn
namespace Dn
open PySem PySem.Spec PyProof.Rows L2

section
variable {W : Wd} {M : Md W} {E : WX} {X : Cx} {pos : Pos}
end
end Dn
namespace Dn
open PySem
theorem lcL_opt {src : Src} {g : DG} {tt : DT} {te : DE} {s0 : Sl} {h1 : Hep} {xs : List AV} {zs : List (Option AV)} (hl : xs.length = zs.length) (hz : xs.length ≤ 100000) (hs : ∀ (acc : List AV) (i : Nat), src.next i (h1 ++ [AO.lst acc]) = some xs[i]?)
    (step : ∀ (i : Nat) (x : AV) (z : Option AV) (acc : List AV), xs[i]? = some x → zs[i]? = some z → ∃ s1, g x s0 = some s1 ∧ tt s1 (h1 ++ [AO.lst acc]) = .ok z.isSome (h1 ++ [AO.lst acc]) ∧ ∀ y, z = some y → te s1 (h1 ++ [AO.lst acc]) = .ok y (h1 ++ [AO.lst acc])) :
    ∀ (k i : Nat) (acc : List AV), k + i = xs.length → acc.length ≤ i → dLcL src g tt te h1.length s0 (k + 1) i (h1 ++ [AO.lst acc]) = .ok (.ref h1.length) (h1 ++ [AO.lst (acc ++ (zs.drop i).filterMap id)])
  | k, i, acc, e, ha => by
    have hn := hs acc i
    cases z : xs[i]? with
    | none =>
      have hi := List.getElem?_eq_none_iff.mp z
      rw [z] at hn
      rw [List.drop_eq_nil_of_le (by omega), List.filterMap_nil, List.append_nil]
      unfold dLcL
      simp only [hn]
    | some x =>
      obtain ⟨hi, _⟩ := List.getElem?_eq_some_iff.mp z
      obtain ⟨k, rfl⟩ : ∃ m, k = m + 1 := ⟨k - 1, by omega⟩
      rw [z] at hn
      obtain ⟨y, z2⟩ : ∃ p, zs[i]? = some p := ⟨_, List.getElem?_eq_getElem (by omega)⟩
      obtain ⟨s1, e1, t1, e2⟩ := step i x y acc z z2
      have ed : zs.drop i = y :: zs.drop (i + 1) := by
        obtain ⟨l2, z3⟩ := List.getElem?_eq_some_iff.mp z2
        rw [← z3]
        exact List.drop_eq_getElem_cons l2
      rw [ed]
      cases y with
      | none =>
        have r := lcL_opt hl hz hs step k (i + 1) acc (by omega) (by omega)
        rw [List.filterMap_cons_none rfl, ← r]
        conv => lhs; unfold dLcL
        simp only [hn, e1, t1, R.noX_ok, R.bind_ok, Option.isSome_none]
      | some y =>
        have hzz : acc.length < SZ := by
          have : SZ = 1000000 := rfl
          omega
        have e5 : addAt h1.length y (h1 ++ [AO.lst acc]) = some (h1 ++ [AO.lst (acc ++ [y])]) := by
          unfold addAt
          rw [at_last]
          simp only [if_pos hzz, set_last]
        have r := lcL_opt hl hz hs step k (i + 1) (acc ++ [y]) (by omega) (by simp; omega)
        rw [show (some y :: zs.drop (i + 1)).filterMap id = y :: (zs.drop (i + 1)).filterMap id from rfl, show acc ++ y :: (zs.drop (i + 1)).filterMap id = (acc ++ [y]) ++ (zs.drop (i + 1)).filterMap id by simp, ← r]
        conv => lhs; unfold dLcL
        simp only [hn, e1, t1, R.noX_ok, R.bind_ok, Option.isSome_some, e2 y rfl, e5]
/-- a source that gives these values, whatever is made behind -/
structure Sq (f : DI) (s : Sl) (h h1 : Hep) (xs : List AV) : Prop where
  ex : ∃ src, f s h = .ok src h1 ∧ src.len h1 = xs.length ∧ ∀ (o : AO) (i : Nat), src.next i (h1 ++ [o]) = some xs[i]?
theorem app_at0 {h : Hep} {i : Nat} {o a : AO} (e : h[i]? = some o) : (h ++ [a])[i]? = some o := by
  rw [List.getElem?_append_left (List.getElem?_eq_some_iff.mp e).1]
  exact e
theorem Sq.at {f : DE} {s : Sl} {h h1 : Hep} {n : Nat} {xs : List AV} (ef : f s h = .ok (.ref n) h1) (e : h1[n]? = some (.lst xs)) : Sq (dSrc f) s h h1 xs :=
  ⟨.at n, src_ref ef e, len_at e, fun o i => next_at (app_at0 e)⟩
theorem Sq.fix {f : DI} {s : Sl} {h h1 : Hep} {xs : List AV} (ef : f s h = .ok (.fix xs) h1) : Sq f s h h1 xs :=
  ⟨.fix xs, ef, rfl, fun o i => rfl⟩
theorem Fr.into {A B : List Nat} {h h1 h2 : Hep} (f : Fr A h h1) (g : Fr B h1 h2) (k : ∀ i ∈ B, i ∈ A ∨ h.length ≤ i) : Fr A h h2 :=
  ⟨Nat.le_trans f.1 g.1, fun i hi he => (g.2 i (Nat.lt_of_lt_of_le hi f.1) fun z => (k i z).elim he (fun q => absurd hi (Nat.not_lt.mpr q))).trans (f.2 i hi he)⟩
theorem lc_filt {α : Type} {f : DI} {g : DG} {tt : DT} {te : DE} {vs : List Nat} {s : Sl} {h h1 : Hep} {l : List α} (fx fy : α → AV) (p : α → Bool) (S : Sq f s h h1 (l.map fx)) (hz : l.length ≤ 100000)
    (step : ∀ (x : α) (acc : List AV), x ∈ l → ∃ s1, g (fx x) (wipeS s vs) = some s1 ∧ tt s1 (h1 ++ [AO.lst acc]) = .ok (p x) (h1 ++ [AO.lst acc]) ∧ (p x = true → te s1 (h1 ++ [AO.lst acc]) = .ok (fy x) (h1 ++ [AO.lst acc]))) :
    dLc f g tt te vs s h = .ok (.ref h1.length) (h1 ++ [AO.lst ((l.filter p).map fy)]) := by
  obtain ⟨src, ef, hlen, hs⟩ := S.ex
  have r := lcL_opt (g := g) (tt := tt) (te := te) (s0 := wipeS s vs) (h1 := h1) (xs := l.map fx) (zs := l.map fun x => if p x = true then some (fy x) else none) (by simp) (by simpa using hz) (fun acc i => hs (.lst acc) i)
    (fun i x z acc hx hz => by
      rw [List.getElem?_map] at hx hz
      cases q : l[i]? with
      | none =>
        rw [q] at hx
        cases hx
      | some w =>
        rw [q] at hx hz
        cases hx
        cases hz
        obtain ⟨s1, a, b, c⟩ := step w acc (List.mem_of_getElem? q)
        refine ⟨s1, a, ?_, fun y hy => ?_⟩
        · rw [b]
          by_cases d : p w = true
          · simp [d]
          · simp [d]
        · by_cases d : p w = true
          · have hy2 : some (fy w) = some y := by simpa [d] using hy
            cases hy2
            exact c d
          · have hy2 : (none : Option AV) = some y := by simpa [d] using hy
            cases hy2) (l.map fx).length 0 [] (by omega) (Nat.le_refl _)
  unfold dLc
  rw [ef]
  show dLcL src g tt te h1.length (wipeS s vs) (src.len h1 + 1) 0 (h1 ++ [AO.lst []]) = _
  rw [hlen, r]
  congr 3
  rw [List.drop_zero, List.nil_append, List.filterMap_map]
  have : ∀ l : List α, List.filterMap (id ∘ fun x => if p x = true then some (fy x) else none) l = (l.filter p).map fy := fun l => by
    induction l with
    | nil => rfl
    | cons a l ih =>
      by_cases d : p a = true
      · rw [List.filterMap_cons_some (b := fy a) (by simp [d]), ih, List.filter_cons_of_pos d]
        rfl
      · rw [List.filterMap_cons_none (by simp [d]), ih, List.filter_cons_of_neg d]
  rw [this]
theorem lc_map {α : Type} {f : DI} {g : DG} {te : DE} {vs : List Nat} {s : Sl} {h h1 : Hep} {l : List α} (fx fy : α → AV) (S : Sq f s h h1 (l.map fx)) (hz : l.length ≤ 100000)
    (step : ∀ (x : α) (acc : List AV), x ∈ l → ∃ s1, g (fx x) (wipeS s vs) = some s1 ∧ te s1 (h1 ++ [AO.lst acc]) = .ok (fy x) (h1 ++ [AO.lst acc])) :
    dLc f g dYes te vs s h = .ok (.ref h1.length) (h1 ++ [AO.lst (l.map fy)]) := by
  have r := lc_filt (tt := dYes) (te := te) fx fy (fun _ => true) S hz fun x acc hx => by
    obtain ⟨s1, a, b⟩ := step x acc hx
    exact ⟨s1, a, rfl, fun _ => b⟩
  rw [r, List.filter_eq_self.mpr (fun _ _ => rfl)]
end Dn
namespace Dn
open PySem PySem.Spec PyProof.Rows L2

def okK' (r : R AV) (K : AV → Hep → SR) : SR := match r with
  | .ok a h => K a h
  | _ => .stuck
def puK (s : Sl) (o : Option Hep) : SR := match o with
  | some h => .nx s h
  | none => .stuck
def hI (fo fi : DE) : DGH := fun v s h => okK' (fo s h) fun o h1 => okK' (fi s h1) fun i h2 => puK s (putAV o i v h2)
section
variable {W : Wd} {M : Md W} {E : WX} {X : Cx} {k : Nat}
end
@[simp] theorem okK_ok {a : AV} {h : Hep} {K : AV → Hep → SR} : okK' (.ok a h) K = K a h := rfl
@[simp] theorem puK_some {s : Sl} {h : Hep} : puK s (some h) = .nx s h := rfl
@[simp] theorem xhI {fo fi : DE} {v : AV} {s : Sl} {h : Hep} : hI fo fi v s h = okK' (fo s h) fun o h1 => okK' (fi s h1) fun i h2 => puK s (putAV o i v h2) := rfl
end Dn
namespace Dn
open PySem PySem.Spec PyProof.Rows L2
section
variable {W : Wd} {X : Cx}
end
end Dn
namespace Dn
open PySem PySem.Spec PyProof.Rows L2
section
variable {X : Cx} {W : Wd} {M : Md W} {E : WX} {j k t : Nat} {x : Str} {ps : List Str} {F : DF}
end
end Dn
namespace Dn
open PySem PySem.Spec PyProof.Rows L2
/-- repr(a), a a datum -/
def reprL : DL := fun as h => match as with
  | [a] => match toD DD h a with
    | some d => if d.showable = true ∧ d.hasDict = false ∧ d.shown.length ≤ SZ ∧ d.depth ≤ 60 then some (.str d.shown, h) else none
    | none => none
  | _ => none
section
variable {W : Wd} {M : Md W} {E : WX} {X : Cx}
theorem call_repr_dat (hg : X.A.guards = some []) (hu : X.A.units + 65 < cLine) : CallR X (.builtin "repr") (fun xs H Q => ∃ v d, xs = [v] ∧ Dp X.K H v d ∧ d.showable = true ∧ d.hasDict = false ∧ d.shown.length ≤ sizeLine ∧ d.depth ≤ 60 ∧ Q (.str d.shown) H) := by
  intro pins s σ H xs us Q I r h
  obtain ⟨v, d, rfl, hd, h1, h2, h3, h4, q⟩ := h
  obtain ⟨u, rfl, ru⟩ := vals1 r
  obtain ⟨as, rd⟩ := Dp.reads I d v u hd ru
  have big : ∀ {b : Addr}, u = .ref b → wpAny (model X.prog X.w) X.A (call (.builtin "repr") [.ref b]) (EP X pins σ Q) X.xe s := fun {b} e => by
    subst e
    refine PySem.repr_of_reads' rd h1 (fun z => ?_) hg (by omega) (fun _ _ z => z) (fun h' t tk k => ⟨.str d.shown, H, I.kept k, ⟨t, rfl⟩, q⟩) h3
    rw [h2] at z
    cases z
  cases rd with
  | none =>
    simp only [PyData.shown] at q
    exact PySem.P.repr_of_none ⟨.str _, H, I.tok _, ⟨_, rfl⟩, q⟩
  | bool b =>
    simp only [PyData.shown] at q
    exact PySem.P.repr_of_bool ⟨.str _, H, I.tok _, ⟨_, rfl⟩, q⟩
  | int i t =>
    simp only [PyData.shown] at q
    refine PySem.P.repr_of_int ?_ ⟨.str _, H, I.tok _, ⟨_, rfl⟩, q⟩
    simpa [PyData.showable] using h1
  | str x t =>
    simp only [PyData.shown] at q h3
    exact PySem.P.repr_of_str ⟨.str _, H, I.tok _, ⟨_, rfl⟩, q⟩ h3
  | list _ _ _ _ => exact big rfl
  | tuple _ _ _ _ => exact big rfl
  | dict _ _ _ _ _ => exact big rfl
theorem cRepr (hK : X.K = W.K) (hg : X.A.guards = some []) (hu : X.A.units + 65 < cLine) : CallR X (.builtin "repr") (tl W reprL) := call_imp (call_repr_dat hg hu) fun xs H Q ⟨io, hp, as, rl, ra, P⟩ => by
  match as, ra, P with
  | [a], ra, P =>
    obtain ⟨x, rfl, r⟩ := one_inv ra
    have P' : Pop W (RV W) Q io H (match toD DD hp a with
      | some d => if d.showable = true ∧ d.hasDict = false ∧ d.shown.length ≤ SZ ∧ d.depth ≤ 60 then some (AV.str d.shown, hp) else none
      | none => none) := P
    cases e : toD DD hp a with
    | none =>
      rw [e] at P'
      exact P'.elim
    | some d =>
      rw [e] at P'
      by_cases c : d.showable = true ∧ d.hasDict = false ∧ d.shown.length ≤ SZ ∧ d.depth ≤ 60
      · have P2 : Pop W (RV W) Q io H (if d.showable = true ∧ d.hasDict = false ∧ d.shown.length ≤ SZ ∧ d.depth ≤ 60 then some (AV.str d.shown, hp) else none) := P'
        rw [if_pos c] at P2
        exact ⟨x, d, rfl, by rw [hK]; exact toD_in rl _ _ _ _ e r, c.1, c.2.1, szL c.2.2.1, c.2.2.2, P2.ok rl (.str _)⟩
      · have P2 : Pop W (RV W) Q io H (if d.showable = true ∧ d.hasDict = false ∧ d.shown.length ≤ SZ ∧ d.depth ≤ 60 then some (AV.str d.shown, hp) else none) := P'
        rw [if_neg c] at P2
        exact P2.elim
  | [], ra, P => exact P.elim
  | _ :: _ :: _, ra, P => exact P.elim
end
end Dn
namespace Dn
open PySem PySem.Spec PyProof.Rows L2
section
variable {P : Program} {w : World} {mg : Str → Option Value} {base : Heap} {W : Wd} {x qual : Str} {params : Arguments} {body : List Stmt} {scope : Scope} {dvs : List V} {kws : List (Str × V)} {f : Addr} {fd : FuncData}
theorem fnDG {N ps : List Str} {k n : Nat} {b : DS} (F : FunD W.K x qual params body scope dvs kws f fd) (S : FnScope N ps scope) (hn : ps.length = n)
    (hb : ∀ (cdv : Value) (A : Around) (outer : List Env) (s : Shared) (H : Hp) (E : XK), (A.deeper (envOfC qual scope s.heap.objs.size f cdv)).guards = some [] → Room k (A.deeper (envOfC qual scope s.heap.objs.size f cdv)) →
      Takes (cxD W P w mg base N qual scope f cdv A outer s H E) (wxE E) → PSs (cxD W P w mg base N qual scope f cdv A outer s H E) body (tS W (std W) (wxE E) b)) : FnG P w W.K mg base (L2.CX P w) (k + 1) f fd ps (spD W n (dFun N.length b)) := by
  have lenS : ∀ vs H Q E, spD W n (dFun N.length b) vs H Q E → vs.length = ps.length := fun vs H Q E ⟨io, hp, as, hl, _, r, _⟩ => by
    rw [← r.len, hl, hn]
  obtain ⟨oc, od, dV, kV, doc, pm, an, cdv, ct, osl, rfl, lk, hcd, _, _⟩ := F.ex
  refine ⟨lenS, fun A outer s H args us vs Q E hg hr e0 hbd r hsp => LamX.run_ofS lk hcd S hr e0 hbd r (lenS _ _ _ _ hsp) fun hr' => ⟨_, hb cdv A outer s H E hg hr' (takes_of rfl rfl rfl rfl), ?_⟩⟩
  obtain ⟨io, hp, as, hl, rl, ra, P⟩ := hsp
  refine ⟨io, hp, dStart N.length as, rl, start_rel ra rfl, ?_⟩
  unfold dFun at P
  cases e : b (dStart N.length as) hp with
  | nx s h =>
    rw [e] at P
    exact fun io' H' σ' e' rl' _ => P io' H' .non e' rl' .non
  | rt s h =>
    rw [e] at P
    exact P
  | bk s h =>
    rw [e] at P
    exact P.elim
  | ct s h =>
    rw [e] at P
    exact P.elim
  | exc t fs s h =>
    rw [e] at P
    exact fun io' H' σ' cls d e' rl' _ rx => P io' H' cls d e' rl' rx
  | stuck =>
    rw [e] at P
    exact P
end
section
variable {W : Wd} {M : Md W} {E : WX} {X : Cx} {k j n m q : Nat} {f : Addr} {fd : FuncData} {ps ks : List Str} {F : DF} {x : Str} {p pos : Pos} {e : Expr} {es : List Expr} {kws : List Keyword} {fa fk : DA} {ix : List Nat} {dfl : List AV} {bs : Bs}
theorem run_genG {pins : List (Addr × Obj)} {σ : L2.St} {H : Hp} {s : Shared} {Q : VK} {us ws : List Value} {vs zs : List V} {sp : Sp} {g : List Value → List Value → List Value} {gV : List V → List V → List V}
    (hF : FnG X.prog X.w X.K X.mg X.base (L2.CX X.prog X.w) j f fd ps sp) (hgd : X.A.guards = some []) (hr : Room j X.A) (hb : KBn X.K fd ps n ks g gV) (tk : Takes X E)
    (I : Inv X pins σ H s) (r : Vals vs us) (rz : Vals zs ws) (l1 : vs.length = n) (l2 : zs.length = ks.length) (h : sp (gV vs zs) H Q (WE E σ)) : wpAny (model X.prog X.w) X.A (call (.ref f) us (ks.zip ws)) (EP X pins σ Q) X.xe s := by
  have r2 := hb.rel r rz
  refine wpAny_call (codeAny_mono (hF.2 X.A X.stack s H ⟨us, ks.zip ws⟩ (g us ws) (gV vs zs) Q (WE E σ) hgd hr I.env0 (hb.to s us ws I.kIn (r.length.symm.trans l1) (rz.length.symm.trans l2)) r2 h) fun r s' hq => ?_)
  cases r with
  | error e => exact passAt tk σ pins H s e s' I hq
  | ok fl =>
    cases fl with
    | ret u => exact I.after hq
    | next => exact False.elim hq
    | brk => exact False.elim hq
    | cont => exact False.elim hq
theorem callHG (H : HasG X.prog X.w X.mg X.base W j x ps n F bs) (hgd : X.A.guards = some []) (i : Nat) (hi : bs[i]? = some (m, ks, ix, dfl)) (hq : ks.length = q) (hr : Room k X.A) (hj : j ≤ k) (hK : X.K = W.K) (tk : Takes X E)
    (ha : PA X (e :: es) (tDA W M E fa)) (hkw : PK X kws (tDA W M E fk)) (hg : Gl X x := by rfl) (hall : (backToKw pos (keywordEach kws X.env)).all (·.1.isSome) = true := by rfl) (hks : (backToKw pos (keywordEach kws X.env)).filterMap (·.1) = ks := by rfl)
    (hdb : (x == ("__debug__" : Str)) = false := by decide) (he : starEach (e :: es) X.env = (false, eval e X.env) :: starEach es X.env := by rfl)
    (hpl : ((backTo pos (starEach (e :: es) X.env)).any (·.1) || (backToKw pos (keywordEach kws X.env)).any (·.1.isNone)) = false := by rfl) :
    PE X (.Call (.Name x p) (e :: es) kws pos) (tD W M E (dCallC F m q n ix dfl fa fk)) := by
  subst hq
  obtain ⟨a, fd, h1, hkp, h3, h4⟩ := H
  obtain ⟨g, gV, kb, hg2⟩ := h4 _ (List.mem_of_getElem? hi)
  rw [← hK] at hkp h3 kb
  refine ⟨fun pins s σ H Q I h => ?_⟩
  refine wpAny_Call_Name_kw (ld_glob I hg h1 ?_ hdb)
  refine PySem.W.callWith_KW (h₀ := X.base) I.ok.mod.kin hkp hall (thn (ha.run pos pins s σ H _ I (args_in h)) fun us s1 ⟨vs, H1, I1, r, q⟩ => ?_) hpl he
  refine thn (hkw.run pos pins s1 σ H1 _ I1 q) fun ws s2 ⟨zs, H2, I2, rz, l1, l2, q2⟩ => ⟨I2.kIn, ?_⟩
  rw [hks]
  exact run_genG h3 hgd (hr.mono hj) kb tk I2 r rz l1 l2 (q2 gV hg2)
end
end Dn
namespace Dn
open PySem PySem.Spec PyProof.Rows L2
section
variable {W : Wd} {M : Md W} {E : WX} {X : Cx} {e : Expr} {es : List Expr} {f : DE} {fa : DA}
end
end Dn
namespace Dn
open PySem PySem.Spec PyProof.Rows L2
section
variable {X : Cx} {e o : Expr} {te td ty : TE} {p apos cpos pos : Pos}
end
section
variable {W : Wd} {M : Md W} {E : WX} {X : Cx} {o e : Expr} {fo fe : DE} {p apos cpos pos : Pos}
end
end Dn
namespace Dn
open PySem PySem.Spec PyProof.Rows L2
/-- how many -/
def rgN (i j c : Int) : Nat := (if i < j then (j - i - 1) / c + 1 else 0).toNat
def Rg3 (i j c : Int) : Prop := 0 ≤ i ∧ i < 2 ^ 40 ∧ 0 ≤ j ∧ j < 2 ^ 40 ∧ 0 < c ∧ c < 2 ^ 20 ∧ rgN i j c ≤ SZ
instance (i j c : Int) : Decidable (Rg3 i j c) := by
  unfold Rg3
  infer_instance
section
variable {W : Wd} {M : Md W} {E : WX} {X : Cx} {tg : Expr}
end
end Dn
namespace Dn
open PySem PySem.Spec PyProof.Rows L2

/-- what a() comes to -/
abbrev DAct := Hep → R AV
/-- x(lambda: d) -/
def dLamC (F : DAct → DAct) (d : DE) : DE := fun s h => F (fun g => d s g) h
/-- a(), in the def that got the lambda -/
def dAct (act : DAct) : DE := fun _ h => act h
/-- a def of n slots that gets a lambda -/
def dHlp (n : Nat) (b : DAct → DS) : DAct → DAct := fun act h => (b act (List.replicate n none) h).fin

/-- the slots of such a def: slot 0 holds the lambda -/
def MZ (W : Wd) (f c' : Addr) (q : Str) (io0 : List Addr) (H0 : Hp) : Md W where
  rel := fun io H as σ => (std W).rel io H as σ ∧ (as[0]? = some none ∧ σ[0]? = some (some (.ref f))) ∧ H c' = some (LamX.CodeO c' q) ∧ Ext W io0 H0 io H
  mono := fun e h => ⟨(std W).mono e h.1, h.2.1, e.cod _ _ h.2.2.1, h.2.2.2.trans e⟩
  var := fun h a n => (std W).var h.1 a n
  ok := fun i => i ≠ 0
  set := fun h r hi => ⟨(std W).set h.1 r trivial, ⟨by rw [List.getElem?_set_ne hi]; exact h.2.1.1, by rw [List.getElem?_set_ne hi]; exact h.2.1.2⟩, h.2.2⟩
  wipe := fun h hi => ⟨(std W).wipe h.1 trivial, ⟨by rw [List.getElem?_set_ne hi]; exact h.2.1.1, by rw [List.getElem?_set_ne hi]; exact h.2.1.2⟩, h.2.2⟩
/-- a(), where the def runs in Xg: f the lambda, c' its code object, tl what its body asks -/
def ActP (Xg : Cx) (a : Str) (f c' : Addr) (q : Str) (tl : XK → Hp → VK → Prop) : Prop :=
  ∀ (E' : WX) (pn : List (Addr × Obj)) (xe : Value → Shared → Prop) (p1 p2 : Pos), Takes (Xg.tr pn xe) E' →
    PE (Xg.tr pn xe) (.Call (.Name a p1) [] [] p2) (fun σZ HZ Q => σZ[0]? = some (some (.ref f)) ∧ HZ c' = some (LamX.CodeO c' q) ∧ tl (WE E' σZ) HZ Q)
/-- what it comes to, in any later heap -/
def ActS (W : Wd) (io0 : List Addr) (H0 : Hp) (act : DAct) (tl : XK → Hp → VK → Prop) : Prop :=
  ∀ (E : XK) (io : List Addr) (H : Hp) (hp : Hep) (Q : VK), Ext W io0 H0 io H → Rl W io hp H → Pfn W E Q io H (act hp) → tl E H Q
theorem Pfn.st {W : Wd} {E : XK} {Q : VK} {io : List Addr} {H : Hp} {r : R AV} {σ : L2.St} (h : Pfn W E Q io H r) : Pst W (RV W) (wxE E) σ Q io H r := by
  cases r with
  | ok v hp => exact h
  | exc t fs hp => exact h
  | stuck => exact h
theorem actD {W : Wd} {Xg : Cx} {a : Str} {f c' : Addr} {q : Str} {io0 : List Addr} {H0 : Hp} {act : DAct} {tl : XK → Hp → VK → Prop} {E' : WX} {pn : List (Addr × Obj)} {xe : Value → Shared → Prop} {p1 p2 : Pos}
    (h : ActP Xg a f c' q tl) (hs : ActS W io0 H0 act tl) (tk : Takes (Xg.tr pn xe) E') : PE (Xg.tr pn xe) (.Call (.Name a p1) [] [] p2) (tD W (MZ W f c' q io0 H0) E' (dAct act)) :=
  peI (h E' pn xe p1 p2 tk) fun σ H Q ⟨io, hp, as, rl, S, P⟩ => ⟨S.2.1.2, S.2.2.1, hs _ io H hp Q S.2.2.2 rl (Pst.fn P)⟩
/-- a def of the text that calls what it gets -/
def HasL (P : Program) (w : World) (mg : Str → Option Value) (base : Heap) (W : Wd) (k : Nat) (x : Str) (gq : Bool) (F : DAct → DAct) : Prop :=
  ∃ (g : Addr) (fd : FuncData) (pg : Arguments) (bg : List Stmt) (sg : Scope) (Ng : List Str) (a : Str) (b : DAct → DS), mg x = some (.ref g) ∧ FunD W.K x x pg bg sg [] [] g fd ∧ L2.Binds W.K fd [a] [] ∧ FnScope Ng [a] sg ∧ Ng[0]? = some a ∧ Vis sg a ∧
    (a == ("__debug__" : Str)) = false ∧ (a == ("__classdict__" : Str)) = false ∧ F = dHlp Ng.length b ∧
    ∀ (cdv : Value) (A : Around) (outer : List Env) (s : Shared) (H : Hp) (E : XK), (gq = true → (A.deeper (envOfC x sg s.heap.objs.size g cdv)).guards = some []) → Room k (A.deeper (envOfC x sg s.heap.objs.size g cdv)) → Takes (cxD W P w mg base Ng x sg g cdv A outer s H E) (wxE E) →
      ∀ (f c' : Addr) (q : Str) (io0 : List Addr) (H0 : Hp) (act : DAct) (tl : XK → Hp → VK → Prop), ActP (cxD W P w mg base Ng x sg g cdv A outer s H E) a f c' q tl → ActS W io0 H0 act tl →
        PSs (cxD W P w mg base Ng x sg g cdv A outer s H E) bg (tS W (MZ W f c' q io0 H0) (wxE E) (b act))

/-- all but the tables stay, the tables are such as before: our objects stay -/
theorem extN {W : Wd} {io : List Addr} {hp : Hep} {H H1 : Hp} (rl : Rl W io hp H) (e : LamX.ExtN H H1) (t : LamX.Tabs W.T H1) : Rl W io hp H1 ∧ Ext W io H io H1 := by
  have ex : Ext W io H io H1 := ⟨⟨[], by simp⟩, fun a xs h => by
      rcases h with (h | ⟨o, h⟩) | h
      · exact .inl (.inl (e _ _ h (fun ps z => by cases z)))
      · exact .inl (.inr ⟨o, e _ _ h (fun ps z => by cases z)⟩)
      · exact .inr h, fun a xs h => by
      rcases h with ⟨o, h⟩ | h
      · exact .inl ⟨o, e _ _ h (fun ps z => by cases z)⟩
      · exact .inr h, fun a fs h => e _ _ h (fun ps z => by cases z), fun a o u h => e _ _ h (fun ps z => by cases z), fun a u h => e _ _ h (fun ps z => by cases z), fun _ => t⟩
  refine ⟨⟨rl.len, rl.nd, fun i a o hi h => ?_, t⟩, ex⟩
  obtain ⟨u, eu, r⟩ := rl.ob i a o hi h
  refine ⟨u, e _ _ eu fun ps z => ?_, r.mono ex⟩
  subst z
  cases r

section
variable {X : Cx} {pins : List (Addr × Obj)} {σ : L2.St} {H HZ : Hp} {s s1 : Shared} {W : Wd}
open LamX
/-- a(), in the def that got the lambda; as LamX.pe_act, for what is let out at these slots -/
theorem pe_actZ {Ng : List Str} {qg : Str} {sg : Scope} {g f c' : Addr} {cdg pm ctv : Value} {params : Arguments} {body : Expr} {scope : Scope} {k : Nat} {a : Str} {pn : List (Addr × Obj)} {xe : Value → Shared → Prop} {E' : WX} {Eg : XK} {t : XK → TE} {p1 p2 : Pos}
    (I : Inv X pins σ H s) (L : LamS X.env.scope scope) (hf : s.heap.get? f = some (PySem.W.kla_obj "<lambda>" (X.env.qual ++ "<lambda>") params body scope (cloFrom X.env.cells scope.names []) pm c' ctv)) (hfn : H f = none) (hfr : f ∉ frs X.stack)
    (hbind : bindArgs (PySem.W.kla_fn "<lambda>" (X.env.qual ++ "<lambda>") params body scope (cloFrom X.env.cells scope.names []) pm (.ref c') ctv) ⟨[], []⟩ = pure [])
    (hK : X.K = W.K) (tk : Takes ((cxD W X.prog X.w X.mg X.base Ng qg sg g cdg X.A X.stack s H Eg).tr pn xe) E') (hr : Room (k + 1) (X.A.deeper (envOfC qg sg s.heap.objs.size g cdg)))
    (hbody : ∀ (A : Around) (outer : List Env) (s : Shared) (H : Hp) (E : XK), Room k (A.deeper (lamEnv X scope s.heap.objs.size f c')) → PE (lamCx X A outer s H E scope f c') body (t E))
    (hN : Ng[0]? = some a) (hv : Vis sg a) (hd : (a == ("__debug__" : Str)) = false) (hcd : (a == ("__classdict__" : Str)) = false) :
    PE ((cxD W X.prog X.w X.mg X.base Ng qg sg g cdg X.A X.stack s H Eg).tr pn xe) (.Call (.Name a p1) [] [] p2)
      (fun σZ HZ Q => σZ[0]? = some (some (.ref f)) ∧ HZ c' = some (CodeO c' (X.env.qual ++ "<lambda>")) ∧ t (WE E' σZ) σ HZ Q) := by
  refine ⟨fun pinsZ sZ σZ HZ Q IZ h => ?_⟩
  obtain ⟨hs, hc, ht⟩ := h
  refine wpAny_Call_Name_kw (thn ((pe_var (pos := p1) (i := 0) hN hv hd hcd).run pinsZ sZ σZ HZ (fun v H1 => v = .ref f ∧ H1 = HZ) IZ ⟨.ref f, hs, rfl, rfl⟩) fun u s1 ⟨v, H1, I1, r1, q1⟩ => ?_)
  obtain ⟨ev, eH⟩ := q1
  subst ev
  rw [eH] at I1
  obtain rfl : u = Value.ref f := r1
  have of1 : s1.heap.get? f = some (PySem.W.kla_obj "<lambda>" (X.env.qual ++ "<lambda>") params body scope (cloFrom X.env.cells scope.names []) pm c' ctv) := I1.base.keep f _ hf hfn hfr (fun z => nomatch (show f ∈ ([] : List Addr) from z))
  refine PySem.W.callWith_F0 ⟨_, _, _, _, of1⟩ ?_
  have un : Un (frs X.stack) [] H HZ s.heap s1.heap := I1.base
  obtain ⟨⟨oc, vs, t0, hoc, hdc, hvc⟩, _, _⟩ := I1.hok c' _ hc
  have rc : codeAny (model X.prog X.w) (X.A.deeper (envOfC qg sg s.heap.objs.size g cdg)) (.call (.ref f) ⟨[], []⟩) (CR (L2.CX X.prog X.w) (envOfC qg sg s.heap.objs.size g cdg :: X.stack) X.prog X.w HZ s1 Q (WE E' σZ)) s1 := by
    refine PySem.W.kla_callFunE hr.depth of1 rfl L.co L.gen rfl ⟨c', oc, vs, t0, rfl, hoc, hdc, hvc⟩ ?_
    rw [hbind]
    refine wpAny_pure (wpAny_newFunctionEnv (fun y hy => (L.own y hy).2) (fun y hy => absurd hy (by simp)) (fun h₁ hns hsb => ⟨I1.nolimit.fresh _ hsb, ?_⟩) L.kind)
    show codeAny _ _ (.expr body (lamEnv X scope s1.heap.objs.size f c')) _ _
    have kp : ∀ b o, s1.heap.get? b = some o → h₁.get? b = some o := fun b o e => hsb.extBut b o (Nat.ne_of_lt (Heap.lt_size e)) (Heap.get?_push_of_some _ e)
    have e0 : Env0 X.prog X.w X.K X.mg X.base (X.A.deeper (envOfC qg sg s.heap.objs.size g cdg)) (envOfC qg sg s.heap.objs.size g cdg :: X.stack) s1 HZ := by
      rw [hK]
      exact I1.env0
    have J : Inv (lamCx X (X.A.deeper (envOfC qg sg s.heap.objs.size g cdg)) (envOfC qg sg s.heap.objs.size g cdg :: X.stack) s1 HZ (WE E' σZ) scope f c') [] σ HZ { s1 with heap := h₁, toks := s1.toks + ([] : List (Str × Value)).length } :=
      lam_start2 I L e0 hr.hd un hns kp
    refine PySem.W.kla_codeExpr (wpAny_mono ((hbody _ _ s1 HZ _ (hr.deeper _)).run [] _ _ HZ Q J ht) (fun v s' hq => ?_) fun e s' hq => hq)
    obtain ⟨w', H', J', rv, q⟩ := hq
    exact ⟨w', H', J'.os, J'.bare, J'.base, J'.hok, rv, q⟩
  refine wpAny_call (codeAny_mono rc fun r s' hq => ?_)
  cases r with
  | error e => exact passAt tk σZ pinsZ HZ s1 e s' I1 hq
  | ok fl =>
    cases fl with
    | ret u => exact I1.after hq
    | next => exact False.elim hq
    | brk => exact False.elim hq
    | cont => exact False.elim hq
end
section
variable {X : Cx} {W : Wd} {M : Md W} {E : WX}
open LamX
/-- x(lambda: body) -/
theorem lamD {x : Str} {c P : Addr} {j k kb : Nat} {params : Arguments} {body : Expr} {scope : Scope} {F : DAct → DAct} {gq : Bool} {d : DE} {p lpos pos : Pos} (hL : HasL X.prog X.w X.mg X.base W j x gq F) (hgq : gq = true → X.A.guards = some []) (hK : X.K = W.K) (hg : Gl X x) (tk : Takes X E)
    (TB : TabB X.base X.mg c P) (hcode : X.env.code = .ref c) (hmT : (P, X.env.qual ++ "<lambda>") ∈ W.T) (hu : ∀ p ∈ W.T, p.1 = P → p.2 = X.env.qual ++ "<lambda>") (hr : Room k X.A) (hj : j + 1 ≤ k) (hkb : kb + 2 ≤ k) (L : LamS X.env.scope scope) (hdef : defaultsOf params X.env = ([], []))
    (hbind : ∀ (q : Str) (cl : List (Str × Addr)) (pm cv ctv : Value), bindArgs (PySem.W.kla_fn "<lambda>" q params body scope cl pm cv ctv) ⟨[], []⟩ = pure [])
    (hbody : ∀ (A : Around) (outer : List Env) (s : Shared) (H : Hp) (E1 : XK) (f c' : Addr), Room kb (lamCx X A outer s H E1 scope f c').A → Takes (lamCx X A outer s H E1 scope f c') (wxE E1) → PE (lamCx X A outer s H E1 scope f c') body (tD W M (wxE E1) d))
    (hdb : (x == ("__debug__" : Str)) = false := by decide) :
    PE X (.Call (.Name x p) [.Lambda params body scope lpos] [] pos) (tD W M E (dLamC F d)) := by
  obtain ⟨g, fd, pg, bg, sg, Ng, a, b, hm, FD, hb, Sg, hNg, hva, hd, hcd, rfl, hG⟩ := hL
  obtain ⟨oc, od, dV, kV, doc, pm, an, cdv, ct, osl, rfl, lk, hcg, _, _⟩ := FD.ex
  have hk : PySem.W.keepIn X.K (.ref g) = true := by
    rw [hK]
    exact FD.kp
  refine ⟨fun pins s σ H Q I h => ?_⟩
  obtain ⟨io, hp, as, rl, S, P0⟩ := h
  refine wpAny_Call_Name_kw (ld_glob I hg hm ?_ hdb)
  refine PySem.W.callWith_K (h₀ := X.base) I.ok.mod.kin hk ?_ (by rfl) (by rfl)
  show wpAny _ _ (spliced ((false, eval (.Lambda params body scope lpos) X.env) :: backTo pos (starEach [] X.env))) _ _ s
  refine Calls.spliced_cons (lam_make2 I TB hcode hmT hu rl.tb hdef (L.has I.ok) fun f c' pm' ctv H1 s' I1 eN T1 hf hfn hfr hco => ?_)
  refine Calls.spliced_nil ⟨I1.kIn, ?_⟩
  obtain ⟨rl1, e1⟩ := extN rl eN T1
  have S1 := M.mono e1 S
  have P1 := Pst.later P0 e1
  have kI : W.K.In s'.heap := by
    have := I1.kIn
    rw [hK] at this
    exact this
  have e0 : Env0 X.prog X.w W.K X.mg X.base X.A X.stack s' H1 := by
    rw [← hK]
    exact I1.env0
  have rc : codeAny (model X.prog X.w) X.A (.call (.ref g) ⟨[.ref f], []⟩) (CR (L2.CX X.prog X.w) X.stack X.prog X.w H1 s' Q (WE E σ)) s' := by
    obtain ⟨k', rfl⟩ : ∃ k', k = k' + 1 := ⟨k - 1, by omega⟩
    refine LamX.run_ofS (K := W.K) (N := Ng) (ps := [a]) (us := [.ref f]) (vs := [.ref f]) lk hcg Sg hr e0 (hb s' [.ref f] kI rfl) (.cons rfl .nil) rfl fun hr' => ?_
    refine ⟨_, hG cdv X.A X.stack s' H1 (WE E σ) hgq (hr'.mono (by omega)) (takes_of rfl rfl rfl rfl) f c' (X.env.qual ++ "<lambda>") io H1 (fun g => d as g) (fun E1 H' Q' => tD W M (wxE E1) d σ H' Q') ?_ ?_, ?_⟩
    · intro E' pn xe p1 p2 tk'
      exact pe_actZ (k := k' - 1) (t := fun E1 => tD W M (wxE E1) d) I1 L hf hfn hfr (hbind _ _ _ _ _) hK tk' (hr'.mono (by omega)) (fun A outer s H E1 hr2 => hbody A outer s H E1 f c' (hr2.mono (by omega)) (takes_of rfl rfl rfl rfl)) hNg hva hd hcd
    · intro E1 io' H' hp' Q' e' rl' P'
      exact ⟨io', hp', as, rl', M.mono e' S1, Pfn.st P'⟩
    · refine ⟨io, hp, List.replicate Ng.length none, rl1, ⟨⟨by
        obtain ⟨hl, _⟩ := List.getElem?_eq_some_iff.mp hNg
        simp [L2.start]
        omega, fun i v z => ?_⟩, ⟨?_, ?_⟩, hco, Ext.refl⟩, ?_⟩
      · rw [List.getElem?_replicate] at z
        split at z <;> cases z
      · obtain ⟨hl, _⟩ := List.getElem?_eq_some_iff.mp hNg
        rw [List.getElem?_replicate, if_pos hl]
      · cases Ng with
        | nil => cases hNg
        | cons n r => rfl
      · have P2 : Pst W (RV W) E σ Q io H1 ((b (fun g => d as g) (List.replicate Ng.length none) hp).fin) := P1
        cases e : b (fun g => d as g) (List.replicate Ng.length none) hp with
        | nx s h =>
          rw [e] at P2
          exact fun io' H' σ' e' rl' _ => P2 io' H' .non e' rl' .non
        | rt s h =>
          rw [e] at P2
          exact P2
        | bk s h =>
          rw [e] at P2
          exact P2.elim
        | ct s h =>
          rw [e] at P2
          exact P2.elim
        | exc t fs s h =>
          rw [e] at P2
          exact fun io' H' σ' cls d e' rl' _ rx => P2 io' H' cls d e' rl' rx
        | stuck =>
          rw [e] at P2
          exact P2
  refine wpAny_call (codeAny_mono rc fun r s2 hq => ?_)
  cases r with
  | error e => exact passAt tk σ pins H1 s' e s2 I1 hq
  | ok fl =>
    cases fl with
    | ret u => exact I1.after hq
    | next => exact False.elim hq
    | brk => exact False.elim hq
    | cont => exact False.elim hq
end
/-- the same where nothing is being shown -/
theorem fnDLG {P : Program} {w : World} {mg : Str → Option Value} {base : Heap} {W : Wd} {x qual : Str} {params : Arguments} {body : List Stmt} {scope : Scope} {dvs : List V} {kws : List (Str × V)} {f : Addr} {fd : FuncData} {N ps : List Str} {k n : Nat} {b : DS} {c : Addr}
    (F : FunD W.K x qual params body scope dvs kws f fd) (S : FnScope N ps scope) (hn : ps.length = n) (hc : fd.code = .ref c)
    (hb : ∀ (A : Around) (outer : List Env) (s : Shared) (H : Hp) (E : XK), (A.deeper (envOfC qual scope s.heap.objs.size f (.ref c))).guards = some [] → Room k (A.deeper (envOfC qual scope s.heap.objs.size f (.ref c))) → Takes (cxD W P w mg base N qual scope f (.ref c) A outer s H E) (wxE E) →
      PSs (cxD W P w mg base N qual scope f (.ref c) A outer s H E) body (tS W (std W) (wxE E) b)) : FnG P w W.K mg base (L2.CX P w) (k + 1) f fd ps (spD W n (dFun N.length b)) := by
  obtain ⟨⟨oc, od, dV, kV, doc, pm, an, cdv, ct, osl, rfl, lk, hcd, d1, d2⟩, kp⟩ := F
  have hc : cdv = .ref c := hc
  subst hc
  have lenS : ∀ vs H Q E, spD W n (dFun N.length b) vs H Q E → vs.length = ps.length := fun vs H Q E ⟨io, hp, as, hl, _, r, _⟩ => by
    rw [← r.len, hl, hn]
  refine ⟨lenS, fun A outer s H args us vs Q E hg hr e0 hbd r hsp => LamX.run_ofS lk hcd S hr e0 hbd r (lenS _ _ _ _ hsp) fun hr' => ⟨_, hb A outer s H E hg hr' (takes_of rfl rfl rfl rfl), ?_⟩⟩
  · obtain ⟨io, hp, as, hl, rl, r, P⟩ := hsp
    refine ⟨io, hp, dStart N.length as, rl, start_rel r rfl, ?_⟩
    unfold dFun at P
    cases e : b (dStart N.length as) hp with
    | nx s h =>
      rw [e] at P
      exact fun io' H' σ' e' rl' _ => P io' H' .non e' rl' .non
    | rt s h =>
      rw [e] at P
      exact P
    | bk s h =>
      rw [e] at P
      exact P.elim
    | ct s h =>
      rw [e] at P
      exact P.elim
    | exc t fs s h =>
      rw [e] at P
      exact fun io' H' σ' cls d e' rl' _ rx => P io' H' cls d e' rl' rx
    | stuck =>
      rw [e] at P
      exact P
end Dn
namespace Dn
open PySem PySem.Spec PyProof.Rows L2
/-- as many slots as names -/
def ML {W : Wd} (B : Md W) : Prop := ∀ {io : List Addr} {H : Hp} {as : Sl} {σ : L2.St}, B.rel io H as σ → as.length = σ.length
theorem ml_mz {W : Wd} {f c' : Addr} {q : Str} {io0 : List Addr} {H0 : Hp} : ML (MZ W f c' q io0 H0) := fun h => h.1.1
section
variable {W : Wd} {B : Md W} {X : Cx} {T : XT}
/-- the wish of the clauses -/
def wiG {W : Wd} (B : Md W) (T : XT) (E : WX) (hs : Hds) (D : Ends) : WX := fun cls d σ H => ∃ io hp as t fs, Rl W io hp H ∧ B.rel io H as σ ∧ RX W io H t fs cls d ∧ T.n ≤ t ∧ t < T.m ∧ Pss W B E D io H (pickH T t fs as hp hs)
theorem exG_in (bl : ML B) {i t : Nat} {fs : List (Nat × AV)} {a : Addr} {d : Option Addr} {io : List Addr} {H : Hp} {as : Sl} {σ : L2.St} (S : B.rel io H as σ) (hi : i < as.length) (ho : B.ok i) (rx : RXf W io H fs d) :
    (exG B i t fs a d).rel io H (as.set i (some (.exn t fs))) (σ.set i (some (.ref a))) := by
  have hl : as.length = σ.length := bl S
  refine ⟨⟨by simp [hl], List.getElem?_set_self (by rw [← hl]; exact hi), List.getElem?_set_self hi⟩, ?_, rx⟩
  rw [List.set_set, List.set_set]
  exact B.wipe S ho
theorem exG_out {i t : Nat} {fs : List (Nat × AV)} {a : Addr} {d : Option Addr} {io : List Addr} {H : Hp} {as : Sl} {σ : L2.St} (S : (exG B i t fs a d).rel io H as σ) : B.rel io H (as.set i none) (σ.set i none) := S.2.1
theorem PssWipG {E : WX} {D : Ends} {io : List Addr} {H : Hp} {i t : Nat} {fs : List (Nat × AV)} {a : Addr} {d : Option Addr} {r : SR} (P : Pss W B E D io H (r.wip i)) :
    Pss W (exG B i t fs a d) E0x ⟨fun σ' H' => D.nx (σ'.set i none) H', D.rt, fun σ' H' => D.bk (σ'.set i none) H', fun σ' H' => D.ct (σ'.set i none) H'⟩ io H r := by
  cases r with
  | nx s h => exact fun io' H' σ' e rl S => P io' H' _ e rl (exG_out S)
  | bk s h => exact fun io' H' σ' e rl S => P io' H' _ e rl (exG_out S)
  | ct s h => exact fun io' H' σ' e rl S => P io' H' _ e rl (exG_out S)
  | rt v h => exact P
  | exc t fs s h => exact P.elim
  | stuck => exact P
theorem hd_okG (bl : ML B) {E : WX} (w : XWd W T) (hK : X.K = W.K) (hs' : X.stack = X.env :: X.outer) (hf : X.env.frame = some X.env.locals) (tk : Takes X E) {hds : List ExceptHandler} {hs : Hds} (h : HdG B X T hds hs) (D : Ends) : Cls_ X D hds (wiG B T E hs D) := by
  induction h with
  | nil => exact cls_nil hf (tk.imp fun cls d σ H ⟨io, hp, as, t, fs, rl, S, rx, _, _, P⟩ => P io H σ cls d Ext.refl rl S rx)
  | @only x c f b₀ suite np pos hds hs hc h1 h2 hsu r ih =>
    refine cls_only (ts := fun _ _ _ => tS W B E0x f) (w' := wiG B T E hs D) hs' hf hc (fun a oe cls d pn _ _ => hsu a oe pn) (fun cls d σ H ⟨io, hp, as, t, fs, rl, S, rx, t1, t2, P⟩ => ?_) ih
    obtain ⟨rc, rx2⟩ := rx
    subst rc
    refine ⟨T.sub t c, by rw [hK]; exact w.exm t c t1 t2 h1 h2, fun hb a na => ⟨io, hp, as, rl, S, ?_⟩, fun hb => ⟨io, hp, as, t, fs, rl, S, ⟨rfl, rx2⟩, t1, t2, ?_⟩⟩
    · unfold pickH at P
      rw [hb] at P
      exact PssE0 P
    · unfold pickH at P
      rw [hb] at P
      exact P
  | @as x n i c f b₀ suite np pos hds hs hc h1 h2 hB hN hi hl hsu r ih =>
    refine cls_as (ts := fun a cls d D' σ H => ∃ t fs, T.n ≤ t ∧ t < T.m ∧ cls = .ref (W.cl t) ∧ tS W (exG B i t fs a d) E0x f D' σ H) (w' := wiG B T E hs D) hs' hf hN hi hl hc (fun a oe cls d pn z1 z2 => ⟨fun pins s σ H D' I ⟨t, fs, t1, t2, ec, q⟩ => ?_⟩) (fun cls d σ H ⟨io, hp, as, t, fs, rl, S, rx, t1, t2, P⟩ => ?_) ih
    · subst ec
      exact (hsu a oe pn t fs d t1 t2 z1 z2).run pins s σ H D' I q
    · obtain ⟨rc, rx2⟩ := rx
      subst rc
      refine ⟨T.sub t c, by rw [hK]; exact w.exm t c t1 t2 h1 h2, fun hb a na => ?_, fun hb => ⟨io, hp, as, t, fs, rl, S, ⟨rfl, rx2⟩, t1, t2, ?_⟩⟩
      · unfold pickH at P
        rw [hb] at P
        have P2 : Pss W B E D io H (if i < as.length then (f (as.set i (some (.exn t fs))) hp).wip i else .stuck) := P
        by_cases hl2 : i < as.length
        · rw [if_pos hl2] at P2
          exact ⟨t, fs, t1, t2, rfl, io, hp, _, rl, exG_in bl S hl2 hB rx2, PssWipG P2⟩
        · rw [if_neg hl2] at P2
          exact P2.elim
      · unfold pickH at P
        rw [hb] at P
        exact P
theorem sTryG (bl : ML B) {E : WX} {body : List Stmt} {h₀ : ExceptHandler} {hds : List ExceptHandler} {hs : Hds} {fb : DS} {pos : Pos} (w : XWd W T) (hK : X.K = W.K) (hs' : X.stack = X.env :: X.outer) (hf : X.env.frame = some X.env.locals) (tk : Takes X E)
    (hb : ∀ (E' : WX) (pn : List (Addr × Obj)) (xe : Value → Shared → Prop), Takes (X.tr pn xe) E' → PassesOwn (model X.prog X.w) X.A X.env xe → PSs (X.tr pn xe) body (tS W B E' fb)) (hd : HdG B X T (h₀ :: hds) hs) :
    PS X (.Try body (h₀ :: hds) [] [] pos) (tS W B E (dTry T fb hs)) := psI (ps_tryG (tb := fun w' => tS W B w' fb) (wi := wiG B T E hs) hs' hf hb (hd_okG bl w hK hs' hf tk hd)) fun D σ H ⟨io, hp, as, rl, S, P⟩ => by
  refine ⟨io, hp, as, rl, S, ?_⟩
  unfold dTry at P
  cases z : fb as hp with
  | exc t fs s1 h1 =>
    rw [z] at P
    have P2 : Pss W B E D io H (if T.n ≤ t ∧ t < T.m then pickH T t fs s1 h1 hs else .stuck) := P
    by_cases ht : T.n ≤ t ∧ t < T.m
    · rw [if_pos ht] at P2
      exact fun io' H' σ' cls d e rl' S' rx => ⟨io', h1, s1, t, fs, rl', S', rx, ht.1, ht.2, Pss.later P2 e⟩
    · rw [if_neg ht] at P2
      exact P2.elim
  | nx s h =>
    rw [z] at P
    exact P
  | rt v h =>
    rw [z] at P
    exact P
  | bk s h =>
    rw [z] at P
    exact P
  | ct s h =>
    rw [z] at P
    exact P
  | stuck =>
    rw [z] at P
    exact P
end
section
variable {W : Wd} {B : Md W} {X : Cx} {T : XT} {E : WX} {a : Addr} {oe : Obj} {pn : List (Addr × Obj)} {i j t : Nat} {fs : List (Nat × AV)} {d : Option Addr} {x nm : Str} {p pos : Pos}
theorem isXDG {n : String} {xc : Str} {p2 p3 : Pos} (w : XWd W T) (hK : X.K = W.K) (h1 : T.n ≤ t) (h2 : t < T.m) (hz : Zc (.ref (W.cl t)) d oe) (hf : ∃ vs, oe.data = .fields vs) (hm : X.mg "isinstance" = none) (he : PE (X.suite a ((a, oe) :: pn)) (.Name x p) (tVar i)) (hm2 : X.mg xc = none) (hv : bootBuiltins xc = some (.type n))
    (hg : Gl X "isinstance" := by rfl) (hg2 : Gl X xc := by rfl) (hn : xc ≠ "__name__" := by decide) (hdb : (xc == ("__debug__" : Str)) = false := by decide)
    (hs : starEach [.Name x p, .Name xc p2] X.env = (false, eval (.Name x p) X.env) :: starEach [.Name xc p2] X.env := by rfl) (hs2 : starEach [.Name xc p2] X.env = (false, eval (.Name xc p2) X.env) :: starEach [] X.env := by rfl) (hpl : (backTo pos (starEach [.Name xc p2] X.env)).any (·.1) = false := by rfl) :
    PE (X.suite a ((a, oe) :: pn)) (.Call (.Name "isinstance" p3) [.Name x p, .Name xc p2] [] pos) (tD W (exG B i t fs a d) E (dIsX T i n)) := by
  have cr : CallR (X.suite a ((a, oe) :: pn)) (.builtin "isinstance") (fun xs H Q => ∃ (b : Bool), xs = [.ref a, .ty n] ∧ PySem.W.kitOne X.K (.ref (W.cl t)) (.type n) = some b ∧ (d = none ∨ ∃ dd vs, d = some dd ∧ H dd = some (.xd vs)) ∧ Q (.bl b) H) := by
    intro pins s σ H xs us Q I r h
    obtain ⟨b, rfl, e, hd, q⟩ := h
    cases r with
    | cons rx rr =>
      cases rr with
      | cons rt rr =>
        cases rr
        cases rx
        cases rt
        obtain ⟨hget, _⟩ := I.pin (a, oe) (List.mem_append.mpr (.inl List.mem_cons_self))
        obtain ⟨vs, hv⟩ := hf
        have ec := w.ec t h1 h2
        rw [← hK] at ec
        have hcl : (PySem.W.clsIn X.K (W.cl t)).isSome = true := by
          obtain ⟨cd, hc, _⟩ := PySem.W.any_some ec.hd
          rw [hc]
          rfl
        obtain ⟨od, J⟩ : ∃ od, PySem.W.InstAt s.heap a oe (W.cl t) od := by
          rcases hd with rfl | ⟨dd, ws, rfl, hdd⟩
          · exact ⟨none, hget, hz.1, by unfold PySem.W.notCls; rw [hv] <;> rfl, by rw [hz.2]; trivial⟩
          · have hx : ObjOk X.prog X.w H s.heap dd (.xd ws) := I.hok dd _ hdd
            obtain ⟨mA, hns, _⟩ := hx
            obtain ⟨o, ho, _⟩ := lookIn_ns hns
            exact ⟨some o, hget, hz.1, by unfold PySem.W.notCls; rw [hv] <;> rfl, by rw [hz.2]; exact ho⟩
        exact PySem.W.kia_one (PySem.W.kitx_exc hcl ec.hg ec.hk ec.hs ec.ha ec.hn ec.ht ec.hm) I.kIn J e (fun z => nomatch z) fun tk => ⟨.bl b, H, I.kept (t' := tk) fun _ _ z => z, rfl, q⟩
  have ta : PA (X.suite a ((a, oe) :: pn)) [.Name x p, .Name xc p2] (tCons (tVar i) (tCons (tC (.ty n)) tNil)) := pa_cons he (pa_cons (pe_bltn hg2 hm2 hv (v := .ty n) rfl hn hdb) pa_nil (by exact hs2)) (by exact hs)
  refine peI (pe_callB cr hg hm PyProof.Rows.Boot.«isinstance» ta (by decide) (by decide) (by exact hs) (by exact hpl)) fun σ H Q ⟨io, hp, as, rl, S, P⟩ => ?_
  obtain ⟨⟨_, s2, s3⟩, _, s5⟩ := S
  unfold dIsX at P
  rw [s3] at P
  have P2 : Pst W (RV W) E σ Q io H (match tyLook T.ty t n with
    | some b => .ok (.bl b) hp
    | none => .stuck) := P
  cases z : tyLook T.ty t n with
  | none =>
    rw [z] at P2
    exact P2.elim
  | some b =>
    rw [z] at P2
    have e := w.ty _ (tyLook_in z)
    rw [← hK] at e
    refine ⟨.ref a, s2, b, rfl, e, ?_, P2.ok rl (.bl b)⟩
    rcases s5 with ⟨_, h⟩ | ⟨dd, vs, h, h', _⟩
    · exact .inl h
    · exact .inr ⟨dd, vs, h, h'⟩
def isOK (T : XT) (c : Nat) (o : Option (Option AV)) (h : Hep) : R AV := match o with
  | some (some (.exn t _)) => .ok (.bl (T.sub t c)) h
  | _ => .stuck
/-- isinstance(e, C), e a caught exception, C a class of the text -/
def dIsO (T : XT) (i c : Nat) : DE := fun s h => isOK T c s[i]? h
def XOk (W : Wd) (T : XT) (c : Nat) : Prop := ∀ t, T.n ≤ t → t < T.m → PySem.W.kitOne W.K (.ref (W.cl t)) (.ref (W.cl c)) = some (T.sub t c)
theorem xoB_ok {cs : List Str} {c : Nat} (hc : W.cl = clOf W.K cs) (h : xoB cs T c W.K = true) : XOk W T c := fun t a b => by
  have z := of_decide_eq_true (allN_ok h (t - T.n) (by omega))
  rw [show T.n + (t - T.n) = t by omega, ← hc] at z
  exact z
theorem isOD {cc : Nat} {xc : Str} {p2 p3 : Pos} (ho : XOk W T cc) (w : XWd W T) (hK : X.K = W.K) (h1 : T.n ≤ t) (h2 : t < T.m) (hz : Zc (.ref (W.cl t)) d oe) (hf : ∃ vs, oe.data = .fields vs) (hm : X.mg "isinstance" = none) (he : PE (X.suite a ((a, oe) :: pn)) (.Name x p) (tVar i)) (hm2 : X.mg xc = some (.ref (W.cl cc)))
    (hg : Gl X "isinstance" := by rfl) (hg2 : Gl X xc := by rfl) (hn : xc ≠ "__name__" := by decide) (hdb : (xc == ("__debug__" : Str)) = false := by decide)
    (hs : starEach [.Name x p, .Name xc p2] X.env = (false, eval (.Name x p) X.env) :: starEach [.Name xc p2] X.env := by rfl) (hs2 : starEach [.Name xc p2] X.env = (false, eval (.Name xc p2) X.env) :: starEach [] X.env := by rfl) (hpl : (backTo pos (starEach [.Name xc p2] X.env)).any (·.1) = false := by rfl) :
    PE (X.suite a ((a, oe) :: pn)) (.Call (.Name "isinstance" p3) [.Name x p, .Name xc p2] [] pos) (tD W (exG B i t fs a d) E (dIsO T i cc)) := by
  have cr : CallR (X.suite a ((a, oe) :: pn)) (.builtin "isinstance") (fun xs H Q => ∃ (b : Bool), xs = [.ref a, .ref (W.cl cc)] ∧ PySem.W.kitOne X.K (.ref (W.cl t)) (.ref (W.cl cc)) = some b ∧ (d = none ∨ ∃ dd vs, d = some dd ∧ H dd = some (.xd vs)) ∧ Q (.bl b) H) := by
    intro pins s σ H xs us Q I r h
    obtain ⟨b, rfl, e, hd, q⟩ := h
    cases r with
    | cons rx rr =>
      cases rr with
      | cons rt rr =>
        cases rr
        cases rx
        cases rt
        obtain ⟨hget, _⟩ := I.pin (a, oe) (List.mem_append.mpr (.inl List.mem_cons_self))
        obtain ⟨vs, hv⟩ := hf
        have ec := w.ec t h1 h2
        rw [← hK] at ec
        have hcl : (PySem.W.clsIn X.K (W.cl t)).isSome = true := by
          obtain ⟨cd, hc, _⟩ := PySem.W.any_some ec.hd
          rw [hc]
          rfl
        obtain ⟨od, J⟩ : ∃ od, PySem.W.InstAt s.heap a oe (W.cl t) od := by
          rcases hd with rfl | ⟨dd, ws, rfl, hdd⟩
          · exact ⟨none, hget, hz.1, by unfold PySem.W.notCls; rw [hv] <;> rfl, by rw [hz.2]; trivial⟩
          · have hx : ObjOk X.prog X.w H s.heap dd (.xd ws) := I.hok dd _ hdd
            obtain ⟨mA, hns, _⟩ := hx
            obtain ⟨o, ho, _⟩ := lookIn_ns hns
            exact ⟨some o, hget, hz.1, by unfold PySem.W.notCls; rw [hv] <;> rfl, by rw [hz.2]; exact ho⟩
        exact PySem.W.kia_one (PySem.W.kitx_exc hcl ec.hg ec.hk ec.hs ec.ha ec.hn ec.ht ec.hm) I.kIn J e (fun z => nomatch z) fun tk => ⟨.bl b, H, I.kept (t' := tk) fun _ _ z => z, rfl, q⟩
  have ta : PA (X.suite a ((a, oe) :: pn)) [.Name x p, .Name xc p2] (tCons (tVar i) (tCons (tC (.ref (W.cl cc))) tNil)) := pa_cons he (pa_cons (pe_glob (v := .ref (W.cl cc)) hg2 hm2 rfl hdb) pa_nil (by exact hs2)) (by exact hs)
  refine peI (pe_callB cr hg hm PyProof.Rows.Boot.«isinstance» ta (by decide) (by decide) (by exact hs) (by exact hpl)) fun σ H Q ⟨io, hp, as, rl, S, P⟩ => ?_
  obtain ⟨⟨_, s2, s3⟩, _, s5⟩ := S
  unfold dIsO at P
  rw [s3] at P
  have P2 : Pst W (RV W) E σ Q io H (.ok (.bl (T.sub t cc)) hp) := P
  have e := ho t h1 h2
  rw [← hK] at e
  refine ⟨.ref a, s2, T.sub t cc, rfl, e, ?_, P2.ok rl (.bl _)⟩
  rcases s5 with ⟨_, h⟩ | ⟨dd, vs, h, h', _⟩
  · exact .inl h
  · exact .inr ⟨dd, vs, h, h'⟩
end
end Dn
namespace Dn
open PySem PySem.Spec PyProof.Rows L2
theorem FunD.codeF {K : PySem.W.Frag} {h : Heap} {x qual : Str} {params : Arguments} {body : List Stmt} {scope : Scope} {dvs : List V} {kws : List (Str × V)} {f : Addr} {fd : FuncData} (F : FunD K x qual params body scope dvs kws f fd) (l : LamAt K h f) : fd.code = .ref (codF K f) := by
  obtain ⟨oc, od, fd', osl, e, hc⟩ := l.fd
  obtain ⟨oc2, od2, dV, kV, doc, pm, an, cdv, ct, osl2, _, lk, _⟩ := F.ex
  rw [e] at lk
  cases lk
  exact hc
theorem tab_u {l : List (Addr × Str)} (nd : (l.map (·.1)).Nodup) {P : Addr} {q : Str} (m : (P, q) ∈ l) : ∀ p ∈ l, p.1 = P → p.2 = q := by
  induction l with
  | nil => cases m
  | cons a l ih =>
    rw [List.map_cons, List.nodup_cons] at nd
    intro p hp e
    rcases List.mem_cons.mp hp with rfl | hp
    · rcases List.mem_cons.mp m with z | z
      · rw [← z]
      · exact absurd (List.mem_map.mpr ⟨_, z, e.symm⟩) nd.1
    · rcases List.mem_cons.mp m with z | z
      · exact absurd (List.mem_map.mpr ⟨p, hp, by rw [e, ← z]⟩) nd.1
      · exact ih nd.2 z p hp e
theorem law_spT {W : Wd} {P : Program} {w : World} {mg : Str → Option Value} {base : Heap} {CX : CXT} {k : Nat} {f : Addr} {fd : FuncData} {ps : List Str} {F : DF} {cs : List (Addr × Addr)} (hT : W.T.map (·.1) = cs.map (·.2)) (hF : FnG P w W.K mg base CX k f fd ps (spD W 1 F))
    (law : ∀ ns : List Int, ns.length ≤ 63 → ∃ h, F [.rol (ns.map .int)] [] = .ok (.bl true) h) : FnG P w W.K mg base CX k f fd ps (spLT cs W.K) := hF.imp fun vs H Q E ⟨a, ns, e, hl, hO, hC, hS, hQ⟩ => by
  subst e
  obtain ⟨h, e⟩ := law ns hl
  refine ⟨[], [], [.rol (ns.map .int)], rfl, ⟨rfl, List.nodup_nil, fun i a o hi => by simp at hi, fun p hp => ?_⟩, .cons (.rol ?_ (RVs.ints ns)) .nil, ?_⟩
  · have m : p.1 ∈ cs.map (·.2) := by
      rw [← hT]
      exact List.mem_map.mpr ⟨p, hp, rfl⟩
    obtain ⟨q, hq, eq⟩ := List.mem_map.mp m
    exact LamX.TabS.nil (by rw [← eq]; exact hC q hq)
  · rcases hS with (z | ⟨o, z⟩) | z
    · rcases hO a with q | ⟨_, q⟩ | ⟨o, xs, q⟩
      · rw [q] at z
        cases z
      · rw [q] at z
        cases z
      · rw [q] at z
        cases z
    · exact .inl ⟨o, z⟩
    · exact .inr (.inr z)
  · rw [e]
    intro io' H' x _ _ r
    obtain rfl := r.bl_inv
    exact hQ H'
end Dn
namespace Dn
open PySem PySem.Spec PyProof.Rows L2
section
variable {W : Wd} {E : WX} {X : Cx} {T : XT} {t i : Nat} {fs : List (Nat × AV)} {a : Addr} {oe : Obj} {d : Option Addr} {pn : List (Addr × Obj)} {x : Str} {p pos : Pos} {B : Md W}
end
end Dn
namespace Dn
open PySem PySem.Spec PyProof.Rows L2
section
variable {P : Program} {w : World} {mg : Str → Option Value} {base : Heap} {W : Wd} {k n t : Nat} {f : Addr} {fd : FuncData} {ps : List Str} {F : DF} {x : Str} {bs : Bs}
end
section
variable {W : Wd} {M : Md W} {E : WX} {X : Cx} {k j n m q t : Nat} {ps : List Str} {F : DF} {x c : Str} {p pos apos : Pos} {e : Expr} {es : List Expr} {fa : DA} {ix : List Nat} {dfl : List AV} {bs : Bs}
end
end Dn
namespace Dn
open PySem PySem.Spec PyProof.Rows L2
end Dn
namespace Dn
open PySem PySem.Spec PyProof.Rows L2
section
variable {W : Wd} {M : Md W} {E : WX} {X : Cx} {x : Str} {p pos : Pos} {e : Expr} {es : List Expr} {kws : List Keyword} {fa fk : DA}
end
end Dn
namespace Dn
open PySem PySem.Spec PyProof.Rows L2
section
variable {W : Wd} {M : Md W} {E : WX} {X : Cx} {k j n m q t i : Nat} {ps ks : List Str} {F : DF} {x y : Str} {p pos : Pos} {e : Expr} {es : List Expr} {kws : List Keyword} {fa fk : DA} {ix : List Nat} {dfl : List AV} {bs : Bs}
end
end Dn
namespace Dn
open PySem PySem.Spec PyProof.Rows L2
section
variable {W : Wd} {M : Md W} {E : WX} {X : Cx} {pos : Pos}
end
end Dn
namespace Dn
open PySem PySem.Spec PyProof.Rows L2
section
variable {h : Hep}
end
end Dn
namespace Dn
open PySem PySem.Spec PyProof.Rows L2
section
variable {W : Wd} {M : Md W} {E : WX} {X : Cx} {x : Str} {l : List (Str × Int)} {e f : Expr} {fk fx : DE} {p apos cpos : Pos}
end
end Dn
namespace Dn
open PySem PySem.Spec PyProof.Rows L2
end Dn
namespace Dn
open PySem PySem.Spec PyProof.Rows L2
end Dn
namespace Dn
open PySem PySem.Spec PyProof.Rows L2
section
variable {P : Program} {w : World} {mg : Str → Option Value} {base : Heap} {W : Wd} {x qual : Str} {params : Arguments} {body : List Stmt} {scope : Scope} {f : Addr} {fd : FuncData}
end
section
variable {W : Wd} {M : Md W} {E : WX} {X : Cx} {k j n i t : Nat} {F : DF} {x : Str} {p pos apos : Pos} {e o : Expr} {fo : DE} {g : Addr}
end
end Dn
namespace Dn
open PySem PySem.Spec PyProof.Rows L2
end Dn
namespace Dn
open PySem PySem.Spec PyProof.Rows L2
end Dn
namespace Dn
open PySem PySem.Spec PyProof.Rows L2
section
variable {X : Cx} {d : Addr} {es : Array DictEntry} {n : Nat} {l : List (Str × List Str)}
end
section
variable {W : Wd} {M : Md W} {E : WX} {X : Cx} {x : Str} {l : List (Str × List Str)} {e : Expr} {fx : DE} {p pos : Pos}
end
end Dn
namespace ZS
open PySem PySem.Spec PyProof.Rows
open PySem.Sem (wp)
section
variable {prog : Program} {w : World} {A : Around} {E : Value → Shared → Prop} {s : Shared}
end
section
variable {prog : Program} {w : World} {A : Around} {E : Value → Shared → Prop} {s : Shared}
end
section
variable {M : Model} {A : Around} {E : Value → Shared → Prop} {s : Shared} {env : Env}
end
open L2
end ZS
namespace Dn
open PySem PySem.Spec PyProof.Rows L2
section
variable {W : Wd} {M : Md W} {E : WX} {X : Cx} {e e2 : Expr} {kws : List Keyword} {fa fk : DA} {p pos tpos : Pos} {elts : List Expr} {kk : Nat}
end
end Dn
namespace Dn
open PySem PySem.Spec PyProof.Rows L2
section
variable {X : Cx} {body : List Stmt} {rest : List MatchCase} {p p1 p2 pos : Pos} {x : Str} {j : Nat} {t : TS} {u : Str → TS} {e : Expr}
end
section
variable {W : Wd} {M : Md W} {E : WX} {X : Cx} {body : List Stmt} {rest : List MatchCase} {p p1 p2 pos : Pos} {x : Str} {j : Nat} {fb d : DS} {cs : List (Str × DS)} {e : Expr} {f : DE}
end
end Dn
namespace Dn
open PySem PySem.Spec PyProof.Rows L2
section
variable {W : Wd} {M : Md W} {E : WX} {X : Cx} {a b : Expr} {es : List Expr} {f g : DE} {pos : Pos}
end
section
variable {W : Wd} {M : Md W} {E : WX} {X : Cx} {k j n q : Nat} {ps ks : List Str} {F : DF} {x : Str} {p pos : Pos} {kws : List Keyword} {fk : DA} {ix : List Nat} {dfl : List AV} {bs : Bs}
end
end Dn
namespace Dn
open PySem PySem.Spec PyProof.Rows L2
section
variable {W : Wd} {M : Md W} {E : WX} {X : Cx} {o e f : Expr} {fo fk fx : DE} {apos cpos : Pos}
end
section
variable {W : Wd} {M : Md W} {E : WX} {X : Cx} {k j n i i1 i2 t : Nat} {F : DF} {x : Str} {p pos apos : Pos} {e ea eb o : Expr} {fo : DE}
end
section
variable {W : Wd} {M : Md W} {E : WX} {X : Cx} {x : Str} {l : List (Str × List Str)} {e : Expr} {fx : DE} {p pos : Pos}
end
end Dn
namespace Dn
open PySem PySem.Spec PyProof.Rows L2
end Dn
namespace Dn
open PySem PySem.Spec PyProof.Rows L2
section
variable {X : Cx} {pins : List (Addr × Obj)} {σ : L2.St} {H : Hp} {s : Shared}
end
section
variable {W : Wd} {io : List Addr} {H : Hp} {hp : Hep}
end
section
variable {W : Wd} {M : Md W} {E : WX} {X : Cx}
end
end Dn
namespace Dn
open PySem PySem.Spec PyProof.Rows L2
end Dn
namespace Dn
open PySem PySem.Spec PyProof.Rows L2
section
variable {W : Wd} {X : Cx}
end
end Dn
namespace Dn
open PySem PySem.Spec PyProof.Rows L2
section
variable {W : Wd} {M : Md W} {E : WX} {X : Cx} {f : DE} {e : Expr} {es : List Expr} {gs : DGs} {pos tpos p : Pos} {kk i n : Nat}
end
end Dn
namespace Dn
open PySem PySem.Spec PyProof.Rows L2
end Dn
namespace Dn
open PySem PySem.Spec PyProof.Rows L2
end Dn
namespace Dn
open PySem PySem.Spec PyProof.Rows L2
end Dn
namespace PySem
namespace DX
open PySem.W PySem.Calls PyProof.Rows
section
variable {md : Model} {ar : Around} {ex : Value → Shared → Prop} {hp : Heap} {gs : Array GenState} {dr : Drawn} {tc : Nat} {ops : OsState}
variable {cn qn : Str} {C N : Addr} {bs bm bmB : List Value} {hd : Bool} {sl : List Str} {sb : List Value} {ab : Bool} {col : Option Bool} {dd : Option Addr} {k0 k1 k2 k3 k5 : Option Value} {O nid : String} {kw : List (Str × Value)}
end
section
variable {prog : Program} {w : World} {ar : Around} {ex : Value → Shared → Prop} {R : Result → Shared → Prop} {hp : Heap} {gs : Array GenState} {dr : Drawn} {tc : Nat} {ops : OsState}
variable {cn qn : Str} {C N : Addr} {bs bm bmB : List Value} {hd : Bool} {sl : List Str} {sb : List Value} {ab : Bool} {col : Option Bool} {dd : Option Addr} {k0 k1 k2 k3 k5 : Option Value} {O nid : String} {kw : List (Str × Value)}
end
end DX
end PySem

namespace Dn
open PySem PySem.Spec PyProof.Rows L2

section
variable {X : Cx} {E : WX} {C : Addr} {nm : Str} {B newId initId : String} {bmB : List Value} {x : Str} {p pos kpos : Pos} {e : Expr}
end

section
variable {W : Wd} {M : Md W} {E : WX} {X : Cx} {t j k : Nat} {x : Str} {e : Expr} {f : DE} {p p2 pos : Pos}
section
variable {C fI : Addr} {nm : Str} {B newId : String} {bmB : List Value} {fd : FuncData} {ps ks : List Str} {kws : List Keyword} {ta : TA} {fk : DA}
end
end

section
variable {W : Wd} {M : Md W} {E : WX} {X : Cx} {T : XT} {e : Expr} {f : DE} {pos p2 p3 : Pos} {xc : Str}
end
end Dn
namespace Dn
open PySem PySem.Spec PyProof.Rows L2
section
variable {P : Program} {w : World} {H : Hp} {h : Heap} {a : Addr} {x : V} {ep : Nat}
end
section
variable {X : Cx} {pos p2 : Pos} {k v : Expr}
end
section
variable {W : Wd} {M : Md W} {E : WX} {X : Cx} {a b k v : Expr} {es elts : List Expr} {f : DE} {pos p2 apos cpos tpos : Pos} {kk : Nat}
end
end Dn
namespace Dn
open PySem PySem.Spec PyProof.Rows L2
section
variable {H H0 : Hp} {b : Addr} {o : HO}
end
section
variable {P : Program} {w : World} {mg : Str → Option Value} {base : Heap} {W : Wd} {k n : Nat} {x : Str} {ps : List Str} {F : DF} {bs : Bs}
end
end Dn
namespace Dn
open PySem PySem.Spec PyProof.Rows L2
section
variable {M : Model} {A : Around} {E : Value → Shared → Prop} {s : Shared} {Z : Obj → Prop} {base : Heap} {env : Env} {outer l : List Env} {L e : Addr}
end
section
variable {X : Cx} {pins : List (Addr × Obj)} {σ : L2.St} {H : Hp} {s : Shared} {xe : Value → Shared → Prop}
end
section
variable {X : Cx} {W : WX} {pins : List (Addr × Obj)} {σ : L2.St} {H3 : Hp} {s3 : Shared} {scope : Scope} {cenv : Env} {fp : List Addr} {Qf : Value → Shared → Prop} {acc : Value} {xe : Value → Shared → Prop}
end
section
variable {X : Cx}
end
end Dn
namespace Dn
open PySem PySem.Spec PyProof.Rows L2
section
variable {W : Wd} {M : Md W} {E : WX} {X : Cx} {pos : Pos}
end
end Dn
namespace Dn
open PySem PySem.Spec PyProof.Rows L2
end Dn
namespace Dn
open PySem PySem.Spec PyProof.Rows L2 LamX
section
variable {X : Cx} {pins : List (Addr × Obj)} {σ : L2.St} {H : Hp} {s : Shared}
theorem lay_fn {params : Arguments} {body : Expr} {scope : Scope} {c' : Addr} {pm ctv : Value} {h' : Heap} {t' : Nat} (I : Inv X pins σ H { s with heap := h', toks := t' }) :
    Inv X pins σ (upd H h'.objs.size (FnL X params body scope h'.objs.size c' pm ctv)) { s with heap := h'.push (PySem.W.kla_obj "<lambda>" (X.env.qual ++ "<lambda>") params body scope (cloFrom X.env.cells scope.names []) pm c' ctv), toks := t' } :=
  I.laid (t' := t') (fun b o e => Heap.get?_push_of_some _ e) (Nat.le_refl _) ⟨Heap.get?_push_size _ rfl, ⟨_, Heap.get?_push_size _ rfl⟩, fun h1 h2 a st => st _ a⟩
/-- as lam_make2, the function object known -/
theorem lam_make3 {T : List (Addr × Str)} {c P : Addr} {params : Arguments} {body : Expr} {scope : Scope} {pos : Pos} {E : Value → Shared → Prop} {Q : Value → Shared → Prop} (I : Inv X pins σ H s) (TB : TabB X.base X.mg c P) (hcode : X.env.code = .ref c)
    (hm : (P, X.env.qual ++ "<lambda>") ∈ T) (hu : ∀ p ∈ T, p.1 = P → p.2 = X.env.qual ++ "<lambda>") (hT : Tabs T H) (hdef : defaultsOf params X.env = ([], [])) (hfree : ∀ y ∈ scope.names, y.2 = .free → ∃ c, X.env.cells.lookup y.1 = some c)
    (h : ∀ (f c' : Addr) (pm ctv : Value) (H1 : Hp) (s' : Shared), Inv X pins σ H1 s' → ExtN H H1 → Tabs T H1 →
      H f = none → H1 f = some (FnL X params body scope f c' pm ctv) → f ∉ frs X.stack → H1 c' = some (CodeO c' (X.env.qual ++ "<lambda>")) → Q (.ref f) s') :
    wpAny (model X.prog X.w) X.A (eval (.Lambda params body scope pos) X.env) Q E s := by
  obtain ⟨ps, hP, ht, ha⟩ := hT _ hm
  refine PySem.W.kla_eval hdef ?_
  have bP : s.heap.BuiltinsAt X.mg P := TB.bm.keeps I.bk
  have hP' : s.heap.get? P = some { cls := .none, data := .fields ps } := I.hok P _ hP
  have nofr : ∀ f, s.heap.objs.size ≤ f → f ∉ frs X.stack := fun f hf z => by
    rcases List.mem_cons.mp (I.stkSub _ z) with e | e
    · have h1 := I.lt
      rw [← e] at h1
      exact Nat.lt_irrefl _ (Nat.lt_of_lt_of_le h1 hf)
    · exact I.nofs hf e
  have tabs : ∀ {H1 : Hp} {f : Addr} {o : HO}, H1 f = none → Tabs T H1 → Tabs T (upd H1 f o) := fun {H1 f o} n t => t.ext fun b u e => by
    rw [upd_ne (ne_of_none e n)]
    exact e
  cases hc : codeAmong pos ps.toList with
  | none =>
    refine PySem.W.kla_makeFunction (mg := X.mg) (c := c) (P := P) (ps := ps) (closure_ok hfree) I.ok.glob (I.mod.glob.keeps I.bk) hcode (TB.code.keeps I.bk) hP' ht hc TB.gP bP fun c' ctv h' tk hx hge hlt hrec htb => ?_
    obtain ⟨c2, oc, vs, t, e2, hoc, hd, hv⟩ := hrec
    cases e2
    have hsz : s.heap.objs.size ≤ h'.objs.size := Nat.le_trans hge (Nat.le_of_lt hlt)
    have nC : H c' = none := I.hok.fresh hge
    have nF : H h'.objs.size = none := I.hok.fresh hsz
    have I0 := inv_table (t' := tk) (more := #[rawInt pos.line, rawInt pos.col, .ref c']) (h' := h') I hP hx htb hge ⟨oc, vs, t, hoc, hd, hv⟩
    have n1 : h'.objs.size ≠ c' := Nat.ne_of_gt hlt
    have n2 : h'.objs.size ≠ P := Nat.ne_of_gt (Nat.lt_of_lt_of_le (Heap.lt_size hP') hsz)
    have nF1 : upd (upd H P (.tbl (ps ++ #[rawInt pos.line, rawInt pos.col, .ref c']))) c' (CodeO c' (X.env.qual ++ "<lambda>")) h'.objs.size = none := by
      rw [upd_ne n1, upd_ne n2]
      exact nF
    have I1 := lay_fn (params := params) (body := body) (scope := scope) (c' := c') (pm := (X.mg "__name__").getD .none) (ctv := ctv) I0
    have hE : ExtN H (upd (upd H P (.tbl (ps ++ #[rawInt pos.line, rawInt pos.col, .ref c']))) c' (CodeO c' (X.env.qual ++ "<lambda>"))) := fun b o e n => by
      rw [upd_ne (ne_of_none e nC), upd_ne (fun z => n ps (Option.some.inj (e.symm.trans (by rw [z]; exact hP))))]
      exact e
    have eL : (ps ++ #[rawInt pos.line, rawInt pos.col, .ref c']).toList = ps.toList ++ [rawInt pos.line, rawInt pos.col, .ref c'] := by simp
    refine h h'.objs.size c' ((X.mg "__name__").getD .none) ctv _ _ I1 (hE.trans (ExtN.of fun b o e => by rw [upd_ne (ne_of_none e nF1)]; exact e)) (tabs nF1 fun p hp => ?_) nF upd_same (nofr _ hsz) (by rw [upd_ne (Ne.symm n1), upd_same])
    by_cases hb : p.1 = P
    · rw [hu p hp hb, hb]
      refine ⟨_, by rw [upd_ne (ne_of_none hP nC), upd_same], by rw [eL]; exact PySem.TriplesOk_snoc _ _ _ _ ht, fun p' cv hcv => ?_⟩
      rw [eL] at hcv
      rcases among_app _ ht hcv with z | z
      · obtain ⟨c0, e1, e2⟩ := ha p' cv z
        exact ⟨c0, e1, hE _ _ e2 codeO_ne⟩
      · exact ⟨c', z, upd_same⟩
    · obtain ⟨ps', a1, a2, a3⟩ := hT p hp
      refine ⟨ps', by rw [upd_ne (ne_of_none a1 nC), upd_ne hb]; exact a1, a2, fun p' cv hcv => ?_⟩
      obtain ⟨c0, e1, e2⟩ := a3 p' cv hcv
      exact ⟨c0, e1, hE _ _ e2 codeO_ne⟩
  | some cv =>
    obtain ⟨c', e, hco⟩ := ha pos cv hc
    subst e
    refine PySem.W.kla_makeFunctionHit (mg := X.mg) (c := c) (P := P) (ps := ps) (closure_ok hfree) I.ok.glob (I.mod.glob.keeps I.bk) hcode (TB.code.keeps I.bk) hP' ht hc bP fun ctv h' tk hx hsz => ?_
    have nF : H h'.objs.size = none := I.hok.fresh hsz
    have I0 : Inv X pins σ H { s with heap := h', toks := tk } := I.kept hx
    have I1 := lay_fn (params := params) (body := body) (scope := scope) (c' := c') (pm := (X.mg "__name__").getD .none) (ctv := ctv) I0
    exact h h'.objs.size c' ((X.mg "__name__").getD .none) ctv _ _ I1 (ExtN.of fun b o e => by rw [upd_ne (ne_of_none e nF)]; exact e) (tabs nF hT) nF upd_same (nofr _ hsz) (by rw [upd_ne (ne_of_none hco nF)]; exact hco)
end
end Dn
namespace Dn
open PySem PySem.Spec PyProof.Rows L2 LamX
/-- its body keeps the promise of its reading -/
structure LamR {W : Wd} (M : Md W) (X : Cx) (kb : Nat) (l : LamT) : Prop where
  L : LamS X.env.scope l.scope
  hdef : defaultsOf l.params X.env = ([], [])
  hbind : ∀ (q : Str) (cl : List (Str × Addr)) (pm cv ctv : Value), bindArgs (PySem.W.kla_fn "<lambda>" q l.params l.body l.scope cl pm cv ctv) ⟨[], []⟩ = pure []
  hbody : ∀ (A : Around) (outer : List Env) (s : Shared) (H : Hp) (E1 : XK) (f c' : Addr), Room kb (lamCx X A outer s H E1 l.scope f c').A → Takes (lamCx X A outer s H E1 l.scope f c') (wxE E1) → PE (lamCx X A outer s H E1 l.scope f c') l.body (tD W M (wxE E1) l.d)
section
variable {W : Wd} {X : Cx} {io io' : List Addr} {H H' : Hp}
/-- a lambda as a value -/
def tFn (W : Wd) (X : Cx) (l : LamT) : TE := fun _ H Q => Tabs W.T H ∧ ∀ f H1, ExtN H H1 → Tabs W.T H1 → LamF X l H1 f → Q (.ref f) H1
theorem pe_fn {c P : Addr} {params : Arguments} {body : Expr} {scope : Scope} {d : DE} {lpos : Pos} (L : LamS X.env.scope scope) (hdef : defaultsOf params X.env = ([], [])) (TB : TabB X.base X.mg c P) (hcode : X.env.code = .ref c) (hmT : (P, X.env.qual ++ "<lambda>") ∈ W.T) (hu : ∀ p ∈ W.T, p.1 = P → p.2 = X.env.qual ++ "<lambda>") :
    PE X (.Lambda params body scope lpos) (tFn W X ⟨params, body, scope, d⟩) := by
  refine ⟨fun pins s σ H Q I h => ?_⟩
  obtain ⟨tb, q⟩ := h
  exact lam_make3 I TB hcode hmT hu tb hdef (L.has I.ok) fun f c' pm ctv H1 s' I1 eN T1 hn hf hfr hco => ⟨.ref f, H1, I1, rfl, q f H1 eN T1 ⟨hfr, c', pm, ctv, hf, hco⟩⟩
theorem Fns.snoc {lams : List LamT} {fs : List Addr} {l : LamT} {f : Addr} (h : Fns X lams H fs) (q : LamF X l H f) : Fns X (lams ++ [l] : List LamT) H (fs ++ [f] : List Addr) := by
  refine ⟨by simp [h.1], fun i l' f' a b => ?_⟩
  by_cases hi : i < lams.length
  · rw [List.getElem?_append_left hi] at a
    rw [List.getElem?_append_left (by rw [h.1]; exact hi)] at b
    exact h.2 i l' f' a b
  · rw [List.getElem?_append_right (by omega)] at a
    rw [List.getElem?_append_right (by rw [h.1]; omega)] at b
    rw [h.1] at b
    cases hj : i - lams.length with
    | zero =>
      rw [hj] at a b
      cases a
      cases b
      exact q
    | succ j =>
      rw [hj] at a
      simp at a
/-- while it is made -/
def BU (W : Wd) (X : Cx) (ic : Nat) (lams : List LamT) (io : List Addr) (hp : Hep) (as : Sl) (σ : L2.St) (H : Hp) : Prop :=
  Rl W io hp H ∧ (std W).rel io H as σ ∧ as[ic]? = some none ∧ ∃ p fs, σ[ic]? = some (some (.ref p)) ∧ p ∉ io ∧ H p = some (.lst (fs.map V.ref)) ∧ Fns X lams H fs
def tUp (W : Wd) (X : Cx) (ic : Nat) (lams : List LamT) (E : WX) (f : DS) : TS := fun D σ H => ∃ io hp as, BU W X ic lams io hp as σ H ∧ Pss W (std W) E D io H (f as hp)
/-- how it begins -/
def dLams (ic : Nat) (f : DS) : DS := fun s h => if ic < s.length then f (s.set ic none) h else .stuck
theorem mem_dom (R : Rl W io hp H) {p : Addr} (h : H p = none) : p ∉ io := fun m => by
  obtain ⟨u, e⟩ := R.mem m
  rw [h] at e
  cases e
theorem lamsD {E : WX} {ic : Nat} {l : LamT} {st : Stmt} {rest : List Stmt} {f : DS} (hs : PS X st (tAsg (tLst (tCons (tFn W X l) tNil)) (gName ic))) (hr : PSs X rest (tUp W X ic [l] E f)) : PSs X (st :: rest) (tS W (std W) E (dLams ic f)) :=
  pssI (pss_cons hs hr) fun D σ H ⟨io, hp, as, rl, S, P⟩ => by
    unfold dLams at P
    by_cases hi : ic < as.length
    · rw [if_pos hi] at P
      refine ⟨rl.tb, fun f0 H1 eN T1 hf => ⟨by show 1 ≤ sizeLine; decide, fun p hp1 => ?_⟩⟩
      obtain ⟨rl1, e1⟩ := extN rl eN T1
      have e2 : Ext W io H1 io (upd H1 p (.lst [V.ref f0])) := Ext.new0 hp1
      refine ⟨io, hp, as.set ic none, ⟨rl1.other hp1, ⟨by simp [S.1], fun i v z => ?_⟩, by simp [hi], p, [f0], by rw [List.getElem?_set_self (by rw [← S.1]; exact hi)], mem_dom rl1 hp1, upd_same, ⟨rfl, fun i l' f' a b => ?_⟩⟩, Pss.later P (e1.trans e2)⟩
      · by_cases hj : i = ic
        · subst hj
          rw [List.getElem?_set_self hi] at z
          cases z
        · rw [List.getElem?_set_ne (Ne.symm hj)] at z ⊢
          obtain ⟨x, a, b⟩ := S.2 i v z
          exact ⟨x, a, b.mono (e1.trans e2)⟩
      · cases i with
        | zero =>
          cases a
          cases b
          exact hf.mono e2
        | succ i =>
          simp at a
    · rw [if_neg hi] at P
      exact P.elim
theorem lamAppD {E : WX} {ic : Nat} {l : LamT} {lams : List LamT} {st : Stmt} {rest : List Stmt} {f : DS} (hs : PS X st (tDrop (tBM X.K "list" rAppend (tVar ic) (tCons (tFn W X l) tNil)))) (hr : PSs X rest (tUp W X ic (lams ++ [l]) E f)) (hl : lams.length < 100) : PSs X (st :: rest) (tUp W X ic lams E f) :=
  pssI (pss_cons hs hr) fun D σ H ⟨io, hp, as, ⟨rl, S, hn, p, fs, hp1, hp2, hp3, F⟩, P⟩ => by
    refine ⟨.ref p, hp1, .inl ⟨rfl, _, SqL.of hp3⟩, rl.tb, fun f0 H1 eN T1 hf => ?_⟩
    obtain ⟨rl1, e1⟩ := extN rl eN T1
    have hp4 : H1 p = some (.lst (fs.map V.ref)) := eN _ _ hp3 (fun ps z => by cases z)
    refine ⟨p, fs.map V.ref, .ref f0, rfl, rfl, hp4, ?_, ?_⟩
    · rw [List.length_map, F.1]
      exact Nat.lt_trans hl (by decide)
    · have e2 : Ext W io H1 io (upd H1 p (.lst (fs.map V.ref ++ [V.ref f0]))) := Ext.set _ hp4 trivial
      refine ⟨io, hp, as, ⟨Rl.off rl1 hp2 hp4 trivial, (std W).mono (e1.trans e2) S, hn, p, fs ++ [f0], hp1, hp2, by rw [upd_same, List.map_append]; rfl, ?_⟩, Pss.later P (e1.trans e2)⟩
      exact Fns.mono (Fns.snoc (F.mono e1) hf) e2
def MC (W : Wd) (X : Cx) (ic : Nat) (lams : List LamT) : Md W where
  rel := fun io H as σ => (std W).rel io H as σ ∧ as[ic]? = some none ∧ ∃ p o fs, σ[ic]? = some (some (.ref p)) ∧ H p = some (.frz o (.lst (fs.map V.ref))) ∧ Fns X lams H fs
  mono := fun e h => by
    obtain ⟨a, b, p, o, fs, c, d, f⟩ := h
    exact ⟨(std W).mono e a, b, p, o, fs, c, e.frz _ _ _ d, f.mono e⟩
  var := fun h a n => (std W).var h.1 a n
  ok := fun i => i ≠ ic
  set := fun h r hi => ⟨(std W).set h.1 r trivial, by rw [List.getElem?_set_ne hi]; exact h.2.1, by rw [List.getElem?_set_ne hi]; exact h.2.2⟩
  wipe := fun h hi => ⟨(std W).wipe h.1 trivial, by rw [List.getElem?_set_ne hi]; exact h.2.1, by rw [List.getElem?_set_ne hi]; exact h.2.2⟩
theorem Pss.toMC {E : WX} {D : Ends} {ic : Nat} {lams : List LamT} {r : SR} (P : Pss W (std W) E D io H r) : Pss W (MC W X ic lams) E D io H r := by
  cases r with
  | nx s hp => exact fun io' H' σ' e rl S => P io' H' σ' e rl S.1
  | rt v hp => exact P
  | bk s hp => exact fun io' H' σ' e rl S => P io' H' σ' e rl S.1
  | ct s hp => exact fun io' H' σ' e rl S => P io' H' σ' e rl S.1
  | exc t fs s hp => exact fun io' H' σ' cls d e rl S => P io' H' σ' cls d e rl S.1
  | stuck => exact P
theorem lamEndD {E : WX} {ic : Nat} {lams : List LamT} {rest : List Stmt} {f : DS} (hr : PSs X rest (tS W (MC W X ic lams) E f)) : PSs X rest (tUp W X ic lams E f) := by
  refine ⟨fun pins s σ H D I ⟨io, hp, as, ⟨rl, S, hn, p, fs, hp1, hp2, hp3, F⟩, P⟩ => ?_⟩
  obtain ⟨od, I1⟩ := I.lock hp3 trivial
  have e2 : Ext W io H io (upd H p (.frz od (.lst (fs.map V.ref)))) := Ext.set _ hp3 trivial
  exact hr.run pins s σ _ D I1 ⟨io, hp, as, Rl.off rl hp2 hp3 trivial, ⟨(std W).mono e2 S, hn, p, od, fs, hp1, upd_same, F.mono e2⟩, (Pss.later P e2).toMC⟩
end
end Dn
namespace Dn
open PySem PySem.Spec PyProof.Rows L2
section
variable {X : Cx} {pins : List (Addr × Obj)} {σ : L2.St} {H : Hp} {s : Shared} {W : Wd}
open LamX
/-- as pe_actZ, the function object known in the heap -/
theorem pe_actY {M : Md W} {kb : Nat} {l : LamT} {Ng : List Str} {qg : Str} {sg : Scope} {g f c' : Addr} {cdg pm ctv : Value} {k : Nat} {a : Str} {pn : List (Addr × Obj)} {xe : Value → Shared → Prop} {E' : WX} {Eg : XK} {t : XK → TE} {p1 p2 : Pos}
    (I : Inv X pins σ H s) (R : LamR M X kb l)
    (hK : X.K = W.K) (tk : Takes ((cxD W X.prog X.w X.mg X.base Ng qg sg g cdg X.A X.stack s H Eg).tr pn xe) E') (hr : Room (k + 1) (X.A.deeper (envOfC qg sg s.heap.objs.size g cdg)))
    (hbody : ∀ (A : Around) (outer : List Env) (s : Shared) (H : Hp) (E : XK), Room k (A.deeper (lamEnv X l.scope s.heap.objs.size f c')) → PE (lamCx X A outer s H E l.scope f c') l.body (t E))
    (hN : Ng[0]? = some a) (hv : Vis sg a) (hd : (a == ("__debug__" : Str)) = false) (hcd : (a == ("__classdict__" : Str)) = false) :
    PE ((cxD W X.prog X.w X.mg X.base Ng qg sg g cdg X.A X.stack s H Eg).tr pn xe) (.Call (.Name a p1) [] [] p2)
      (fun σZ HZ Q => σZ[0]? = some (some (.ref f)) ∧ HZ c' = some (CodeO c' (X.env.qual ++ "<lambda>")) ∧ (HZ f = some (FnL X l.params l.body l.scope f c' pm ctv) ∧ t (WE E' σZ) σ HZ Q)) := by
  refine ⟨fun pinsZ sZ σZ HZ Q IZ h => ?_⟩
  obtain ⟨hs, hc, hf, ht⟩ := h
  refine wpAny_Call_Name_kw (thn ((pe_var (pos := p1) (i := 0) hN hv hd hcd).run pinsZ sZ σZ HZ (fun v H1 => v = .ref f ∧ H1 = HZ) IZ ⟨.ref f, hs, rfl, rfl⟩) fun u s1 ⟨v, H1, I1, r1, q1⟩ => ?_)
  obtain ⟨ev, eH⟩ := q1
  subst ev
  rw [eH] at I1
  obtain rfl : u = Value.ref f := r1
  have of1 : s1.heap.get? f = some (PySem.W.kla_obj "<lambda>" (X.env.qual ++ "<lambda>") l.params l.body l.scope (cloFrom X.env.cells l.scope.names []) pm c' ctv) := (I1.hok f _ hf).1
  refine PySem.W.callWith_F0 ⟨_, _, _, _, of1⟩ ?_
  have un : Un (frs X.stack) [] H HZ s.heap s1.heap := I1.base
  obtain ⟨⟨oc, vs, t0, hoc, hdc, hvc⟩, _, _⟩ := I1.hok c' _ hc
  have rc : codeAny (model X.prog X.w) (X.A.deeper (envOfC qg sg s.heap.objs.size g cdg)) (.call (.ref f) ⟨[], []⟩) (CR (L2.CX X.prog X.w) (envOfC qg sg s.heap.objs.size g cdg :: X.stack) X.prog X.w HZ s1 Q (WE E' σZ)) s1 := by
    refine PySem.W.kla_callFunE hr.depth of1 rfl R.L.co R.L.gen rfl ⟨c', oc, vs, t0, rfl, hoc, hdc, hvc⟩ ?_
    rw [R.hbind]
    refine wpAny_pure (wpAny_newFunctionEnv (fun y hy => (R.L.own y hy).2) (fun y hy => absurd hy (by simp)) (fun h₁ hns hsb => ⟨I1.nolimit.fresh _ hsb, ?_⟩) R.L.kind)
    show codeAny _ _ (.expr l.body (lamEnv X l.scope s1.heap.objs.size f c')) _ _
    have kp : ∀ b o, s1.heap.get? b = some o → h₁.get? b = some o := fun b o e => hsb.extBut b o (Nat.ne_of_lt (Heap.lt_size e)) (Heap.get?_push_of_some _ e)
    have e0 : Env0 X.prog X.w X.K X.mg X.base (X.A.deeper (envOfC qg sg s.heap.objs.size g cdg)) (envOfC qg sg s.heap.objs.size g cdg :: X.stack) s1 HZ := by
      rw [hK]
      exact I1.env0
    have J : Inv (lamCx X (X.A.deeper (envOfC qg sg s.heap.objs.size g cdg)) (envOfC qg sg s.heap.objs.size g cdg :: X.stack) s1 HZ (WE E' σZ) l.scope f c') [] σ HZ { s1 with heap := h₁, toks := s1.toks + ([] : List (Str × Value)).length } :=
      lam_start2 I R.L e0 hr.hd un hns kp
    refine PySem.W.kla_codeExpr (wpAny_mono ((hbody _ _ s1 HZ _ (hr.deeper _)).run [] _ _ HZ Q J ht) (fun v s' hq => ?_) fun e s' hq => hq)
    obtain ⟨w', H', J', rv, q⟩ := hq
    exact ⟨w', H', J'.os, J'.bare, J'.base, J'.hok, rv, q⟩
  refine wpAny_call (codeAny_mono rc fun r s' hq => ?_)
  cases r with
  | error e => exact passAt tk σZ pinsZ HZ s1 e s' I1 hq
  | ok fl =>
    cases fl with
    | ret u => exact I1.after hq
    | next => exact False.elim hq
    | brk => exact False.elim hq
    | cont => exact False.elim hq
end
section
variable {X : Cx}
/-- back in the frame around a block -/
theorem blk_out {pins pinsB : List (Addr × Obj)} {σ σB : L2.St} {H3 H' : Hp} {s3 s' : Shared} {scope : Scope} {ce : Env} {fp : List Addr} (I3 : Inv X pins σ H3 s3) (f3 : ∀ b ∈ fp, FpOk X pins H3 b) (I : Inv (X.blk s3 H3 scope ce fp) pinsB σB H' s') : Inv X pins σ H' s' :=
  I3.call' (ch := fp) I.os I.base I.hok I.bare fun b hb => ⟨(f3 b hb).2.2.2.1, (f3 b hb).2.1, (f3 b hb).2.2.2.2.1, (f3 b hb).2.2.2.2.2⟩
theorem pe_lcI {elt tg iter : Expr} {ifs : List Expr} {scope : Scope} {own : List (Str × Nat)} {pos : Pos} {wi : TI} {g : TG} {tt : L2.St → TT} {te : L2.St → TE} (hc : X.calm = true) (hN : X.N.Nodup) (hi : PI X tg iter wi) (ok : BlkOk X.N X.env.scope scope own)
    (hg : ∀ (s : Shared) (H : Hp) (C : Addr) (cl : List (Str × Addr)) (fp : List Addr), PG (X.blk s H scope (compEnvC scope cl C X.env) fp) tg g)
    (ht : ∀ (pins : List (Addr × Obj)) (σ : L2.St) (s : Shared) (H : Hp) (C : Addr) (cl : List (Str × Addr)) (fp : List Addr), Inv X pins σ H s → (∀ b ∈ fp, FpOk X pins H b) → PTs (X.blk s H scope (compEnvC scope cl C X.env) fp) ifs (tt σ))
    (he : ∀ (pins : List (Addr × Obj)) (σ : L2.St) (s : Shared) (H : Hp) (C : Addr) (cl : List (Str × Addr)) (fp : List Addr), Inv X pins σ H s → (∀ b ∈ fp, FpOk X pins H b) → PE (X.blk s H scope (compEnvC scope cl C X.env) fp) elt (te σ)) (hs : ∀ x, foldedSetIterable iter X.env x = pure x := by intro _; rfl) :
    PE X (.ListComp elt [⟨tg, iter, ifs, 0⟩] scope pos) (fun σ H Q => tLc wi g (tt σ) (te σ) (own.map (·.2)) σ H Q) := by
  refine ⟨fun pins s σ H Q I h => ?_⟩
  rw [eval_ListComp]
  have hfree : ∀ y ∈ scope.names, y.2 = .free → ∃ c, X.env.cells.lookup y.1 = some c := fun y hy e => by
    rcases ok.free y hy e with k | k
    · exact I.ok.has _ (.inl k)
    · exact I.ok.has _ (.inr k)
  refine wpAny_comprehension_free (use := none) rfl hs (closure_ok hfree) ok.kind (fun y hy e => by rw [ok.uniq y hy, e])
    (thn (hi.run pins s σ H _ I h) fun xv s1 hx => thn hx fun itv s2 h2 => ?_)
  obtain ⟨it, fp, tn, J, H2, e, I2, T, st2, f2, q⟩ := h2
  subst e
  refine wpAny_newObj_type (newEnv_comp ?_) (by show 0 ≤ sizeLine; decide)
  generalize hD : s2.heap.objs.size = D
  have hDn : H2 D = none := I2.hok.fresh (Nat.le_of_eq hD)
  obtain ⟨Wi, ⟨m0, w0⟩, turn⟩ := q D hDn
  generalize hs3 : ({ s2 with heap := s2.heap.push { cls := .type "list", data := .seq ([] : List Value).toArray } } : Shared) = s3
  have I3 : Inv X pins σ (upd H2 D (.lst [])) s3 := by
    rw [← hs3]
    refine I2.laid (t' := s2.toks) (fun b o e => Heap.get?_push_of_some _ e) (Nat.le_of_eq hD) ⟨Nat.zero_le _, [], 0, .nil, ?_⟩
    rw [← hD]
    exact Heap.get?_push_size _ rfl
  have h3 : s3.heap = s2.heap.push { cls := .type "list", data := .seq ([] : List Value).toArray } := by rw [← hs3]
  have f3 : ∀ b ∈ fp, FpOk X pins (upd H2 D (.lst [])) b ∧ b < s3.heap.objs.size := fun b hb => by
    obtain ⟨o, e, _⟩ := T.obj _ _ st2 b hb
    have hlt := Heap.lt_size e
    refine ⟨⟨?_, (f2 b hb).2⟩, by rw [h3, Heap.size_push]; exact Nat.lt_succ_of_lt hlt⟩
    rw [upd_ne (by rw [← hD]; exact Nat.ne_of_lt hlt)]
    exact (f2 b hb).1
  have st3 : tn 0 s3.heap := T.keep _ _ _ st2 fun b _ o e => by rw [h3]; exact Heap.get?_push_of_some _ e
  have I4 := block_start I3 ok hN f3
  have pg := hg s3 (upd H2 D (.lst [])) s3.heap.objs.size (cellsFrom (s3.heap.objs.size + 1) scope.names (cloFrom X.env.cells scope.names [])) fp
  have pt := ht pins σ s3 (upd H2 D (.lst [])) s3.heap.objs.size (cellsFrom (s3.heap.objs.size + 1) scope.names (cloFrom X.env.cells scope.names [])) fp I3 fun b hb => (f3 b hb).1
  have pe := he pins σ s3 (upd H2 D (.lst [])) s3.heap.objs.size (cellsFrom (s3.heap.objs.size + 1) scope.names (cloFrom X.env.cells scope.names [])) fp I3 fun b hb => (f3 b hb).1
  show codeAny _ _ (.compStart (.ListComp elt [⟨tg, iter, ifs, 0⟩] scope pos) 0 (.ref it) (.ref D) (compEnvC scope (cellsFrom (s3.heap.objs.size + 1) scope.names (cloFrom X.env.cells scope.names [])) s3.heap.objs.size X.env)) (compPost (model X.prog X.w) X.A X.xe none (EP X pins σ Q) (.ref D) s3.heap.objs.size) { s3 with heap := pushCells (s3.heap.push { cls := .type "dict", data := .dict #[] }) scope.names }
  have nfp : ∀ b ∈ fp, (upd H2 D (.lst [])) b = none := fun b hb => (f3 b hb).1.1
  generalize hce : compEnvC scope (cellsFrom (s3.heap.objs.size + 1) scope.names (cloFrom X.env.cells scope.names [])) s3.heap.objs.size X.env = ce at I4 pg pt pe ⊢
  have cL : ce.locals = s3.heap.objs.size := by subst hce; rfl
  generalize hH3 : upd H2 D (.lst []) = H3 at I3 I4 pg pt pe w0 nfp f3
  generalize hs4 : ({ s3 with heap := pushCells (s3.heap.push { cls := .type "dict", data := .dict #[] }) scope.names } : Shared) = s4 at I4 ⊢
  have st4 : tn 0 s4.heap := T.keep _ _ _ st3 fun b _ o e => by rw [← hs4]; exact pushCells_keeps _ _ _ _ (Heap.get?_push_of_some _ e)
  have stat : ∀ {σ' : L2.St} {H' : Hp} {s' : Shared}, Inv (X.blk s3 H3 scope ce fp) [] σ' H' s' → (∀ b ∈ fp, H' b = none) → ∀ b ∈ fp, FpOk (X.blk s3 H3 scope ce fp) [] H' b := fun {σ' H' s'} I' hn b hb =>
    ⟨hn b hb, (I'.ok.exf b hb).1, I'.ok.exfs b hb, .inl hb, fun x c e => (I'.ok.exf b hb).2 x c e, fun p hp => absurd (show p ∈ ([] : List (Addr × Obj)) ++ [] from hp) (by simp)⟩
  have loop : codeAny (model X.prog X.w) X.A (.compLoop (.ListComp elt [⟨tg, iter, ifs, 0⟩] scope pos) 0 (.ref it) (.ref D) ce) (compPost (model X.prog X.w) X.A X.xe none (EP X pins σ Q) (.ref D) s3.heap.objs.size) s4 := by
    refine compLoop_any (fun n s' => ∃ i H', Inv (X.blk s3 H3 scope ce fp) [] (wipe σ (own.map (·.2))) H' s' ∧ tn i s'.heap ∧ (∀ b ∈ fp, H' b = none) ∧ Wi i n H') ?_ m0 ⟨0, H3, I4, st4, nfp, w0⟩
    rintro n s5 ⟨i, H5, I5, st5, n5, w5⟩
    rcases turn i n H5 w5 with ⟨stop, qq⟩ | ⟨go, Nx, hNx, step⟩
    · have td := T.done (X.blk s3 H3 scope ce fp) rfl rfl rfl hc i [] s5 _ H5 (fun _ _ => False) I5 (stat I5 n5) st5 stop
      refine thnF td fun r s6 ⟨hr, I6⟩ => ?_
      subst hr
      have I7 : Inv X pins σ H5 s6 := blk_out I3 (fun b hb => (f3 b hb).1) I6
      have nC : H5 s3.heap.objs.size = none := by
        have z : H5 ce.locals = none := I6.free
        rw [cL] at z
        exact z
      obtain ⟨m, hn, _⟩ := I6.loc
      have hn : s6.heap.Ns ce.locals m := hn
      rw [cL] at hn
      refine ⟨m, hn, fun h'' sb => ?_⟩
      obtain ⟨f0, f1, f2, f3, f4, f5⟩ := I3.fpOk (Nat.le_refl _) nC
      exact ⟨.ref D, H5, I7.turned (t' := s6.toks) (fun b o hb e => (sb.2 b hb).trans e) f0 f1 f3 f4 f5, rfl, qq⟩
    · have ti := T.item (X.blk s3 H3 scope ce fp) rfl rfl rfl hc i [] s5 _ H5 (fun _ _ => False) I5 (stat I5 n5) st5 go
      refine thnF ti fun r s6 ⟨u, hr, h6⟩ => ?_
      subst hr
      refine thnF h6 fun _ s7 ⟨x, H7, I7, r7, y7, st7, n7⟩ => ?_
      have I7' := I7.pinned (stat I7 n7) (T.obj _ _ st7)
      refine thnF (pg.run _ s7 _ H7 x u _ I7' r7 (step x H7 y7)) fun _ s8 ⟨σ8, H8, I8, hw8, q8⟩ => ?_
      refine thnF (pt.run _ s8 σ8 H8 _ I8 q8) fun b s9 ⟨H9, I9, q9⟩ => ?_
      have fin : ∀ {s' : Shared} {H' : Hp}, Inv (X.blk s3 H3 scope ce fp) ([] ++ pinsAt fp s7.heap) σ8 H' s' → Nx H' → ∃ m, m < n ∧ ∃ i H', Inv (X.blk s3 H3 scope ce fp) [] (wipe σ (own.map (·.2))) H' s' ∧ tn i s'.heap ∧ (∀ b ∈ fp, H' b = none) ∧ Wi i m H' := fun {s' H'} I' nx => by
        obtain ⟨m', hm, w'⟩ := hNx H' nx
        have pin' : ∀ b ∈ fp, ∀ o, s7.heap.get? b = some o → s'.heap.get? b = some o ∧ H' b = none := fun b hb o e =>
          let z := I'.pin (b, o) (List.mem_append_right _ (List.mem_append_right _ (mem_pinsAt hb e)))
          ⟨z.1, z.2.1⟩
        have hl : (wipe σ (own.map (·.2))).length = σ8.length := by rw [← hw8, wipe_length]
        refine ⟨m', hm, i + 1, H', (I'.unpinned (pins := [])).weak hl (fun j v e => ?_), T.keep _ _ _ st7 fun b hb o e => (pin' b hb o e).1, fun b hb => ?_, w'⟩
        · rw [← hw8] at e
          exact (wipe_some e).1
        · obtain ⟨o, e, _⟩ := T.obj _ _ st7 b hb
          exact (pin' b hb o e).2
      cases b with
      | false =>
        simp only [Bool.false_eq_true, if_false] at q9 ⊢
        exact fin I9 q9
      | true =>
        simp only [if_true] at q9 ⊢
        refine thnF (pe.run _ s9 σ8 H9 _ I9 q9) fun z s10 ⟨yv, H10, I10, r10, acc, hD10, hz10, nx⟩ => ?_
        exact L2.app_ok (X := X.blk s3 H3 scope ce fp) I10 hD10 hz10 r10 fun s11 I11 => fin I11 nx
  exact codeAny_compStart_list loop (T.self X.A 0 _ _ _ st4 loop)
end
section
variable {X : Cx} {W : Wd}
open LamX
/-- x(c), c the block's own name that holds a lambda -/
theorem fnCallD {x c : Str} {j k kb ix : Nat} {F : DAct → DAct} {gq : Bool} {l : LamT} {p pc pos : Pos} {pins : List (Addr × Obj)} {σ0 : L2.St} {s3 : Shared} {H3 : Hp} {scope : Scope} {ce : Env} {fp : List Addr} (hL : HasL X.prog X.w X.mg X.base W j x gq F) (hgq : gq = true → X.A.guards = some []) (hK : X.K = W.K)
    (hr : Room k X.A) (hj : j + 1 ≤ k) (hkb : kb + 2 ≤ k) (R : LamR (std W) X kb l) (I3 : Inv X pins σ0 H3 s3) (f3 : ∀ b ∈ fp, FpOk X pins H3 b) (hv : PE (X.blk s3 H3 scope ce fp) (.Name c pc) (tVar ix)) (hg : Gl (X.blk s3 H3 scope ce fp) x)
    (hdb : (x == ("__debug__" : Str)) = false) (hs : starEach [.Name c pc] ce = (false, eval (.Name c pc) ce) :: starEach [] ce) (hpl : (backTo pos (starEach [] ce)) = []) :
    PE (X.blk s3 H3 scope ce fp) (.Call (.Name x p) [.Name c pc] [] pos) (tD W (MB W X ix σ0 l) E0x (dLamC F l.d)) := by
  obtain ⟨g, fd, pg, bg, sg, Ng, a, b, hm, FD, hb, Sg, hNg, hva, hd, hcd, rfl, hG⟩ := hL
  obtain ⟨oc, od, dV, kV, doc, pm0, an, cdv, ct, osl, rfl, lk, hcg, _, _⟩ := FD.ex
  have hk : PySem.W.keepIn X.K (.ref g) = true := by
    rw [hK]
    exact FD.kp
  refine ⟨fun pinsB s σ H Q I h => ?_⟩
  obtain ⟨io, hp, as, rl, ⟨S, hn, hσ, f, hf1, hfr, c', pm, ctv, hf, hco⟩, P0⟩ := h
  refine wpAny_Call_Name_kw (ld_glob I hg hm ?_ hdb)
  refine PySem.W.callWith_K (h₀ := X.base) I.ok.mod.kin hk ?_ (by rfl) (by rfl)
  show wpAny _ _ (spliced (starEach [.Name c pc] ce)) _ _ s
  rw [hs]
  refine Calls.spliced_cons (thn (hv.run pinsB s σ H (fun v H1 => v = .ref f ∧ H1 = H) I ⟨.ref f, hf1, rfl, rfl⟩) fun u s' ⟨v, H1, I1, r1, q1⟩ => ?_)
  obtain ⟨ev, eH⟩ := q1
  subst ev
  subst eH
  obtain rfl : u = Value.ref f := r1
  refine Calls.spliced_nil ⟨I1.kIn, ?_⟩
  have J := blk_out I3 f3 I1
  have P1 := P0
  have kI : W.K.In s'.heap := by
    have := I1.kIn
    rw [← hK]
    exact this
  have e0 : Env0 X.prog X.w W.K X.mg X.base X.A X.stack s' H1 := by
    rw [← hK]
    exact I1.env0
  have rc : codeAny (model X.prog X.w) X.A (.call (.ref g) ⟨[.ref f], []⟩) (CR (L2.CX X.prog X.w) X.stack X.prog X.w H1 s' Q (WE E0x σ)) s' := by
    obtain ⟨k', rfl⟩ : ∃ k', k = k' + 1 := ⟨k - 1, by omega⟩
    refine LamX.run_ofS (K := W.K) (N := Ng) (ps := [a]) (us := [.ref f]) (vs := [.ref f]) lk hcg Sg hr e0 (hb s' [.ref f] kI rfl) (.cons rfl .nil) rfl fun hr' => ?_
    refine ⟨_, hG cdv X.A X.stack s' H1 (WE E0x σ) hgq (hr'.mono (by omega)) (takes_of rfl rfl rfl rfl) f c' (X.env.qual ++ "<lambda>") io H1 (fun g => l.d as g) (fun E1 H' Q' => H' f = some (FnL X l.params l.body l.scope f c' pm ctv) ∧ tD W (std W) (wxE E1) l.d σ0 H' Q') ?_ ?_, ?_⟩
    · intro E' pn xe p1 p2 tk'
      exact pe_actY (k := k' - 1) (t := fun E1 => tD W (std W) (wxE E1) l.d) J R hK tk' (hr'.mono (by omega)) (fun A outer s H E1 hr2 => R.hbody A outer s H E1 f c' (hr2.mono (by omega)) (takes_of rfl rfl rfl rfl)) hNg hva hd hcd
    · intro E1 io' H' hp' Q' e' rl' P'
      exact ⟨e'.cod _ _ hf, io', hp', as, rl', (std W).mono e' S, Pfn.st P'⟩
    · refine ⟨io, hp, List.replicate Ng.length none, rl, ⟨⟨by
        obtain ⟨hl, _⟩ := List.getElem?_eq_some_iff.mp hNg
        simp [L2.start]
        omega, fun i v z => ?_⟩, ⟨?_, ?_⟩, hco, Ext.refl⟩, ?_⟩
      · rw [List.getElem?_replicate] at z
        split at z <;> cases z
      · obtain ⟨hl, _⟩ := List.getElem?_eq_some_iff.mp hNg
        rw [List.getElem?_replicate, if_pos hl]
      · cases Ng with
        | nil => cases hNg
        | cons n r => rfl
      · have P2 : Pst W (RV W) E0x σ Q io H1 ((b (fun g => l.d as g) (List.replicate Ng.length none) hp).fin) := P1
        cases e : b (fun g => l.d as g) (List.replicate Ng.length none) hp with
        | nx s h =>
          rw [e] at P2
          exact fun io' H' σ' e' rl' _ => P2 io' H' .non e' rl' .non
        | rt s h =>
          rw [e] at P2
          exact P2
        | bk s h =>
          rw [e] at P2
          exact P2.elim
        | ct s h =>
          rw [e] at P2
          exact P2.elim
        | exc t fs s h =>
          rw [e] at P2
          exact fun io' H' σ' cls d e' rl' _ rx => P2 io' H' cls d e' rl' rx
        | stuck =>
          rw [e] at P2
          exact P2
  refine wpAny_call (codeAny_mono rc fun r s2 hq => ?_)
  cases r with
  | error e => exact passAt tkE0 σ pinsB H1 s' e s2 I1 hq
  | ok fl =>
    cases fl with
    | ret u => exact I1.after hq
    | next => exact False.elim hq
    | brk => exact False.elim hq
    | cont => exact False.elim hq
/-- [e(c) for c in lambdas if t(c)]: a test and an item for each lambda -/
def dFcL (D : Nat) (s0 : Sl) : List (DT × DE) → Hep → R AV
  | [], h => .ok (.ref D) h
  | (t, e) :: r, h => (t s0 h).noX.bind fun b h1 => match b with
    | false => dFcL D s0 r h1
    | true => (e s0 h1).noX.bind fun y h2 => match addAt D y h2 with
      | none => .stuck
      | some h3 => dFcL D s0 r h3
def dFc (ix : Nat) (l : List (DT × DE)) : DE := fun s h => if ix < s.length then dFcL h.length (s.set ix none) l (h ++ [AO.lst []]) else .stuck
theorem fcD {E : WX} {elt : Expr} {ifs : List Expr} {scope : Scope} {c y : Str} {pc py pos : Pos} {ix ic : Nat} {lams : List LamT} {qs : List (DT × DE)} (hc : X.calm = true) (hN : X.N.Nodup) (hK : X.K = W.K) (hv : PE X (.Name y py) (tVar ic)) (ok : BlkOk X.N X.env.scope scope [(c, ix)])
    (hg : ∀ (s : Shared) (H : Hp) (C : Addr) (cl : List (Str × Addr)) (fp : List Addr), PG (X.blk s H scope (compEnvC scope cl C X.env) fp) (.Name c pc) (gName ix))
    (ho : FcOk W X ix scope elt ifs lams qs) :
    PE X (.ListComp elt [⟨.Name c pc, .Name y py, ifs, 0⟩] scope pos) (tD W (MC W X ic lams) E (dFc ix qs)) := by
  obtain ⟨ls, rfl, rfl, hto⟩ := ho.zip
  have ht := fun q hq pins σ s H C cl fp I f => (hto q hq pins σ s H C cl fp I f).1
  have he := fun q hq pins σ s H C cl fp I f => (hto q hq pins σ s H C cl fp I f).2
  have hi : PI X (.Name c pc) (.Name y py) (fun σ H R => ∃ p xs, σ[ic]? = some (some (.ref p)) ∧ SqL X.K H p xs ∧ R (Itl X.K p) H) := by
    refine ⟨fun pins s σ H R I ⟨p, xs, h1, h2, h3⟩ => ?_⟩
    refine thn (hv.run pins s σ H (fun v H1 => v = .ref p ∧ H1 = H) I ⟨.ref p, h1, rfl, rfl⟩) fun v s1 ⟨x, H1, I1, r1, q1⟩ => ?_
    obtain ⟨rfl, rfl⟩ := q1
    exact iter_val I1 r1 (.inl ⟨p, rfl, ⟨xs, h2⟩, h3⟩)
  refine peI (pe_lcI (own := [(c, ix)]) (tt := fun σ σ2 H Q => ∃ q ∈ ls, tDT W (MB W X ix σ q.1) E0x q.2.1 σ2 H Q) (te := fun σ σ2 H Q => ∃ q ∈ ls, tD W (MB W X ix σ q.1) E0x q.2.2 σ2 H Q) hc hN hi ok hg
    (fun pins σ s H C cl fp I f => ⟨fun pins2 s2 σ2 H2 Q I2 ⟨q, hq, z⟩ => (ht q hq pins σ s H C cl fp I f).run pins2 s2 σ2 H2 Q I2 z⟩)
    (fun pins σ s H C cl fp I f => ⟨fun pins2 s2 σ2 H2 Q I2 ⟨q, hq, z⟩ => (he q hq pins σ s H C cl fp I f).run pins2 s2 σ2 H2 Q I2 z⟩)) fun σ H Q ⟨io, hp, as, rl, ⟨S, hn, p, o, fs, hσ, hH, Fn⟩, P⟩ => ?_
  have P : Pst W (RV W) E σ Q io H (if ix < as.length then dFcL hp.length (as.set ix none) (ls.map (·.2)) (hp ++ [AO.lst []]) else .stuck) := P
  by_cases hix : ix < as.length
  case neg =>
    rw [if_neg hix] at P
    exact P.elim
  rw [if_pos hix] at P
  have hsq : ∀ {io' H'}, Ext W io H io' H' → SqL X.K H' p (fs.map V.ref) := fun e => .inl (.inr ⟨o, e.frz _ _ _ hH⟩)
  refine ⟨p, _, hσ, hsq Ext.refl, fun D hD => ?_⟩
  have eD := Ext.new (W := W) io (.lst []) hD [D]
  have rlD : Rl W (io ++ [D]) (hp ++ [AO.lst []]) (upd H D (.lst [])) := rl.new hD (.lst .nil)
  have atD := rl.atLen D
  have S' : (std W).rel io H (as.set ix none) σ := ⟨by simp [S.1], fun i v z => by
    by_cases hj : i = ix
    · subst hj
      rw [List.getElem?_set_self hix] at z
      cases z
    · rw [List.getElem?_set_ne (Ne.symm hj)] at z
      exact S.2 i v z⟩
  have hlen : fs.length = ls.length := by rw [Fn.1, List.length_map]
  refine ⟨fun i m H2 => i + m = ls.length ∧ ∃ io2 hp2, Ext W (io ++ [D]) (upd H D (.lst [])) io2 H2 ∧ Rl W io2 hp2 H2 ∧ Pst W (RV W) E σ Q io2 H2 (dFcL hp.length (as.set ix none) ((ls.map (·.2)).drop i) hp2), ⟨ls.length, by omega, _, _, Ext.refl, rlD, Pst.later P eD⟩, ?_⟩
  rintro i m H2 ⟨him, io2, hp2, e2, rl2, P2⟩
  have e12 := eD.trans e2
  cases m with
  | zero =>
    rw [List.drop_eq_nil_of_le (by simp; omega)] at P2
    exact .inl ⟨⟨_, hsq e12, by simp; omega⟩, Pst.ok P2 rl2 (.ref (e2.at atD))⟩
  | succ m =>
    have hil : i < ls.length := by omega
    obtain ⟨f, hfi⟩ : ∃ f, fs[i]? = some f := ⟨_, List.getElem?_eq_getElem (by rw [hlen]; exact hil)⟩
    obtain ⟨q, hqi⟩ : ∃ q, ls[i]? = some q := ⟨_, List.getElem?_eq_getElem hil⟩
    have hq : q ∈ ls := List.mem_of_getElem? hqi
    have hqm : (ls.map (·.2))[i]? = some q.2 := by rw [List.getElem?_map, hqi]; rfl
    have hdr : (ls.map (·.2)).drop i = q.2 :: (ls.map (·.2)).drop (i + 1) := by
      obtain ⟨hh, e⟩ := List.getElem?_eq_some_iff.mp hqm
      rw [List.drop_eq_getElem_cons hh, e]
    rw [hdr] at P2
    have hF : LamF X q.1 H f := Fn.2 i q.1 f (by rw [List.getElem?_map, hqi]; rfl) hfi
    have hvi : (fs.map V.ref)[i]? = some (.ref f) := by rw [List.getElem?_map, hfi]; rfl
    refine .inr ⟨⟨_, _, hsq e12, hvi⟩, fun H3 => ∃ io3 hp3, Ext W (io ++ [D]) (upd H D (.lst [])) io3 H3 ∧ Rl W io3 hp3 H3 ∧ Pst W (RV W) E σ Q io3 H3 (dFcL hp.length (as.set ix none) ((ls.map (·.2)).drop (i + 1)) hp3), fun H' z => ⟨m, Nat.lt_succ_self m, by omega, z⟩, fun v H3 hy => ?_⟩
    obtain ⟨eH, hw⟩ := hy
    subst eH
    have hvv := hw _ (hsq e12)
    rw [hvi] at hvv
    cases hvv
    show _ ∧ _
    refine ⟨by simp [wipe], q, hq, ?_⟩
    have hl : ix < σ.length := by rw [← S.1]; exact hix
    have MS : ∀ {io' H'}, Ext W io H io' H' → (MB W X ix σ q.1).rel io' H' (as.set ix none) ((wipe σ ([(c, ix)].map (·.2))).set ix (some (.ref f))) := fun e => by
      refine ⟨(std W).mono e S', List.getElem?_set_self hix, fun j hj => ?_, f, ?_, hF.mono e⟩
      · rw [List.getElem?_set_ne (Ne.symm hj)]
        show (σ.set ix none)[j]? = _
        rw [List.getElem?_set_ne (Ne.symm hj)]
      · exact List.getElem?_set_self (by rw [wipe_length]; exact hl)
    refine (step0 (rh := fun _ _ b c => b = c) (f := q.2.1) rl2 (MS e12) P2).imp fun b H4 q4 => ?_
    obtain ⟨io4, hp4, b', e4, rl4, rb, P4⟩ := q4
    subst rb
    cases b' with
    | false => exact iteF ⟨io4, hp4, e2.trans e4, rl4, P4⟩
    | true =>
      refine iteT ⟨q, hq, (step0 (rh := RV W) (f := q.2.2) rl4 (MS (e12.trans e4)) P4).imp fun y H5 ⟨io5, hp5, a, e5, rl5, ra, P5⟩ => ?_⟩
      unfold addAt at P5
      have atD5 : io5[hp.length]? = some D := e5.at (e4.at (e2.at atD))
      cases z5 : hp5[hp.length]? with
      | none =>
        simp only [z5] at P5
        exact P5.elim
      | some o5 =>
        cases o5 with
        | lst acc =>
          simp only [z5] at P5
          by_cases hl5 : acc.length < SZ
          · simp only [if_pos hl5] at P5
            obtain ⟨avs, ea, rac⟩ := rl5.lst atD5 z5
            refine ⟨avs, ea, by rw [← rac.len]; exact szT hl5, ?_⟩
            have es : Ext W io5 H5 io5 (upd H5 D (.lst (avs ++ [y]))) := Ext.set _ ea trivial
            exact ⟨io5, _, ((e2.trans e4).trans e5).trans es, rl5.set atD5 ea trivial (.lst ((rac.app (.cons ra .nil)).mono es)), Pst.later P5 es⟩
          · simp only [if_neg hl5] at P5
            exact P5.elim
        | _ =>
          simp only [z5] at P5
          exact P5.elim
end
end Dn
namespace Dn
open PySem PySem.Spec PyProof.Rows L2
def listSL : DL := fun as h => match as with
  | [.str x] => if x.length ≤ 1000 then some (.ref h.length, h ++ [AO.lst (x.cps.toList.map fun c => .str ⟨#[c]⟩)]) else none
  | _ => listL as h
theorem vals_get : ∀ (xs : List V) (us : List Value), xs.length = us.length → (∀ (i : Nat) (x : V) (u : Value), xs[i]? = some x → us[i]? = some u → RelV x u) → Vals xs us
  | [], [], _, _ => .nil
  | [], _ :: _, e, _ => by simp at e
  | _ :: _, [], e, _ => by simp at e
  | x :: xs, u :: us, e, h => .cons (h 0 x u rfl rfl) (vals_get xs us (by simpa using e) fun i y w a b => h (i + 1) y w a b)
section
variable {W : Wd} {M : Md W} {E : WX} {X : Cx}
theorem call_listS (hc : X.calm = true) : CallR X (.type "list") (fun xs H Q => ∃ x : Str, xs = [.str x] ∧ x.length ≤ 1000 ∧ ∀ l, H l = none → Q (.ref l) (upd H l (.lst (x.cps.toList.map fun c => V.str ⟨#[c]⟩)))) := by
  intro pins s σ H xs us Q I r h
  obtain ⟨x, rfl, hx, q⟩ := h
  obtain ⟨u, rfl, t, rfl⟩ := vals1 r
  have z : x.cps.size ≤ 1000 := hx
  have z2 : (1000 : Nat) ≤ sizeLine := by decide
  refine PySem.call_list_str (I.ok.hd hc) x t (fun h' tk acc c' kp e hi => ?_) (by omega)
  have v : Vals (x.cps.toList.map fun c => V.str ⟨#[c]⟩) acc.toList := by
    have e1 : acc.toList.length = x.cps.size := by rw [Array.length_toList]; exact hi.1
    refine vals_get _ _ (by rw [e1]; simp) fun i y w a b => ?_
    rw [Array.getElem?_toList] at b
    obtain ⟨c0, t0, hc0, rfl⟩ := hi.2 i w b
    rw [List.getElem?_map, Array.getElem?_toList, hc0] at a
    cases a
    exact ⟨t0, rfl⟩
  refine ⟨.ref s.heap.objs.size, _, I.laid (t' := tk) kp (Nat.le_refl _) (show ObjOk X.prog X.w _ h' _ (.lst (x.cps.toList.map fun c => V.str ⟨#[c]⟩)) from ⟨?_, acc.toList, c', v, ?_⟩), rfl, q _ (I.hok.fresh (Nat.le_refl _))⟩
  · simp
    omega
  · rw [Array.toArray_toList]
    exact e
theorem chars_rvs {io : List Addr} {H : Hp} : ∀ l : List Nat, RVs W io H (l.map fun c => AV.str ⟨#[c]⟩) (l.map fun c => V.str ⟨#[c]⟩)
  | [] => .nil
  | c :: l => .cons (.str _) (chars_rvs l)
theorem cListS (hK : X.K = W.K) (hc : X.calm = true) : CallR X (.type "list") (tl W listSL) := call_imp (call_or (cList (W := W) hK hc) (call_listS hc)) fun xs H Q ⟨io, hp, as, rl, ra, P⟩ => by
  match as, ra, P with
  | [.str x], ra, P =>
    obtain ⟨v, rfl, r⟩ := one_inv ra
    obtain rfl := r.str_inv
    have P : Pop W (RV W) Q io H (if x.length ≤ 1000 then some (AV.ref hp.length, hp ++ [AO.lst (x.cps.toList.map fun c => .str ⟨#[c]⟩)]) else none) := P
    by_cases h : x.length ≤ 1000
    · rw [if_pos h] at P
      exact .inr ⟨x, rfl, h, lay_lst P rl (chars_rvs _)⟩
    · rw [if_neg h] at P
      exact P.elim
  | [], ra, P => exact .inl ⟨io, hp, [], rl, ra, P⟩
  | a :: b :: r, ra, P => exact .inl ⟨io, hp, a :: b :: r, rl, ra, by cases a <;> exact P⟩
  | [a], ra, P =>
    by_cases q : ∃ x, a = .str x
    · obtain ⟨x, rfl⟩ := q
      obtain ⟨v, rfl, r⟩ := one_inv ra
      obtain rfl := r.str_inv
      have P : Pop W (RV W) Q io H (if x.length ≤ 1000 then some (AV.ref hp.length, hp ++ [AO.lst (x.cps.toList.map fun c => .str ⟨#[c]⟩)]) else none) := P
      by_cases h : x.length ≤ 1000
      · rw [if_pos h] at P
        exact .inr ⟨x, rfl, h, lay_lst P rl (chars_rvs _)⟩
      · rw [if_neg h] at P
        exact P.elim
    · refine .inl ⟨io, hp, [a], rl, ra, ?_⟩
      cases a <;> first | exact P | exact absurd ⟨_, rfl⟩ q
end
end Dn
namespace Q
open PySem Dn
def k_LETTERS_expressions : AV := .tup [(.str "c"), (.str "d")]
def k_ONE_SIDED : AV := .tup [(.str "+"), (.str "-")]
def k_TWO_SIDED : AV := .tup [(.str "+"), (.str "-"), (.str "|"), (.str "&")]
def e__law_has_form_0_1 : DE := eStuck
def p__law_has_form_0 : DS := (dSeq (dIfS (dTst (dCB (isiL ct0) (dCons (dVar 0) (dCons (dC (.ty "str")) dNil))))
  (dRet (dOp inAV (dVar 0) (dTup (dCons (dC (.str "c")) (dCons (dC (.str "d")) dNil)))))
  dSkip) (dSeq (dIfS (dOr (dNot (dTst (dCB (isiL ct0) (dCons (dVar 0) (dCons (dC (.ty "tuple")) dNil))))) (dOr (dTst (dOp notInAV (dCB lenL (dCons (dVar 0) dNil)) (dTup (dCons (dC (.int 2)) (dCons (dC (.int 3)) dNil))))) (dNot (dTst (dCB (isiL ct0) (dCons (dOp idxAV (dVar 0) (dC (.int 0))) (dCons (dC (.ty "str")) dNil)))))))
  (dRet (dC (.bl false)))
  dSkip) (dSeq (dIfS (dTst (dOp notInAV (dOp idxAV (dVar 0) (dC (.int 0))) (dSlc (dLst (dCons (dC (.str "+")) (dCons (dC (.str "-")) (dCons (dC (.str "|")) (dCons (dC (.str "&")) dNil))))) dNoP (dPrt (dOp subAV (dOp mulAV (dC (.int 2)) (dCB lenL (dCons (dVar 0) dNil))) (dC (.int 2)))))))
  (dRet (dC (.bl false)))
  dSkip) (dRet (dCB allL (dCons (dLc (dSrc (dSlc (dVar 0) (dPrt (dC (.int 1))) dNoP)) (dgN 1) dYes e__law_has_form_0_1 [1]) dNil))))))
def f__law_has_form_0 : DF := dFun 2 p__law_has_form_0
def e__law_has_form_P_1 (FR : DF) : DE := (dCallC FR 1 0 1 [0] [] (dCons (dVar 1) dNil) dNil)
def p__law_has_form_P (FR : DF) : DS := (dSeq (dIfS (dTst (dCB (isiL ct0) (dCons (dVar 0) (dCons (dC (.ty "str")) dNil))))
  (dRet (dOp inAV (dVar 0) (dTup (dCons (dC (.str "c")) (dCons (dC (.str "d")) dNil)))))
  dSkip) (dSeq (dIfS (dOr (dNot (dTst (dCB (isiL ct0) (dCons (dVar 0) (dCons (dC (.ty "tuple")) dNil))))) (dOr (dTst (dOp notInAV (dCB lenL (dCons (dVar 0) dNil)) (dTup (dCons (dC (.int 2)) (dCons (dC (.int 3)) dNil))))) (dNot (dTst (dCB (isiL ct0) (dCons (dOp idxAV (dVar 0) (dC (.int 0))) (dCons (dC (.ty "str")) dNil)))))))
  (dRet (dC (.bl false)))
  dSkip) (dSeq (dIfS (dTst (dOp notInAV (dOp idxAV (dVar 0) (dC (.int 0))) (dSlc (dLst (dCons (dC (.str "+")) (dCons (dC (.str "-")) (dCons (dC (.str "|")) (dCons (dC (.str "&")) dNil))))) dNoP (dPrt (dOp subAV (dOp mulAV (dC (.int 2)) (dCB lenL (dCons (dVar 0) dNil))) (dC (.int 2)))))))
  (dRet (dC (.bl false)))
  dSkip) (dRet (dCB allL (dCons (dLc (dSrc (dSlc (dVar 0) (dPrt (dC (.int 1))) dNoP)) (dgN 1) dYes (e__law_has_form_P_1 FR) [1]) dNil))))))
def f__law_has_form_P (FR : DF) : DF := dFun 2 (p__law_has_form_P FR)
def f__law_has_form_N : Nat → DF
  | 0 => f__law_has_form_0
  | n + 1 => f__law_has_form_P (f__law_has_form_N n)
abbrev f__law_has_form_1 : DF := f__law_has_form_N 1
abbrev f__law_has_form_2 : DF := f__law_has_form_N 2
abbrev f__law_has_form_3 : DF := f__law_has_form_N 3
abbrev f__law_has_form_4 : DF := f__law_has_form_N 4
abbrev f__law_has_form_5 : DF := f__law_has_form_N 5
abbrev f__law_has_form_6 : DF := f__law_has_form_N 6
abbrev f__law_has_form_7 : DF := f__law_has_form_N 7
abbrev f__law_has_form_8 : DF := f__law_has_form_N 8
abbrev f__law_has_form_9 : DF := f__law_has_form_N 9
abbrev f__law_has_form_10 : DF := f__law_has_form_N 10
abbrev f__law_has_form_11 : DF := f__law_has_form_N 11
abbrev f__law_has_form_12 : DF := f__law_has_form_N 12
def e__law_letters_0_1 : DE := eStuck
def p__law_letters_0 : DS := (dRet (dIf (dTst (dCB (isiL ct0) (dCons (dVar 0) (dCons (dC (.ty "str")) dNil)))) (dC (.int 1)) (dCB sumL (dCons (dLc (dSrc (dSlc (dVar 0) (dPrt (dC (.int 1))) dNoP)) (dgN 1) dYes e__law_letters_0_1 [1]) dNil))))
def f__law_letters_0 : DF := dFun 2 p__law_letters_0
def e__law_letters_P_1 (FR : DF) : DE := (dCallC FR 1 0 1 [0] [] (dCons (dVar 1) dNil) dNil)
def p__law_letters_P (FR : DF) : DS := (dRet (dIf (dTst (dCB (isiL ct0) (dCons (dVar 0) (dCons (dC (.ty "str")) dNil)))) (dC (.int 1)) (dCB sumL (dCons (dLc (dSrc (dSlc (dVar 0) (dPrt (dC (.int 1))) dNoP)) (dgN 1) dYes (e__law_letters_P_1 FR) [1]) dNil))))
def f__law_letters_P (FR : DF) : DF := dFun 2 (p__law_letters_P FR)
def f__law_letters_N : Nat → DF
  | 0 => f__law_letters_0
  | n + 1 => f__law_letters_P (f__law_letters_N n)
abbrev f__law_letters_1 : DF := f__law_letters_N 1
abbrev f__law_letters_2 : DF := f__law_letters_N 2
abbrev f__law_letters_3 : DF := f__law_letters_N 3
abbrev f__law_letters_4 : DF := f__law_letters_N 4
abbrev f__law_letters_5 : DF := f__law_letters_N 5
abbrev f__law_letters_6 : DF := f__law_letters_N 6
abbrev f__law_letters_7 : DF := f__law_letters_N 7
abbrev f__law_letters_8 : DF := f__law_letters_N 8
abbrev f__law_letters_9 : DF := f__law_letters_N 9
abbrev f__law_letters_10 : DF := f__law_letters_N 10
abbrev f__law_letters_11 : DF := f__law_letters_N 11
abbrev f__law_letters_12 : DF := f__law_letters_N 12
def e__law_depth_0_1 : DE := (dCB intL (dCons eStuck dNil))
def p__law_depth_0 : DS := (dRet (dIf (dTst (dCB (isiL ct0) (dCons (dVar 0) (dCons (dC (.ty "str")) dNil)))) (dC (.int 0)) (dOp addAV (dC (.int 1)) (dCB maxLL (dCons (dLc (dSrc (dSlc (dVar 0) (dPrt (dC (.int 1))) dNoP)) (dgN 1) dYes e__law_depth_0_1 [1]) dNil)))))
def f__law_depth_0 : DF := dFun 2 p__law_depth_0
def e__law_depth_P_1 (FR : DF) : DE := (dCB intL (dCons (dCallC FR 1 0 1 [0] [] (dCons (dVar 1) dNil) dNil) dNil))
def p__law_depth_P (FR : DF) : DS := (dRet (dIf (dTst (dCB (isiL ct0) (dCons (dVar 0) (dCons (dC (.ty "str")) dNil)))) (dC (.int 0)) (dOp addAV (dC (.int 1)) (dCB maxLL (dCons (dLc (dSrc (dSlc (dVar 0) (dPrt (dC (.int 1))) dNoP)) (dgN 1) dYes (e__law_depth_P_1 FR) [1]) dNil)))))
def f__law_depth_P (FR : DF) : DF := dFun 2 (p__law_depth_P FR)
def f__law_depth_N : Nat → DF
  | 0 => f__law_depth_0
  | n + 1 => f__law_depth_P (f__law_depth_N n)
abbrev f__law_depth_1 : DF := f__law_depth_N 1
abbrev f__law_depth_2 : DF := f__law_depth_N 2
abbrev f__law_depth_3 : DF := f__law_depth_N 3
abbrev f__law_depth_4 : DF := f__law_depth_N 4
abbrev f__law_depth_5 : DF := f__law_depth_N 5
abbrev f__law_depth_6 : DF := f__law_depth_N 6
abbrev f__law_depth_7 : DF := f__law_depth_N 7
abbrev f__law_depth_8 : DF := f__law_depth_N 8
abbrev f__law_depth_9 : DF := f__law_depth_N 9
abbrev f__law_depth_10 : DF := f__law_depth_N 10
abbrev f__law_depth_11 : DF := f__law_depth_N 11
abbrev f__law_depth_12 : DF := f__law_depth_N 12
def e_has_form_0_1 : DE := eStuck
def p_has_form_0 : DS := (dSeq (dIfS (dTst (dCB (isiL ct0) (dCons (dVar 0) (dCons (dC (.ty "str")) dNil))))
  (dRet (dOp inAV (dVar 0) (dC k_LETTERS_expressions)))
  dSkip) (dSeq (dIfS (dOr (dNot (dTst (dCB (isiL ct0) (dCons (dVar 0) (dCons (dC (.ty "tuple")) dNil))))) (dOr (dTst (dOp notInAV (dCB lenL (dCons (dVar 0) dNil)) (dTup (dCons (dC (.int 2)) (dCons (dC (.int 3)) dNil))))) (dOr (dNot (dTst (dCB (isiL ct0) (dCons (dOp idxAV (dVar 0) (dC (.int 0))) (dCons (dC (.ty "str")) dNil))))) (dTst (dOp eqAV (dVar 1) (dC (.int 0)))))))
  (dRet (dC (.bl false)))
  dSkip) (dSeq (dStarS 1 (dVar 0) (dgC (dgN 2) (dgC (dgN 3) dg0))) (dSeq (dIfS (dTst (dOp notInAV (dVar 2) (dIf (dTst (dOp eqAV (dCB lenL (dCons (dVar 3) dNil)) (dC (.int 1)))) (dC k_ONE_SIDED) (dC k_TWO_SIDED))))
  (dRet (dC (.bl false)))
  dSkip) (dRet (dCB allL (dCons (dLc (dSrc (dVar 3)) (dgN 4) dYes e_has_form_0_1 [4]) dNil)))))))
def f_has_form_0 : DF := dFun 5 p_has_form_0
def e_has_form_P_1 (FR : DF) : DE := (dCallC FR 2 0 2 [0, 1] [] (dCons (dVar 4) (dCons (dOp subAV (dVar 1) (dC (.int 1))) dNil)) dNil)
def p_has_form_P (FR : DF) : DS := (dSeq (dIfS (dTst (dCB (isiL ct0) (dCons (dVar 0) (dCons (dC (.ty "str")) dNil))))
  (dRet (dOp inAV (dVar 0) (dC k_LETTERS_expressions)))
  dSkip) (dSeq (dIfS (dOr (dNot (dTst (dCB (isiL ct0) (dCons (dVar 0) (dCons (dC (.ty "tuple")) dNil))))) (dOr (dTst (dOp notInAV (dCB lenL (dCons (dVar 0) dNil)) (dTup (dCons (dC (.int 2)) (dCons (dC (.int 3)) dNil))))) (dOr (dNot (dTst (dCB (isiL ct0) (dCons (dOp idxAV (dVar 0) (dC (.int 0))) (dCons (dC (.ty "str")) dNil))))) (dTst (dOp eqAV (dVar 1) (dC (.int 0)))))))
  (dRet (dC (.bl false)))
  dSkip) (dSeq (dStarS 1 (dVar 0) (dgC (dgN 2) (dgC (dgN 3) dg0))) (dSeq (dIfS (dTst (dOp notInAV (dVar 2) (dIf (dTst (dOp eqAV (dCB lenL (dCons (dVar 3) dNil)) (dC (.int 1)))) (dC k_ONE_SIDED) (dC k_TWO_SIDED))))
  (dRet (dC (.bl false)))
  dSkip) (dRet (dCB allL (dCons (dLc (dSrc (dVar 3)) (dgN 4) dYes (e_has_form_P_1 FR) [4]) dNil)))))))
def f_has_form_P (FR : DF) : DF := dFun 5 (p_has_form_P FR)
def f_has_form_N : Nat → DF
  | 0 => f_has_form_0
  | n + 1 => f_has_form_P (f_has_form_N n)
abbrev f_has_form_1 : DF := f_has_form_N 1
abbrev f_has_form_2 : DF := f_has_form_N 2
abbrev f_has_form_3 : DF := f_has_form_N 3
abbrev f_has_form_4 : DF := f_has_form_N 4
abbrev f_has_form_5 : DF := f_has_form_N 5
abbrev f_has_form_6 : DF := f_has_form_N 6
abbrev f_has_form_7 : DF := f_has_form_N 7
abbrev f_has_form_8 : DF := f_has_form_N 8
def e_letters_of_0_1 : DE := eStuck
def p_letters_of_0 : DS := (dSeq (dIfS (dTst (dCB (isiL ct0) (dCons (dVar 0) (dCons (dC (.ty "str")) dNil))))
  (dRet (dC (.int 1)))
  dSkip) (dRet (dCB sumL (dCons (dLc (dSrc (dSlc (dVar 0) (dPrt (dC (.int 1))) dNoP)) (dgN 1) dYes e_letters_of_0_1 [1]) dNil))))
def f_letters_of_0 : DF := dFun 2 p_letters_of_0
def e_letters_of_P_1 (FR : DF) : DE := (dCallC FR 1 0 1 [0] [] (dCons (dVar 1) dNil) dNil)
def p_letters_of_P (FR : DF) : DS := (dSeq (dIfS (dTst (dCB (isiL ct0) (dCons (dVar 0) (dCons (dC (.ty "str")) dNil))))
  (dRet (dC (.int 1)))
  dSkip) (dRet (dCB sumL (dCons (dLc (dSrc (dSlc (dVar 0) (dPrt (dC (.int 1))) dNoP)) (dgN 1) dYes (e_letters_of_P_1 FR) [1]) dNil))))
def f_letters_of_P (FR : DF) : DF := dFun 2 (p_letters_of_P FR)
def f_letters_of_N : Nat → DF
  | 0 => f_letters_of_0
  | n + 1 => f_letters_of_P (f_letters_of_N n)
abbrev f_letters_of_1 : DF := f_letters_of_N 1
abbrev f_letters_of_2 : DF := f_letters_of_N 2
abbrev f_letters_of_3 : DF := f_letters_of_N 3
abbrev f_letters_of_4 : DF := f_letters_of_N 4
abbrev f_letters_of_5 : DF := f_letters_of_N 5
abbrev f_letters_of_6 : DF := f_letters_of_N 6
abbrev f_letters_of_7 : DF := f_letters_of_N 7
abbrev f_letters_of_8 : DF := f_letters_of_N 8
def p_is_expression : DS := (dRet (dAndV (dCallC f_has_form_8 2 0 2 [0, 1] [] (dCons (dVar 0) (dCons (dC (.int 8)) dNil)) dNil) (dOp leAV (dCallC f_letters_of_8 1 0 1 [0] [] (dCons (dVar 0) dNil) dNil) (dC (.int 10)))))
def f_is_expression : DF := dFun 1 p_is_expression
def b__law_error_1 (act : DAct) : DS := (dDrop (dAct act))
def b__law_error_2 (act : DAct) : DS := (dRet (dAndV (dIsO xt0 1 4) (dIsX xt0 1 "ValueError")))
def p__law_error (act : DAct) : DS := (dSeq (dTry xt0 (b__law_error_1 act) ((3, some 1, (b__law_error_2 act)) :: [])) (dRet (dC (.bl false))))
def f__law_error : DAct → DAct := dHlp 2 p__law_error
def e_smallest_1 : DE := eStuck
def b_smallest_1 : DS := (dIfS (dTst (dOp inAV (dVar 2) (dVar 5)))
  (dRet (dOp idxAV (dVar 5) (dVar 2)))
  dSkip)
def p_smallest : DS := (dSeq (dIfS (dOr (dNot (dTst (dCallC f_is_expression 1 0 1 [0] [] (dCons (dVar 0) dNil) dNil))) (dTst (dOp gtAV (dCallC f_letters_of_8 1 0 1 [0] [] (dCons (dVar 0) dNil) dNil) (dC (.int 4)))))
  (dRaise0 3)
  dSkip) (dSeq (dSet 1 (dCallC f_letters_of_8 1 0 1 [0] [] (dCons (dVar 0) dNil) dNil)) (dSeq (dSet 2 (dCB tupleL (dCons (dLc (dSrc eStuck) (dgT (dgC (dgN 3) (dgC (dgN 4) dg0))) dYes e_smallest_1 [3, 4]) dNil))) (dSeq (dFor (dSrc eStuck) (dgN 5) b_smallest_1) (dRet (dVar 0))))))
def f_smallest : DF := dFun 6 p_smallest
def p_need_expression : DS := (dIfS (dNot (dTst (dCallC f_is_expression 1 0 1 [0] [] (dCons (dVar 0) dNil) dNil)))
  (dRaise0 3)
  dSkip)
def f_need_expression : DF := dFun 1 p_need_expression
def p_Table_is_plain : DS := (dRet (dC (.bl true)))
def f_Table_is_plain : DF := dFun 1 p_Table_is_plain
def p_Counter_is_plain : DS := (dRet (dC (.bl false)))
def f_Counter_is_plain : DF := dFun 1 p_Counter_is_plain
def e_Table_ordered_1 : DE := (dVar 3)
def e_Table_ordered_2 : DE := (dVar 2)
def e_Table_ordered_3 : DE := (dCB intL (dCons (dVar 3) dNil))
def e_Table_ordered_4 : DE := (dOp idxAV (dVar 1) (dVar 3))
def p_Table_ordered : DS := (dSeq (dSet 1 (dLkE (dFld 1 (dVar 0)) (dDc (dDk 2 (dFld 1 (dVar 0))) (dgT (dgC (dgN 2) (dgC (dgN 3) dg0))) dYes e_Table_ordered_1 e_Table_ordered_2 [2, 3]))) (dRet (dLc (dSrc (dCB sortedL (dCons (dLkE (dVar 1) (dLc (dDk 0 (dVar 1)) (dgN 3) dYes e_Table_ordered_3 [3])) dNil))) (dgN 3) dYes e_Table_ordered_4 [3])))
def f_Table_ordered : DF := dFun 4 p_Table_ordered
def e_Table_pairs_1 : DE := (dTup (dCons (dVar 1) (dCons (dOp idxAV (dFld 0 (dVar 0)) (dVar 1)) dNil)))
def p_Table_pairs : DS := (dRet (dLc (dSrc (dAlt (dMeth 0 f_Table_ordered 0 0 1 [0] [] (dVar 0) dNil dNil) (dMeth 2 f_Table_ordered 0 0 1 [0] [] (dVar 0) dNil dNil))) (dgN 1) dYes e_Table_pairs_1 [1]))
def f_Table_pairs : DF := dFun 2 p_Table_pairs
def e_Counter_pairs_1 : DE := (dTup (dCons (dVar 1) (dCons (dOp idxAV (dFld 0 (dVar 0)) (dVar 1)) dNil)))
def p_Counter_pairs : DS := (dRet (dLc (dSrc (dMeth 2 f_Table_ordered 0 0 1 [0] [] (dVar 0) dNil dNil)) (dgN 1) dYes e_Counter_pairs_1 [1]))
def f_Counter_pairs : DF := dFun 2 p_Counter_pairs
def e_is_word_1 : DE := (dOp inAV (dVar 1) (dC (.str "abcdefghijklmnopqrstuvwxyz")))
def p_is_word : DS := (dRet (dAndV (dCB (isiL ct0) (dCons (dVar 0) (dCons (dC (.ty "str")) dNil))) (dAndV (dChn leAV leAV (dC (.int 1)) (dCB lenL (dCons (dVar 0) dNil)) (dC (.int 6))) (dCB allL (dCons (dLc (dSrc (dVar 0)) (dgN 1) dYes e_is_word_1 [1]) dNil)))))
def f_is_word : DF := dFun 2 p_is_word
def p_is_integer : DS := (dRet (dAndV (dCB (isiL ct0) (dCons (dVar 0) (dCons (dC (.ty "int")) dNil))) (dNotV (dCB (isiL ct0) (dCons (dVar 0) (dCons (dC (.ty "bool")) dNil))))))
def f_is_integer : DF := dFun 1 p_is_integer
def p_is_short : DS := (dRet (dAndV (dCallC f_is_integer 1 0 1 [0] [] (dCons (dVar 0) dNil) dNil) (dOp ltAV (dCB absL (dCons (dVar 0) dNil)) (dOp powAV (dC (.int 10)) (dC (.int 12))))))
def f_is_short : DF := dFun 1 p_is_short
def p_is_item : DS := (dRet (dOrV (dCallC f_is_word 1 0 1 [0] [] (dCons (dVar 0) dNil) dNil) (dCallC f_is_short 1 0 1 [0] [] (dCons (dVar 0) dNil) dNil)))
def f_is_item : DF := dFun 1 p_is_item
def e_are_pairs_1 : DE := (dAndV (dCB (isiL ct0) (dCons (dVar 1) (dCons (dC (.ty "tuple")) dNil))) (dAndV (dOp eqAV (dCB lenL (dCons (dVar 1) dNil)) (dC (.int 2))) (dAndV (dCallC f_is_item 1 0 1 [0] [] (dCons (dOp idxAV (dVar 1) (dC (.int 0))) dNil) dNil) (dCallC f_is_item 1 0 1 [0] [] (dCons (dOp idxAV (dVar 1) (dC (.int 1))) dNil) dNil))))
def p_are_pairs : DS := (dSeq (dIfS (dNot (dTst (dIsLT ct0 "list" "tuple" (dVar 0))))
  (dRet (dC (.bl false)))
  dSkip) (dRet (dCB allL (dCons (dLc (dSrc (dVar 0)) (dgN 1) dYes e_are_pairs_1 [1]) dNil))))
def f_are_pairs : DF := dFun 2 p_are_pairs
def p_pairs_of : DS := (dSeq (dIfS (dTst (dCB (isiL ct0) (dCons (dVar 0) (dCons (dC (.cls 0)) dNil))))
  (dRet (dAlt (dMeth 0 f_Table_pairs 0 0 1 [0] [] (dVar 0) dNil dNil) (dMeth 2 f_Counter_pairs 0 0 1 [0] [] (dVar 0) dNil dNil)))
  dSkip) (dSeq (dIfS (dTst (dCB (isiL ct0) (dCons (dVar 0) (dCons (dC (.ty "dict")) dNil))))
  (dRet (dLi (dVar 0)))
  dSkip) (dSeq (dIfS (dNot (dTst (dCallC f_are_pairs 1 0 1 [0] [] (dCons (dVar 0) dNil) dNil)))
  dStuck
  dSkip) (dRet (dCB listL (dCons (dVar 0) dNil))))))
def f_pairs_of : DF := dFun 1 p_pairs_of
def e_Table_xinit_1 : DE := (dVar 3)
def e_Table_xinit_2 : DE := (dVar 4)
def e_Table_xinit_3 : DE := (dVar 3)
def e_Table_xinit_4 : DE := (dVar 5)
def p_Table_xinit : DS := (dSeq (dSet 2 (dIf (dTst (dAlt (dMeth 0 f_Table_is_plain 0 0 1 [0] [] (dVar 0) dNil dNil) (dMeth 2 f_Counter_is_plain 0 0 1 [0] [] (dVar 0) dNil dNil))) (dCallC f_pairs_of 1 0 1 [0] [] (dCons (dVar 1) dNil) dNil) (dCB listL (dCons (dVar 1) dNil)))) (dSeq (dSetF 0 (dVar 0) (dDc (dSrc (dVar 2)) (dgT (dgC (dgN 3) (dgC (dgN 4) dg0))) dYes e_Table_xinit_1 e_Table_xinit_2 [3, 4])) (dSeq (dSetF 1 (dVar 0) (dLkE (dFld 0 (dVar 0)) (dDc (dDk 3 (dFld 0 (dVar 0))) (dgT (dgC (dgN 5) (dgC (dgN 3) dg0))) dYes e_Table_xinit_3 e_Table_xinit_4 [5, 3]))) (dSeq (dSetF 2 (dVar 0) (dC (.int 0))) (dSetF 3 (dVar 0) (dCB lenL (dCons (dFld 0 (dVar 0)) dNil)))))))
def f_Table_xinit : DF := dFun 6 p_Table_xinit
def p_is_pair : DS := (dRet (dAndV (dCB (isiL ct0) (dCons (dVar 0) (dCons (dC (.ty "tuple")) dNil))) (dAndV (dOp eqAV (dCB lenL (dCons (dVar 0) dNil)) (dC (.int 2))) (dAndV (dCallC f_is_item 1 0 1 [0] [] (dCons (dOp idxAV (dVar 0) (dC (.int 0))) dNil) dNil) (dCallC f_is_integer 1 0 1 [0] [] (dCons (dOp idxAV (dVar 0) (dC (.int 1))) dNil) dNil)))))
def f_is_pair : DF := dFun 1 p_is_pair
def e_count_pairs_1 : DE := (dCallC f_is_pair 1 0 1 [0] [] (dCons (dVar 2) dNil) dNil)
def p_count_pairs : DS := (dSeq (dSet 1 (dIf (dTst (dCB (isiL ct0) (dCons (dVar 0) (dCons (dC (.cls 0)) dNil)))) (dMeth 2 f_Counter_pairs 0 0 1 [0] [] (dVar 0) dNil dNil) (dVar 0))) (dSeq (dIfS (dOr (dNot (dTst (dIsLT ct0 "list" "tuple" (dVar 1)))) (dNot (dTst (dCB allL (dCons (dLc (dSrc (dVar 1)) (dgN 2) dYes e_count_pairs_1 [2]) dNil)))))
  dStuck
  dSkip) (dRet (dCB listL (dCons (dVar 1) dNil)))))
def f_count_pairs : DF := dFun 3 p_count_pairs
def p_Counter_xinit : DS := (dDrop (dCallC f_Table_xinit 2 0 2 [0, 1] [(.tup [])] (dCons (dVar 0) (dCons (dCallC f_count_pairs 1 0 1 [0] [] (dCons (dVar 1) dNil) dNil) dNil)) dNil))
def f_Counter_xinit : DF := dFun 2 p_Counter_xinit
def p_Counter_copy : DS := (dRet (dMake 2 f_Counter_xinit 1 0 2 [0, 1] [(.tup [])] (dCons (dMeth 2 f_Counter_pairs 0 0 1 [0] [] (dVar 0) dNil dNil) dNil) dNil))
def f_Counter_copy : DF := dFun 1 p_Counter_copy
def p_value : DS := (dSeq (dDrop (dCallC f_need_expression 1 0 1 [0] [] (dCons (dVar 0) dNil) dNil)) (dRet (dMeth 2 f_Counter_copy 0 0 1 [0] [] eStuck dNil dNil)))
def f_value : DF := dFun 3 p_value
def b_unequal_1 : DS := (dIfS (dTst (dOp neAV eStuck eStuck))
  (dRet (dTup (dCons (dVar 4) (dCons (dVar 5) dNil))))
  dSkip)
def b_unequal_2 : DS := (dFor (dSrc eStuck) (dgT (dgC (dgN 4) (dgC (dgN 5) dg0))) b_unequal_1)
def p_unequal : DS := (dSeq (dDrop (dCallC f_need_expression 1 0 1 [0] [] (dCons (dVar 0) dNil) dNil)) (dSeq (dDrop (dCallC f_need_expression 1 0 1 [0] [] (dCons (dVar 1) dNil) dNil)) (dSeq (dFor (dRg1 (dCons (dOp addAV eStuck (dC (.int 1))) dNil)) (dgN 3) b_unequal_2) (dRet (dC .non)))))
def f_unequal : DF := dFun 6 p_unequal
def b_disordered_1 : DS := (dSeq (dSet 7 eStuck) (dIfS (dTst (dOp neAV eStuck eStuck))
  (dRet (dVar 7))
  dSkip))
def b_disordered_2 : DS := (dFor (dSrc (dTup (dCons (dC (.bl false)) (dCons (dC (.bl true)) dNil)))) (dgN 6) b_disordered_1)
def b_disordered_3 : DS := (dFor (dSrc (dVar 3)) (dgN 5) b_disordered_2)
def p_disordered : DS := (dSeq (dIfS (dTst (dOp notNonAV (dCallC f_unequal 2 1 3 [0, 1, 2] [] (dCons (dVar 0) (dCons (dVar 1) dNil)) (dCons (dVar 2) dNil)) (dC .non)))
  dStuck
  dSkip) (dSeq (dSet 3 eStuck) (dSeq (dFor (dSrc (dVar 3)) (dgN 4) b_disordered_3) (dRet (dC .non)))))
def f_disordered : DF := dFun 8 p_disordered
def e__law_is_right_1 : DE := (dCallC f_value 3 0 3 [0, 1, 2] [] (dCons (dVar 0) (dCons (dMake 2 f_Counter_xinit 0 0 2 [0, 1] [(.tup [])] dNil dNil) (dCons (dMake 2 f_Counter_xinit 0 0 2 [0, 1] [(.tup [])] dNil dNil) dNil))) dNil)
def e__law_is_right_2 : DE := (dCallC f_unequal 2 0 3 [0, 1, 2] [.non] (dCons (dVar 0) (dCons (dC .non) dNil)) dNil)
def e__law_is_right_3 : DE := (dCallC f_unequal 2 0 3 [0, 1, 2] [.non] (dCons (dC (.str "c")) (dCons (dVar 0) dNil)) dNil)
def e__law_is_right_4 : DE := (dCallC f_disordered 2 0 3 [0, 1, 2] [.non] (dCons (dC (.str "d")) (dCons (dVar 0) dNil)) dNil)
def e__law_is_right_5 : DE := (dCallC f_smallest 1 0 1 [0] [] (dCons (dVar 0) dNil) dNil)
def p__law_is_right : DS := (dSeq (dSet 1 (dAndV (dCallC f__law_has_form_12 1 0 1 [0] [] (dCons (dVar 0) dNil) dNil) (dAndV (dOp leAV (dCallC f__law_letters_12 1 0 1 [0] [] (dCons (dVar 0) dNil) dNil) (dC (.int 10))) (dOp leAV (dCallC f__law_depth_12 1 0 1 [0] [] (dCons (dVar 0) dNil) dNil) (dC (.int 8)))))) (dSeq (dIfS (dTst (dOp neAV (dCB reprL (dCons (dCallC f_is_expression 1 0 1 [0] [] (dCons (dVar 0) dNil) dNil) dNil)) (dCB reprL (dCons (dVar 1) dNil))))
  (dRet (dC (.bl false)))
  dSkip) (dSeq (dIfS (dTst (dVar 1))
  (dRet (dOrV (dOp leAV (dCallC f__law_letters_12 1 0 1 [0] [] (dCons (dVar 0) dNil) dNil) (dC (.int 4))) (dLamC f__law_error (dCallC f_smallest 1 0 1 [0] [] (dCons (dVar 0) dNil) dNil))))
  dSkip) (dLams 2
  (dRet (dCB allL (dCons (dFc 3 ((dYes, (dLamC f__law_error e__law_is_right_1)) :: ((dYes, (dLamC f__law_error e__law_is_right_2)) :: ((dYes, (dLamC f__law_error e__law_is_right_3)) :: ((dYes, (dLamC f__law_error e__law_is_right_4)) :: ((dYes, (dLamC f__law_error e__law_is_right_5)) :: [])))))) dNil)))))))
def f__law_is_right : DF := dFun 4 p__law_is_right
def p__law_source : DS := (dSeq (dSet 2 (dIf (dTst (dOp ltAV (dVar 1) (dCB lenL (dCons (dVar 0) dNil)))) (dOp idxAV (dVar 0) (dVar 1)) (dC (.int 0)))) (dSeq (dSet 3 (dIf (dTst (dOp geAV (dCB absL (dCons (dVar 2) dNil)) (dOp powAV (dC (.int 10)) (dC (.int 18))))) (dCB absL (dCons (dVar 2) dNil)) (dC (.int 0)))) (dRet (dLst (dCons (dVar 3) (dCons (dOp addAV (dOp addAV (dOp addAV (dOp modAV (dVar 2) (dC (.int 1000000000000000003))) (dOp mulAV (dOp mulAV (dC (.int 9161)) (dVar 1)) (dVar 1))) (dOp mulAV (dC (.int 71)) (dVar 1))) (dC (.int 23))) (dCons (dC (.int 0)) dNil)))))))
def f__law_source : DF := dFun 4 p__law_source
def p__law_draw : DS := (dSeq (dIfS (dTst (dOp gtAV (dOp idxAV (dVar 0) (dC (.int 0))) (dC (.int 0))))
  (dSeq (dSet 2 (dOp modAV (dOp idxAV (dVar 0) (dC (.int 0))) (dVar 1))) (dSeq (dPut (dVar 0) (dC (.int 0)) (dOp fdivAV (dOp idxAV (dVar 0) (dC (.int 0))) (dVar 1))) (dRet (dVar 2))))
  dSkip) (dSeq (dSet 3 (dTup (dCons (dC (.int 2147483647)) (dCons (dC (.int 2147483629)) (dCons (dC (.int 2147483587)) (dCons (dC (.int 2147483579)) (dCons (dC (.int 2147483563)) (dCons (dC (.int 2147483549)) (dCons (dC (.int 2147483543)) (dCons (dC (.int 2147483497)) dNil)))))))))) (dSeq (dPut (dVar 0) (dC (.int 2)) (dOp addAV (dOp idxAV (dVar 0) (dC (.int 2))) (dC (.int 1)))) (dSeq (dSet 4 (dOp idxAV (dVar 0) (dC (.int 2)))) (dSeq (dSet 5 (dOp addAV (dOp addAV (dOp mulAV (dOp idxAV (dVar 0) (dC (.int 1))) (dOp addAV (dOp mulAV (dC (.int 2)) (dVar 4)) (dC (.int 11)))) (dOp mulAV (dOp mulAV (dC (.int 5857)) (dVar 4)) (dVar 4))) (dC (.int 79)))) (dSeq (dSet 6 (dOp modAV (dOp powAV (dVar 5) (dC (.int 3))) (dOp idxAV (dVar 3) (dOp modAV (dVar 4) (dC (.int 8)))))) (dRet (dOp modAV (dOp fdivAV (dOp modAV (dOp mulAV (dVar 6) (dOp addAV (dOp fdivAV (dVar 6) (dC (.int 4111))) (dC (.int 43)))) (dOp idxAV (dVar 3) (dOp modAV (dOp addAV (dVar 4) (dC (.int 3))) (dC (.int 8))))) (dC (.int 16))) (dVar 1)))))))))
def f__law_draw : DF := dFun 7 p__law_draw
def p__law_choice : DS := (dRet (dOp idxAV (dVar 1) (dCallC f__law_draw 2 0 2 [0, 1] [] (dCons (dVar 0) (dCons (dCB lenL (dCons (dVar 1) dNil)) dNil)) dNil)))
def f__law_choice : DF := dFun 2 p__law_choice
def p__law_expression_0 : DS := (dSeq (dIfS (dOr (dTst (dOp eqAV (dVar 2) (dC (.int 0)))) (dAnd (dTst (dOp eqAV (dVar 1) (dC (.int 1)))) (dTst (dOp gtAV (dCallC f__law_draw 2 0 2 [0, 1] [] (dCons (dVar 0) (dCons (dC (.int 4)) dNil)) dNil) (dC (.int 0))))))
  (dRet (dCallC f__law_choice 2 0 2 [0, 1] [] (dCons (dVar 0) (dCons (dLst (dCons (dC (.str "c")) (dCons (dC (.str "d")) dNil))) dNil)) dNil))
  dSkip) (dSeq (dIfS (dOr (dTst (dOp eqAV (dVar 1) (dC (.int 1)))) (dTst (dOp eqAV (dCallC f__law_draw 2 0 2 [0, 1] [] (dCons (dVar 0) (dCons (dC (.int 5)) dNil)) dNil) (dC (.int 0)))))
  (dRet (dTup (dCons (dCallC f__law_choice 2 0 2 [0, 1] [] (dCons (dVar 0) (dCons (dLst (dCons (dC (.str "+")) (dCons (dC (.str "-")) dNil))) dNil)) dNil) (dCons eStuck dNil))))
  dSkip) (dSeq (dSet 3 (dOp addAV (dC (.int 1)) (dCallC f__law_draw 2 0 2 [0, 1] [] (dCons (dVar 0) (dCons (dOp subAV (dVar 1) (dC (.int 1))) dNil)) dNil))) (dSeq (dSet 4 eStuck) (dRet (dTup (dCons (dCallC f__law_choice 2 0 2 [0, 1] [] (dCons (dVar 0) (dCons (dLst (dCons (dC (.str "+")) (dCons (dC (.str "-")) (dCons (dC (.str "|")) (dCons (dC (.str "&")) dNil))))) dNil)) dNil) (dCons (dVar 4) (dCons eStuck dNil)))))))))
def f__law_expression_0 : DF := dFun 5 p__law_expression_0
def p__law_expression_P (FR : DF) : DS := (dSeq (dIfS (dOr (dTst (dOp eqAV (dVar 2) (dC (.int 0)))) (dAnd (dTst (dOp eqAV (dVar 1) (dC (.int 1)))) (dTst (dOp gtAV (dCallC f__law_draw 2 0 2 [0, 1] [] (dCons (dVar 0) (dCons (dC (.int 4)) dNil)) dNil) (dC (.int 0))))))
  (dRet (dCallC f__law_choice 2 0 2 [0, 1] [] (dCons (dVar 0) (dCons (dLst (dCons (dC (.str "c")) (dCons (dC (.str "d")) dNil))) dNil)) dNil))
  dSkip) (dSeq (dIfS (dOr (dTst (dOp eqAV (dVar 1) (dC (.int 1)))) (dTst (dOp eqAV (dCallC f__law_draw 2 0 2 [0, 1] [] (dCons (dVar 0) (dCons (dC (.int 5)) dNil)) dNil) (dC (.int 0)))))
  (dRet (dTup (dCons (dCallC f__law_choice 2 0 2 [0, 1] [] (dCons (dVar 0) (dCons (dLst (dCons (dC (.str "+")) (dCons (dC (.str "-")) dNil))) dNil)) dNil) (dCons (dCallC FR 3 0 3 [0, 1, 2] [] (dCons (dVar 0) (dCons (dVar 1) (dCons (dOp subAV (dVar 2) (dC (.int 1))) dNil))) dNil) dNil))))
  dSkip) (dSeq (dSet 3 (dOp addAV (dC (.int 1)) (dCallC f__law_draw 2 0 2 [0, 1] [] (dCons (dVar 0) (dCons (dOp subAV (dVar 1) (dC (.int 1))) dNil)) dNil))) (dSeq (dSet 4 (dCallC FR 3 0 3 [0, 1, 2] [] (dCons (dVar 0) (dCons (dVar 3) (dCons (dOp subAV (dVar 2) (dC (.int 1))) dNil))) dNil)) (dRet (dTup (dCons (dCallC f__law_choice 2 0 2 [0, 1] [] (dCons (dVar 0) (dCons (dLst (dCons (dC (.str "+")) (dCons (dC (.str "-")) (dCons (dC (.str "|")) (dCons (dC (.str "&")) dNil))))) dNil)) dNil) (dCons (dVar 4) (dCons (dCallC FR 3 0 3 [0, 1, 2] [] (dCons (dVar 0) (dCons (dOp subAV (dVar 1) (dVar 3)) (dCons (dOp subAV (dVar 2) (dC (.int 1))) dNil))) dNil) dNil)))))))))
def f__law_expression_P (FR : DF) : DF := dFun 5 (p__law_expression_P FR)
def f__law_expression_N : Nat → DF
  | 0 => f__law_expression_0
  | n + 1 => f__law_expression_P (f__law_expression_N n)
abbrev f__law_expression_1 : DF := f__law_expression_N 1
abbrev f__law_expression_2 : DF := f__law_expression_N 2
abbrev f__law_expression_3 : DF := f__law_expression_N 3
abbrev f__law_expression_4 : DF := f__law_expression_N 4
abbrev f__law_expression_5 : DF := f__law_expression_N 5
abbrev f__law_expression_6 : DF := f__law_expression_N 6
abbrev f__law_expression_7 : DF := f__law_expression_N 7
abbrev f__law_expression_8 : DF := f__law_expression_N 8
def p__law_spoilt_0 : DS := (dSeq (dSet 2 (dLst (dCons (dC .non) (dCons (dC (.bl true)) (dCons (dC (.int 0)) (dCons (dC (.str "")) (dCons (dC (.str "e")) (dCons (dC (.str "+")) (dCons (dC (.str "cd")) (dCons (dC (.str "C")) (dCons (dTup dNil) (dCons (dTup (dCons (dC (.str "c")) dNil)) (dCons (dLst (dCons (dC (.str "+")) (dCons (dC (.str "c")) (dCons (dC (.str "d")) dNil)))) (dCons (dTup (dCons (dC (.str "+")) dNil)) (dCons (dTup (dCons (dC (.str "|")) (dCons (dC (.str "c")) dNil))) (dCons (dC (.str "||")) dNil)))))))))))))))) (dSeq (dDrop (dMt "list" mAppend (dVar 2) (dCons (dTup (dCons (dC (.str "*")) (dCons (dC (.str "c")) (dCons (dC (.str "d")) dNil)))) dNil))) (dSeq (dIfS (dOr (dNot (dTst (dCB (isiL ct0) (dCons (dVar 1) (dCons (dC (.ty "tuple")) dNil))))) (dOr (dTst (dOp eqAV (dVar 1) (dTup dNil))) (dTst (dOp eqAV (dCallC f__law_draw 2 0 2 [0, 1] [] (dCons (dVar 0) (dCons (dC (.int 4)) dNil)) dNil) (dC (.int 0))))))
  (dRet (dCallC f__law_choice 2 0 2 [0, 1] [] (dCons (dVar 0) (dCons (dVar 2) dNil)) dNil))
  dSkip) (dSeq (dPar2 3 4 (dCons (dCallC f__law_draw 2 0 2 [0, 1] [] (dCons (dVar 0) (dCons (dCB lenL (dCons (dVar 1) dNil)) dNil)) dNil) (dCons (dCallC f__law_draw 2 0 2 [0, 1] [] (dCons (dVar 0) (dCons (dC (.int 4)) dNil)) dNil) dNil))) (dSeq (dIfS (dTst (dOp eqAV (dVar 4) (dC (.int 0))))
  (dRet (dOp addAV (dSlc (dVar 1) dNoP (dPrt (dVar 3))) (dSlc (dVar 1) (dPrt (dOp addAV (dVar 3) (dC (.int 1)))) dNoP)))
  dSkip) (dSeq (dIfS (dTst (dOp eqAV (dVar 4) (dC (.int 1))))
  (dRet (dOp addAV (dOp addAV (dSlc (dVar 1) dNoP (dPrt (dVar 3))) (dTup (dCons (dCallC f__law_choice 2 0 2 [0, 1] [] (dCons (dVar 0) (dCons (dVar 2) dNil)) dNil) dNil))) (dSlc (dVar 1) (dPrt (dVar 3)) dNoP)))
  dSkip) (dRet (dOp addAV (dOp addAV (dSlc (dVar 1) dNoP (dPrt (dVar 3))) (dTup (dCons eStuck dNil))) (dSlc (dVar 1) (dPrt (dOp addAV (dVar 3) (dC (.int 1)))) dNoP)))))))))
def f__law_spoilt_0 : DF := dFun 5 p__law_spoilt_0
def p__law_spoilt_P (FR : DF) : DS := (dSeq (dSet 2 (dLst (dCons (dC .non) (dCons (dC (.bl true)) (dCons (dC (.int 0)) (dCons (dC (.str "")) (dCons (dC (.str "e")) (dCons (dC (.str "+")) (dCons (dC (.str "cd")) (dCons (dC (.str "C")) (dCons (dTup dNil) (dCons (dTup (dCons (dC (.str "c")) dNil)) (dCons (dLst (dCons (dC (.str "+")) (dCons (dC (.str "c")) (dCons (dC (.str "d")) dNil)))) (dCons (dTup (dCons (dC (.str "+")) dNil)) (dCons (dTup (dCons (dC (.str "|")) (dCons (dC (.str "c")) dNil))) (dCons (dC (.str "||")) dNil)))))))))))))))) (dSeq (dDrop (dMt "list" mAppend (dVar 2) (dCons (dTup (dCons (dC (.str "*")) (dCons (dC (.str "c")) (dCons (dC (.str "d")) dNil)))) dNil))) (dSeq (dIfS (dOr (dNot (dTst (dCB (isiL ct0) (dCons (dVar 1) (dCons (dC (.ty "tuple")) dNil))))) (dOr (dTst (dOp eqAV (dVar 1) (dTup dNil))) (dTst (dOp eqAV (dCallC f__law_draw 2 0 2 [0, 1] [] (dCons (dVar 0) (dCons (dC (.int 4)) dNil)) dNil) (dC (.int 0))))))
  (dRet (dCallC f__law_choice 2 0 2 [0, 1] [] (dCons (dVar 0) (dCons (dVar 2) dNil)) dNil))
  dSkip) (dSeq (dPar2 3 4 (dCons (dCallC f__law_draw 2 0 2 [0, 1] [] (dCons (dVar 0) (dCons (dCB lenL (dCons (dVar 1) dNil)) dNil)) dNil) (dCons (dCallC f__law_draw 2 0 2 [0, 1] [] (dCons (dVar 0) (dCons (dC (.int 4)) dNil)) dNil) dNil))) (dSeq (dIfS (dTst (dOp eqAV (dVar 4) (dC (.int 0))))
  (dRet (dOp addAV (dSlc (dVar 1) dNoP (dPrt (dVar 3))) (dSlc (dVar 1) (dPrt (dOp addAV (dVar 3) (dC (.int 1)))) dNoP)))
  dSkip) (dSeq (dIfS (dTst (dOp eqAV (dVar 4) (dC (.int 1))))
  (dRet (dOp addAV (dOp addAV (dSlc (dVar 1) dNoP (dPrt (dVar 3))) (dTup (dCons (dCallC f__law_choice 2 0 2 [0, 1] [] (dCons (dVar 0) (dCons (dVar 2) dNil)) dNil) dNil))) (dSlc (dVar 1) (dPrt (dVar 3)) dNoP)))
  dSkip) (dRet (dOp addAV (dOp addAV (dSlc (dVar 1) dNoP (dPrt (dVar 3))) (dTup (dCons (dCallC FR 2 0 2 [0, 1] [] (dCons (dVar 0) (dCons (dOp idxAV (dVar 1) (dVar 3)) dNil)) dNil) dNil))) (dSlc (dVar 1) (dPrt (dOp addAV (dVar 3) (dC (.int 1)))) dNoP)))))))))
def f__law_spoilt_P (FR : DF) : DF := dFun 5 (p__law_spoilt_P FR)
def f__law_spoilt_N : Nat → DF
  | 0 => f__law_spoilt_0
  | n + 1 => f__law_spoilt_P (f__law_spoilt_N n)
abbrev f__law_spoilt_1 : DF := f__law_spoilt_N 1
abbrev f__law_spoilt_2 : DF := f__law_spoilt_N 2
abbrev f__law_spoilt_3 : DF := f__law_spoilt_N 3
abbrev f__law_spoilt_4 : DF := f__law_spoilt_N 4
abbrev f__law_spoilt_5 : DF := f__law_spoilt_N 5
abbrev f__law_spoilt_6 : DF := f__law_spoilt_N 6
abbrev f__law_spoilt_7 : DF := f__law_spoilt_N 7
abbrev f__law_spoilt_8 : DF := f__law_spoilt_N 8
abbrev f__law_spoilt_9 : DF := f__law_spoilt_N 9
abbrev f__law_spoilt_10 : DF := f__law_spoilt_N 10
abbrev f__law_spoilt_11 : DF := f__law_spoilt_N 11
abbrev f__law_spoilt_12 : DF := f__law_spoilt_N 12
def b_law_1 : DS := (dSeq (dSet 1 (dTup (dCons (dC (.str "+")) (dCons (dVar 1) (dCons (dC (.str "d")) dNil))))) (dSeq (dSet 2 (dIf (dTst (dOp eqAV (dOp modAV (dVar 3) (dC (.int 2))) (dC (.int 0)))) (dTup (dCons (dC (.str "-")) (dCons (dVar 2) dNil))) (dTup (dCons (dC (.str "&")) (dCons (dVar 2) (dCons (dC (.str "c")) dNil)))))) (dSeq (dSet 4 (dIf (dTst (dOp gtAV (dVar 3) (dC (.int 6)))) (dTup (dCons (dC (.str "-")) (dCons (dVar 1) dNil))) (dVar 2))) (dIfS (dOr (dNot (dTst (dCallC f__law_is_right 1 0 1 [0] [] (dCons (dVar 1) dNil) dNil))) (dOr (dNot (dTst (dCallC f__law_is_right 1 0 1 [0] [] (dCons (dVar 2) dNil) dNil))) (dNot (dTst (dCallC f__law_is_right 1 0 1 [0] [] (dCons (dVar 4) dNil) dNil)))))
  (dRet (dC (.bl false)))
  dSkip))))
def b_law_2 : DS := (dSeq (dSet 7 (dCallC f__law_expression_8 3 0 3 [0, 1, 2] [] (dCons (dVar 6) (dCons (dOp addAV (dC (.int 1)) (dCallC f__law_draw 2 0 2 [0, 1] [] (dCons (dVar 6) (dCons (dC (.int 10)) dNil)) dNil)) (dCons (dC (.int 8)) dNil))) dNil)) (dSeq (dIfS (dOr (dNot (dTst (dCallC f__law_is_right 1 0 1 [0] [] (dCons (dVar 7) dNil) dNil))) (dNot (dTst (dCallC f__law_is_right 1 0 1 [0] [] (dCons (dCallC f__law_spoilt_12 2 0 2 [0, 1] [] (dCons (dVar 6) (dCons (dVar 7) dNil)) dNil) dNil) dNil))))
  (dRet (dC (.bl false)))
  dSkip) (dIfS (dOr (dNot (dTst (dCallC f__law_is_right 1 0 1 [0] [] (dCons (dTup (dCons (dC (.str "+")) (dCons (dVar 7) (dCons (dVar 7) dNil)))) dNil) dNil))) (dNot (dTst (dCallC f__law_is_right 1 0 1 [0] [] (dCons (dCB listSL (dCons (dVar 7) dNil)) dNil) dNil))))
  (dRet (dC (.bl false)))
  dSkip)))
def b_law_3 : DS := (dSeq (dSet 6 (dCallC f__law_source 2 0 2 [0, 1] [] (dCons (dVar 0) (dCons (dVar 5) dNil)) dNil)) (dFor (dRg1 (dCons (dC (.int 12)) dNil)) (dgN 3) b_law_2))
def p_law : DS := (dSeq (dAsg (dTup (dCons (dC (.str "c")) (dCons (dC (.str "d")) dNil))) (dgT (dgC (dgN 1) (dgC (dgN 2) dg0)))) (dSeq (dFor (dRg1 (dCons (dC (.int 9)) dNil)) (dgN 3) b_law_1) (dSeq (dFor (dRg1 (dCons (dCB maxL (dCons (dC (.int 2)) (dCons (dCB minL (dCons (dC (.int 4)) (dCons (dCB lenL (dCons (dVar 0) dNil)) dNil))) dNil))) dNil)) (dgN 5) b_law_3) (dRet (dC (.bl true))))))
def f_law : DF := dFun 8 p_law
end Q
namespace Q
open PySem Dn

/-- a source: its parts -/
structure Sr (h : Hep) (s : Nat) (y : Int) (k : Nat) : Prop where
  ex : ∃ x z, h[s]? = some (.lst [.int x, .int y, .int z]) ∧ 0 ≤ x ∧ 0 ≤ z ∧ z ≤ k
  y0 : 0 ≤ y
  y1 : y < 2000000000000000000
theorem Sr.lt {h : Hep} {s k : Nat} {y : Int} (S : Sr h s y k) : s < h.length := lt_of S.ex.choose_spec.choose_spec.1
theorem Sr.fr {h h' : Hep} {s k k' : Nat} {y : Int} (S : Sr h s y k) (f : Fr [] h h') (hk : k ≤ k') : Sr h' s y k' := by
  obtain ⟨⟨x, z, e, a, b, c⟩, y0, y1⟩ := S
  exact ⟨⟨x, z, f.at e (by simp), a, b, by omega⟩, y0, y1⟩
theorem primes {r : Int} (h0 : 0 ≤ r) (h1 : r < 8) : ∃ p, L2.atI [AV.int 2147483647, .int 2147483629, .int 2147483587, .int 2147483579, .int 2147483563, .int 2147483549, .int 2147483543, .int 2147483497] r = some (.int p) ∧ 2147483497 ≤ p ∧ p < 2147483648 := by
  have : r = 0 ∨ r = 1 ∨ r = 2 ∨ r = 3 ∨ r = 4 ∨ r = 5 ∨ r = 6 ∨ r = 7 := by omega
  rcases this with rfl | rfl | rfl | rfl | rfl | rfl | rfl | rfl <;> exact ⟨_, rfl, by decide, by decide⟩
theorem at3_0 {a b c : AV} : L2.atI [a, b, c] 0 = some a := rfl
theorem at3_1 {a b c : AV} : L2.atI [a, b, c] 1 = some b := rfl
theorem at3_2 {a b c : AV} : L2.atI [a, b, c] 2 = some c := rfl
theorem draw_ok {h : Hep} {s k : Nat} {y m : Int} (S : Sr h s y k) (hm : 0 < m) (hm2 : m < 1000000) (hk : k < 100000) :
    ∃ d h', 0 ≤ d ∧ d < m ∧ f__law_draw [.ref s, .int m] h = .ok (.int d) h' ∧ Fr [s] h h' ∧ h'.length = h.length ∧ Sr h' s y (k + 1) := by
  obtain ⟨⟨x, z, e, hx, hz, hz2⟩, hy, hy2⟩ := S
  have hl := (List.getElem?_eq_some_iff.mp e).1
  have fin : ∀ d x' z' : Int, 0 ≤ d → d < m → 0 ≤ x' → 0 ≤ z' → z' ≤ z + 1 → f__law_draw [.ref s, .int m] h = .ok (.int d) (h.set s (.lst [.int x', .int y, .int z'])) →
      ∃ d h', 0 ≤ d ∧ d < m ∧ f__law_draw [.ref s, .int m] h = .ok (.int d) h' ∧ Fr [s] h h' ∧ h'.length = h.length ∧ Sr h' s y (k + 1) := fun d x' z' h1 h2 h3 h4 h5 he =>
    ⟨d, _, h1, h2, he, Fr.set (by simp), by simp, ⟨x', z', by simp [hl], h3, h4, by omega⟩, hy, hy2⟩
  by_cases h0 : 0 < x
  · refine fin (x % m) (x / m) z (Int.emod_nonneg _ (by omega)) (Int.emod_lt_of_pos _ hm) (Int.ediv_nonneg hx (by omega)) hz (by omega) ?_
    have hm3 : m < 1073741824 := by omega
    simp [f__law_draw, dFun, dStart, p__law_draw, idxAV, seqOf, tupOf, lstOf, e, putAV, at3_0, at3_1, at3_2, L2.ixN, h0, hm, hm3]
  · have hb0 : 0 ≤ y * (2 * (z + 1) + 11) := Int.mul_nonneg hy (by omega)
    have hb1 : y * (2 * (z + 1) + 11) ≤ 2000000000000000000 * 300000 := Int.mul_le_mul (by omega) (by omega) (by omega) (by omega)
    have hb2 : 0 ≤ (z + 1) * (z + 1) := Int.mul_nonneg (by omega) (by omega)
    have hb3 : (z + 1) * (z + 1) ≤ 100001 * 100001 := Int.mul_le_mul (by omega) (by omega) (by omega) (by omega)
    have hb : (y * (2 * (z + 1) + 11) + 5857 * (z + 1) * (z + 1) + 79).natAbs < 2 ^ 200 := by
      have : 5857 * (z + 1) * (z + 1) = 5857 * ((z + 1) * (z + 1)) := Int.mul_assoc _ _ _
      rw [this]
      omega
    have p1 : ∃ p, L2.atI [AV.int 2147483647, .int 2147483629, .int 2147483587, .int 2147483579, .int 2147483563, .int 2147483549, .int 2147483543, .int 2147483497] ((z + 1) % 8) = some (.int p) ∧ 2147483497 ≤ p ∧ p < 2147483648 := primes (by omega) (by omega)
    have p2 : ∃ p, L2.atI [AV.int 2147483647, .int 2147483629, .int 2147483587, .int 2147483579, .int 2147483563, .int 2147483549, .int 2147483543, .int 2147483497] ((z + 1 + 3) % 8) = some (.int p) ∧ 2147483497 ≤ p ∧ p < 2147483648 := primes (by omega) (by omega)
    obtain ⟨q1, e1, l1, u1⟩ := p1
    obtain ⟨q2, e2, l2, u2⟩ := p2
    have m1 : ∀ j, mulOk y j = true := fun j => mulOk_l (by omega) (by omega)
    have m2 : ∀ j, mulOk 2 j = true := fun j => mulOk_l (by omega) (by omega)
    have m3 : ∀ j, mulOk 5857 j = true := fun j => mulOk_l (by omega) (by omega)
    have m4 : ∀ i, mulOk i (z + 1) = true := fun j => mulOk_r (by omega) (by omega)
    generalize hB : y * (2 * (z + 1) + 11) + 5857 * (z + 1) * (z + 1) + 79 = B at hb
    have f0 : 0 ≤ B ^ 3 % q1 := Int.emod_nonneg _ (by omega)
    have f1 : B ^ 3 % q1 < q1 := Int.emod_lt_of_pos _ (by omega)
    have pw : ∀ h, powAV (.int B) (.int 3) h = some (.int (B ^ 3), h) := fun h => pow_ii (by omega) (by omega) hb
    generalize hA : B ^ 3 % q1 = A at f0 f1
    have m5 : ∀ j, mulOk A j = true := fun j => mulOk_l (by omega) (by omega)
    have hm3 : m < 1073741824 := by omega
    have w1 : 0 < q1 := by omega
    have w2 : 0 < q2 := by omega
    refine fin (A * (A / 4111 + 43) % q2 / 16 % m) x (z + 1) (Int.emod_nonneg _ (by omega)) (Int.emod_lt_of_pos _ hm) hx (by omega) (by omega) ?_
    have i0 : idxAV (.ref s) (.int 0) h = some (.int x, h) := idx_lst e rfl
    have i2 : idxAV (.ref s) (.int 2) h = some (.int z, h) := idx_lst e rfl
    have pz : putAV (.ref s) (.int 2) (.int (z + 1)) h = some (h.set s (.lst [.int x, .int y, .int (z + 1)])) := put_lst (j := 2) e (by simp)
    have e3 : (h.set s (.lst [.int x, .int y, .int (z + 1)]))[s]? = some (.lst [.int x, .int y, .int (z + 1)]) := by simp [hl]
    generalize h.set s (.lst [.int x, .int y, .int (z + 1)]) = g at pz e3 ⊢
    have j1 : idxAV (.ref s) (.int 1) g = some (.int y, g) := idx_lst e3 rfl
    have j2 : idxAV (.ref s) (.int 2) g = some (.int (z + 1), g) := idx_lst e3 rfl
    have t1 := idx_tup (h := g) e1
    have t2 := idx_tup (h := g) e2
    simp [f__law_draw, dFun, dStart, p__law_draw, i0, i2, pz, j1, j2, t1, t2, h0, mkT, m1, m2, m3, m4, m5, hB, pw, hA, w1, w2, hm, hm3]
theorem source_ok (ns : List Int) (p : Nat) (hp : p < 4) (h : Hep) : ∃ m g, f__law_source [.rol (ns.map .int), .int p] h = .ok (.ref m) g ∧ Fr [] h g ∧ h.length ≤ m ∧ ∃ y, Sr g m y 0 := by
  have fin : ∀ (c d : Int), 0 ≤ d → (f__law_source [.rol (ns.map .int), .int p] h = .ok (.ref h.length) (h ++ [AO.lst [.int d, .int (c % 1000000000000000003 + 9161 * p * p + 71 * p + 23), .int 0]])) → ∃ m g, f__law_source [.rol (ns.map .int), .int p] h = .ok (.ref m) g ∧ Fr [] h g ∧ h.length ≤ m ∧ ∃ y, Sr g m y 0 := fun c d hd e => by
    have hc0 : 0 ≤ c % 1000000000000000003 := Int.emod_nonneg _ (by decide)
    have hc1 : c % 1000000000000000003 < 1000000000000000003 := Int.emod_lt_of_pos _ (by decide)
    have hpp : (p : Int) = 0 ∨ (p : Int) = 1 ∨ (p : Int) = 2 ∨ (p : Int) = 3 := by omega
    refine ⟨_, _, e, Fr.app, Nat.le_refl _, _, ⟨⟨_, _, new_at, hd, Int.le_refl 0, by simp⟩, ?_, ?_⟩⟩
    · rcases hpp with z | z | z | z <;> rw [z] <;> omega
    · rcases hpp with z | z | z | z <;> rw [z] <;> omega
  have m1 : ∀ j, mulOk 9161 j = true := fun j => mulOk_l (by omega) (by omega)
  have m4 : ∀ j, mulOk 71 j = true := fun j => mulOk_l (by omega) (by omega)
  have m2 : ∀ j, mulOk j (p : Int) = true := fun j => mulOk_r (by omega) (by omega)
  have pw : ∀ h, powAV (.int 10) (.int 18) h = some (.int ((10 : Int) ^ 18), h) := fun h => pow_ii (by omega) (by omega) (by decide)
  have ln : ∀ h, lenL [.rol (ns.map .int)] h = some (.int (ns.length : Nat), h) := fun h => by simp [lenL, lenA]
  by_cases hl : p < ns.length
  · have ix : ∀ h, idxAV (.rol (ns.map .int)) (.int p) h = some (.int ns[p], h) := fun h => idx_rol (atI_nat (by simp [hl]))
    have hl' : (p : Int) < (ns.length : Int) := by omega
    by_cases hb : (10 : Int) ^ 18 ≤ (ns[p].natAbs : Int)
    · refine fin ns[p] ns[p].natAbs (by omega) ?_
      simp -implicitDefEqProofs [f__law_source, dFun, dStart, p__law_source, ln, hl', ix, absL, pw, m1, m2, m4, mkL, hb, -Int.reducePow]
    · refine fin ns[p] 0 (by omega) ?_
      simp -implicitDefEqProofs [f__law_source, dFun, dStart, p__law_source, ln, hl', ix, absL, pw, m1, m2, m4, mkL, hb, -Int.reducePow]
  · refine fin 0 0 (by omega) ?_
    have hl' : ¬ (p : Int) < (ns.length : Int) := by omega
    have hb : ¬ (10 : Int) ^ 18 ≤ ((0 : Int).natAbs : Int) := by decide
    simp -implicitDefEqProofs [f__law_source, dFun, dStart, p__law_source, ln, hl', absL, pw, m1, m2, m4, mkL, hb, -Int.reducePow]
theorem choice_ok {h : Hep} {s k m : Nat} {y : Int} {xs : List AV} (S : Sr h s y k) (e : h[m]? = some (.lst xs)) (hm : m ≠ s) (h0 : 0 < xs.length) (h1 : xs.length < 1000000) (hk : k < 100000) (hn : ∀ x ∈ xs, x.nx = true) :
    ∃ v h', v ∈ xs ∧ f__law_choice [.ref s, .ref m] h = .ok v h' ∧ Fr [s] h h' ∧ Sr h' s y (k + 1) ∧ h'.length = h.length := by
  obtain ⟨w, h', w0, w1, e1, r1, l1, S1⟩ := draw_ok (m := (xs.length : Int)) S (by omega) (by omega) hk
  obtain ⟨n, rfl⟩ : ∃ n : Nat, w = n := ⟨w.toNat, by omega⟩
  have hl : n < xs.length := by omega
  have e2 := r1.at e (by simp [hm])
  refine ⟨xs[n], h', List.getElem_mem hl, ?_, r1, S1, l1⟩
  have i1 := idx_lst (i := (n : Int)) (v := xs[n]) e2 (atI_nat (by simp [hl]))
  simp [f__law_choice, dFun, dStart, p__law_choice, len_ref e, e1, i1]
/-- items -/
inductive Iv where
  | i (n : Int) | s (x : Str)
  deriving DecidableEq
def Iv.av : Iv → AV
  | .i n => .int n
  | .s x => .str x
def Iv.pd : Iv → PyData
  | .i n => .int n
  | .s x => .str x
def okC (x : Str) : Bool := decide (1 ≤ x.cps.size ∧ x.cps.size ≤ 6) && x.cps.toList.all fun c => decide (97 ≤ c ∧ c ≤ 122)
def Iv.okB : Iv → Bool
  | .i n => decide (n.natAbs < 1000000000000)
  | .s x => okC x
@[simp] theorem Iv.nx (v : Iv) : v.av.nx = true := by cases v <;> rfl
/-! as data -/
theorem Iv.dr (v : Iv) (h : Hep) : Dr h v.av v.pd := by
  cases v
  · exact .int _
  · exact .str _
theorem okC_str {x : Str} (hx : okC x = true) : PyData.strOk x = true := by
  obtain ⟨_, h2⟩ := Bool.and_eq_true_iff.mp hx
  rw [List.all_eq_true] at h2
  unfold PyData.strOk
  rw [← Array.all_toList, List.all_eq_true]
  intro c hc
  have := of_decide_eq_true (h2 c hc)
  exact decide_eq_true (by omega)
theorem Iv.can {v : Iv} (hv : v.okB = true) : v.pd.canLay0 = true := by
  cases v with
  | i n => simp [Iv.pd, PyData.canLay0]
  | s x => simp [Iv.pd, PyData.canLay0, okC_str hv]
theorem Iv.dep (v : Iv) : v.pd.depth ≤ 0 := by
  cases v <;> simp [Iv.pd, PyData.depth]
theorem Iv.eqv (v w : Iv) : PyData.eqv v.pd w.pd = decide (v = w) := by
  cases v <;> cases w <;> simp [Iv.pd, PyData.eqv] <;> rw [Bool.eq_iff_iff] <;> simp
/-! tables -/
def plD (pl : List (L2.Key × Int)) : List (L2.Key × AV) := pl.map fun z => (z.1, .int z.2)
/-- the table at t: its dict of values at p, its dict of places at q -/
structure Tc (cl : Nat) (h : Hep) (t p q : Nat) (kv : List (L2.Key × AV)) (pl : List (L2.Key × Int)) (fp np : Int) : Prop where
  ob : h[t]? = some (.ins cl [(0, .ref p), (1, .ref q), (2, .int fp), (3, .int np)])
  hd : h[p]? = some (.dK kv)
  ps : h[q]? = some (.dK (plD pl))
  n1 : (kv.map (·.1)).Nodup
  n2 : (pl.map (·.1)).Nodup
  n3 : (pl.map (·.2)).Nodup
  ks : ∀ k, k ∈ pl.map (·.1) ↔ k ∈ kv.map (·.1)
  l1 : kv.length ≤ 1000
  l2 : pl.length ≤ 1000
  ne : p ≠ q
  lt : ∀ z ∈ pl, z.2 < np
  ge : ∀ z ∈ pl, fp ≤ z.2
  fn : fp ≤ np
abbrev Tb := Tc 0
theorem Tc.fr {h h' : Hep} {t p q : Nat} {kv : List (L2.Key × AV)} {pl : List (L2.Key × Int)} {fp np : Int} {ex : List Nat} (T : Tc cl h t p q kv pl fp np) (f : Fr ex h h') (h1 : t ∉ ex) (h2 : p ∉ ex) (h3 : q ∉ ex) : Tc cl h' t p q kv pl fp np :=
  ⟨f.at T.ob h1, f.at T.hd h2, f.at T.ps h3, T.n1, T.n2, T.n3, T.ks, T.l1, T.l2, T.ne, T.lt, T.ge, T.fn⟩
theorem Tc.tp {h : Hep} {t p q : Nat} {kv : List (L2.Key × AV)} {pl : List (L2.Key × Int)} {fp np : Int} (T : Tc cl h t p q kv pl fp np) : t ≠ p := fun e => by
  have := T.ob.symm.trans (e ▸ T.hd)
  cases this
theorem Tc.tq {h : Hep} {t p q : Nat} {kv : List (L2.Key × AV)} {pl : List (L2.Key × Int)} {fp np : Int} (T : Tc cl h t p q kv pl fp np) : t ≠ q := fun e => by
  have := T.ob.symm.trans (e ▸ T.ps)
  cases this
theorem src_dk {f : DE} {s : Sl} {h h1 : Hep} {n w : Nat} {kvs : List (L2.Key × AV)} (ef : f s h = .ok (.ref n) h1) (e : h1[n]? = some (.frz (.dK kvs))) : dDk w f s h = .ok (.dK n w) h1 := by
  simp [dDk, ef, e]
theorem next_dk {h : Hep} {n w i : Nat} {kvs : List (L2.Key × AV)} (e : h[n]? = some (.frz (.dK kvs))) : (Src.dK n w).next i h = some (kvs[i]?.map (pickD w i)) := by
  simp [Src.next, e]
theorem len_dk {h : Hep} {n w : Nat} {kvs : List (L2.Key × AV)} (e : h[n]? = some (.frz (.dK kvs))) : (Src.dK n w).len h = kvs.length := by
  simp [Src.len, e]
theorem app_at {h : Hep} {a : AO} {n : Nat} {o : AO} (e : h[n]? = some o) : (h ++ [a])[n]? = some o := by
  rw [List.getElem?_append_left (lt_of e)]
  exact e
theorem var_key {s : Sl} {i : Nat} {k : L2.Key} (e : s[i]? = some (some (ofKey k))) (h : Hep) : dVar i s h = .ok (ofKey k) h := by
  unfold dVar
  rw [e]
  cases k <;> rfl
theorem dput_new {kv : List (L2.Key × AV)} {k : L2.Key} {v : AV} (h : k ∉ kv.map (·.1)) : dput kv k v = kv ++ [(k, v)] := by
  unfold dput
  rw [if_neg]
  intro z
  obtain ⟨x, hx, e⟩ := List.any_eq_true.mp z
  exact h (List.mem_map.mpr ⟨x, hx, of_decide_eq_true e⟩)
theorem dput_old {kv : List (L2.Key × AV)} {k : L2.Key} {v : AV} (h : k ∈ kv.map (·.1)) : dput kv k v = kv.map fun x => if x.1 = k then (x.1, v) else x := by
  unfold dput
  rw [if_pos]
  obtain ⟨x, hx, e⟩ := List.mem_map.mp h
  exact List.any_eq_true.mpr ⟨x, hx, decide_eq_true e⟩
theorem dput_old_keys {kv : List (L2.Key × AV)} {k : L2.Key} {v : AV} (h : k ∈ kv.map (·.1)) : (dput kv k v).map (·.1) = kv.map (·.1) := by
  rw [dput_old h, List.map_map]
  refine List.map_congr_left fun x _ => ?_
  show (if x.1 = k then (x.1, v) else x).1 = x.1
  split <;> rfl
theorem plD_keys (pl : List (L2.Key × Int)) : (plD pl).map (·.1) = pl.map (·.1) := by simp [plD, Function.comp_def]
def Iv.ky : Iv → L2.Key
  | .i n => .inl n
  | .s x => .inr x
theorem Iv.key_av (v : Iv) : ofKey v.ky = v.av := by cases v <;> rfl


def prD (l : List (L2.Key × AV)) : List AV := l.map fun z => .tup [ofKey z.1, z.2]
/-- the table's places, as its constructor lays them -/
def plN : Nat → List (L2.Key × AV) → List (L2.Key × Int)
  | _, [] => []
  | n, z :: r => (z.1, (n : Int)) :: plN (n + 1) r
theorem plN_keys : ∀ (n : Nat) (l : List (L2.Key × AV)), (plN n l).map (·.1) = l.map (·.1)
  | _, [] => rfl
  | n, z :: r => by
    show z.1 :: (plN (n + 1) r).map (·.1) = z.1 :: r.map (·.1)
    rw [plN_keys]
theorem plN_len (n : Nat) (l : List (L2.Key × AV)) : (plN n l).length = l.length := by
  have := congrArg List.length (plN_keys n l)
  simpa using this
theorem plN_at : ∀ (n i : Nat) (l : List (L2.Key × AV)), (plN n l)[i]? = l[i]?.map fun z => (z.1, ((n + i : Nat) : Int))
  | _, _, [] => by simp [plN]
  | n, 0, z :: r => rfl
  | n, i + 1, z :: r => by
    show (plN (n + 1) r)[i]? = r[i]?.map fun z => (z.1, ((n + (i + 1) : Nat) : Int))
    rw [plN_at]
    congr 1
    funext z
    rw [show n + 1 + i = n + (i + 1) by omega]
theorem plN_ge : ∀ (n : Nat) (l : List (L2.Key × AV)), ∀ z ∈ plN n l, (n : Int) ≤ z.2 ∧ z.2 < (n + l.length : Nat)
  | _, [], z, h => by cases h
  | n, x :: r, z, h => by
    rcases List.mem_cons.mp h with e | e
    · subst e
      show (n : Int) ≤ (n : Int) ∧ (n : Int) < _
      simp
      omega
    · have := plN_ge (n + 1) r z e
      simp at this ⊢
      omega
theorem plN_nd : ∀ (n : Nat) (l : List (L2.Key × AV)), ((plN n l).map (·.2)).Pairwise (· < ·)
  | _, [] => by simp [plN]
  | n, x :: r => by
    show ((n : Int) :: (plN (n + 1) r).map (·.2)).Pairwise (· < ·)
    refine List.pairwise_cons.mpr ⟨fun c hc => ?_, plN_nd (n + 1) r⟩
    obtain ⟨z, hz, e⟩ := List.mem_map.mp hc
    have := plN_ge (n + 1) r z hz
    omega
theorem var_nx {s : Sl} {i : Nat} {v : AV} (e : s[i]? = some (some v)) (hv : v.nx = true) (h : Hep) : dVar i s h = .ok v h := by
  unfold dVar
  rw [e]
  cases v <;> first | rfl | cases hv
theorem merge_keys : ∀ (more acc : List (L2.Key × AV)), (acc.map (·.1)).Nodup → ((mergeA acc more).map (·.1)).Nodup
  | [], acc, n => n
  | (q, v) :: r, acc, n => by
    show ((mergeA (dput acc q v) r).map (·.1)).Nodup
    refine merge_keys r _ ?_
    by_cases m : q ∈ acc.map (·.1)
    · rw [dput_old_keys m]
      exact n
    · rw [dput_new m, List.map_append, List.nodup_append]
      exact ⟨n, by simp, fun a ha b hb z => m (by simp at hb; rw [← hb, ← z]; exact ha)⟩
theorem merge_len : ∀ (more acc : List (L2.Key × AV)), (mergeA acc more).length ≤ acc.length + more.length
  | [], acc => Nat.le_refl _
  | (q, v) :: r, acc => by
    show (mergeA (dput acc q v) r).length ≤ _
    have h1 := merge_len r (dput acc q v)
    have h2 := dput_len acc q v
    simp only [List.length_cons]
    omega
theorem plN_nodup (n : Nat) (l : List (L2.Key × AV)) : ((plN n l).map (·.2)).Nodup := (plN_nd n l).imp fun h e => by
  rw [e] at h
  exact absurd h (Int.lt_irrefl _)
theorem held_ok {g : Hep} {m t : Nat} {ps : List (L2.Key × AV)} (a b c d : Option AV) (e : g[m]? = some (.lst (prD ps))) (nx : ∀ z ∈ ps, z.2.nx = true) (hl : ps.length ≤ 1000) :
    dDc (dSrc (dVar 2)) (dgT (dgC (dgN 3) (dgC (dgN 4) dg0))) dYes e_Table_xinit_1 e_Table_xinit_2 [3, 4] [some (.ref t), a, some (.ref m), b, c, d] g = .ok (.ref g.length) (g ++ [AO.dK (mergeA [] ps)]) := by
  refine dc_pure (src := .at m) (xs := prD ps) (kvs := ps) (src_ref (n := m) rfl e) (by simp [prD]) (by simp [prD]; omega) (len_at e) (fun acc i => next_at (app_at e)) (fun i x k v acc hx hk => ?_)
  simp only [prD, List.getElem?_map, hk] at hx
  cases hx
  refine ⟨[some (.ref t), a, some (.ref m), some (ofKey k), some v, d], rfl, ?_, ?_⟩
  · exact var_key rfl _
  · exact var_nx rfl (nx _ (List.mem_of_getElem? hk)) _
theorem places_ok {h : Hep} {t p : Nat} {fs : List (Nat × AV)} {kv : List (L2.Key × AV)} (a b c d e : Option AV) (ob : h[t]? = some (.ins cl fs)) (hf : fget fs 0 = some (.ref p)) (hd : h[p]? = some (.dK kv)) (n1 : (kv.map (·.1)).Nodup) (hl : kv.length ≤ 1000) :
    dLkE (dFld 0 (dVar 0)) (dDc (dDk 3 (dFld 0 (dVar 0))) (dgT (dgC (dgN 5) (dgC (dgN 3) dg0))) dYes e_Table_xinit_3 e_Table_xinit_4 [5, 3]) [some (.ref t), a, b, c, d, e] h = .ok (.ref h.length) (h ++ [AO.dK (plD (plN 0 kv))]) := by
  have e1 : dFld 0 (dVar 0) [some (.ref t), a, b, c, d, e] h = .ok (.ref p) h := by simp [ins_of ob, hf]
  have tp : t ≠ p := fun z => by
    have := ob.symm.trans (z ▸ hd)
    cases this
  refine lk_pure e1 hd ?_
  have ob2 : (h.set p (.frz (.dK kv)))[t]? = some (.ins cl fs) := by
    rw [List.getElem?_set_ne (Ne.symm tp)]
    exact ob
  have at2 : (h.set p (.frz (.dK kv)))[p]? = some (.frz (.dK kv)) := List.getElem?_set_self (lt_of hd)
  have e2 : dFld 0 (dVar 0) [some (.ref t), a, b, c, d, e] (h.set p (.frz (.dK kv))) = .ok (.ref p) (h.set p (.frz (.dK kv))) := by simp [ins_of ob2, hf]
  have r := dc_pure (g := dgT (dgC (dgN 5) (dgC (dgN 3) dg0))) (tk := e_Table_xinit_3) (tv := e_Table_xinit_4) (vs := [5, 3]) (xs := (plN 0 kv).map fun z => .tup [.int z.2, ofKey z.1]) (kvs := plD (plN 0 kv)) (src_dk (w := 3) e2 at2) (by simp [plD]) (by simp [plN_len]; omega)
    (by rw [len_dk at2]; simp [plN_len]) (fun acc i => by
      rw [next_dk (app_at at2), List.getElem?_map, plN_at, Option.map_map]
      simp only [Nat.zero_add]
      rfl) (fun i x k v acc hx hk => by
      simp only [plD, List.getElem?_map] at hx hk
      cases z : (plN 0 kv)[i]? with
      | none =>
        rw [z] at hx
        cases hx
      | some y =>
        rw [z] at hx hk
        cases hx
        cases hk
        refine ⟨[some (.ref t), a, b, some (ofKey y.1), d, some (.int y.2)], rfl, ?_, rfl⟩
        exact var_key rfl _)
  have nd : mergeA [] (plD (plN 0 kv)) = plD (plN 0 kv) := by
    have := merge_nd (plD (plN 0 kv)) [] (by
      show ((plD (plN 0 kv)).map (·.1)).Nodup
      rw [plD_keys, plN_keys]
      exact n1)
    simpa using this
  rw [nd] at r
  rw [r]
  simp
theorem xinit_gen {f1 : DE} {h g : Hep} {t m : Nat} {a : AV} {ps : List (L2.Key × AV)} (hF : p_Table_xinit = dSeq (dSet 2 (dIf (dTst f1) (dCallC f_pairs_of 1 0 1 [0] [] (dCons (dVar 1) dNil) dNil) (dCB listL (dCons (dVar 1) dNil)))) (dSeq (dSetF 0 (dVar 0) (dDc (dSrc (dVar 2)) (dgT (dgC (dgN 3) (dgC (dgN 4) dg0))) dYes e_Table_xinit_1 e_Table_xinit_2 [3, 4])) (dSeq (dSetF 1 (dVar 0) (dLkE (dFld 0 (dVar 0)) (dDc (dDk 3 (dFld 0 (dVar 0))) (dgT (dgC (dgN 5) (dgC (dgN 3) dg0))) dYes e_Table_xinit_3 e_Table_xinit_4 [5, 3]))) (dSeq (dSetF 2 (dVar 0) (dC (.int 0))) (dSetF 3 (dVar 0) (dCB lenL (dCons (dFld 0 (dVar 0)) dNil)))))))
    (e0 : dIf (dTst f1) (dCallC f_pairs_of 1 0 1 [0] [] (dCons (dVar 1) dNil) dNil) (dCB listL (dCons (dVar 1) dNil)) [some (.ref t), some a, none, none, none, none] h = .ok (.ref m) g) (fr : Fr [] h g) (ob : h[t]? = some (.ins cl [])) (e : g[m]? = some (.lst (prD ps))) (nx : ∀ z ∈ ps, z.2.nx = true) (hl : ps.length ≤ 1000) :
    ∃ h' p q, (p_Table_xinit [some (.ref t), some a, none, none, none, none] h).fin = .ok .non h' ∧ Fr [t] h h' ∧ h.length ≤ p ∧ h.length ≤ q ∧ Tc cl h' t p q (mergeA [] ps) (plN 0 (mergeA [] ps)) 0 ((mergeA [] ps).length : Nat) := by
  have ht := lt_of ob
  have hg := fr.1
  have n1 : ((mergeA [] ps).map (·.1)).Nodup := merge_keys ps [] (by simp)
  have kl : (mergeA [] ps).length ≤ 1000 := by
    have := merge_len ps []
    simp at this
    omega
  have h1 := held_ok (t := t) (some a) none none none e nx hl
  generalize mergeA [] ps = kv at h1 n1 kl
  have ob1 : (g ++ [AO.dK kv])[t]? = some (.ins cl []) := app_at (fr.at ob (by simp))
  have hd1 : (g ++ [AO.dK kv])[g.length]? = some (.dK kv) := at_last
  have fr1 : Fr [t] h (g ++ [AO.dK kv]) := fr.nil.trans Fr.app
  have tp : t ≠ g.length := by omega
  have lp := hg
  generalize hG1 : g ++ [AO.dK kv] = g1 at h1 ob1 hd1 fr1
  generalize g.length = p at h1 hd1 tp lp
  have ob2 : (g1.set t (.ins cl [(0, .ref p)]))[t]? = some (.ins cl [(0, .ref p)]) := List.getElem?_set_self (lt_of ob1)
  have hd2 : (g1.set t (.ins cl [(0, .ref p)]))[p]? = some (.dK kv) := by
    rw [List.getElem?_set_ne tp]
    exact hd1
  have fr2 : Fr [t] h (g1.set t (.ins cl [(0, .ref p)])) := fr1.trans (Fr.set (by simp))
  generalize hG2 : g1.set t (.ins cl [(0, .ref p)]) = g2 at ob2 hd2 fr2
  have h2 := places_ok (some a) (some (.ref m)) none none none ob2 rfl hd2 n1 kl
  have ob3 : (g2 ++ [AO.dK (plD (plN 0 kv))])[t]? = some (.ins cl [(0, .ref p)]) := app_at ob2
  have hd3 : (g2 ++ [AO.dK (plD (plN 0 kv))])[p]? = some (.dK kv) := app_at hd2
  have ps3 : (g2 ++ [AO.dK (plD (plN 0 kv))])[g2.length]? = some (.dK (plD (plN 0 kv))) := at_last
  have fr3 : Fr [t] h (g2 ++ [AO.dK (plD (plN 0 kv))]) := fr2.trans Fr.app
  have lq := fr2.1
  have tq : t ≠ g2.length := by omega
  have pq : p ≠ g2.length := by
    have := lt_of hd2
    omega
  generalize hG3 : g2 ++ [AO.dK (plD (plN 0 kv))] = g3 at h2 ob3 hd3 ps3 fr3
  generalize g2.length = q at h2 ps3 lq tq pq
  have step : ∀ (x : Hep) (fs fs' : List (Nat × AV)), x[t]? = some (.ins cl fs) → x[p]? = some (.dK kv) → x[q]? = some (.dK (plD (plN 0 kv))) → Fr [t] h x →
      (x.set t (.ins cl fs'))[t]? = some (.ins cl fs') ∧ (x.set t (.ins cl fs'))[p]? = some (.dK kv) ∧ (x.set t (.ins cl fs'))[q]? = some (.dK (plD (plN 0 kv))) ∧ Fr [t] h (x.set t (.ins cl fs')) := fun x fs fs' a1 a2 a3 a4 => by
    refine ⟨List.getElem?_set_self (lt_of a1), ?_, ?_, a4.trans (Fr.set (by simp))⟩
    · rw [List.getElem?_set_ne tp]
      exact a2
    · rw [List.getElem?_set_ne tq]
      exact a3
  obtain ⟨ob4, hd4, ps4, fr4⟩ := step g3 _ [(0, .ref p), (1, .ref q)] ob3 hd3 ps3 fr3
  generalize hG4 : g3.set t (.ins cl [(0, .ref p), (1, .ref q)]) = g4 at ob4 hd4 ps4 fr4
  obtain ⟨ob5, hd5, ps5, fr5⟩ := step g4 _ [(0, .ref p), (1, .ref q), (2, .int 0)] ob4 hd4 ps4 fr4
  generalize hG5 : g4.set t (.ins cl [(0, .ref p), (1, .ref q), (2, .int 0)]) = g5 at ob5 hd5 ps5 fr5
  obtain ⟨ob6, hd6, ps6, fr6⟩ := step g5 _ [(0, .ref p), (1, .ref q), (2, .int 0), (3, .int (kv.length : Nat))] ob5 hd5 ps5 fr5
  generalize hG6 : g5.set t (.ins cl [(0, .ref p), (1, .ref q), (2, .int 0), (3, .int (kv.length : Nat))]) = g6 at ob6 hd6 ps6 fr6
  have ln : lenL [.ref p] g5 = some (.int (kv.length : Nat), g5) := by simp [lenL, lenA, hd5]
  refine ⟨g6, p, q, ?_, fr6, lp, lq, ob6, hd6, ps6, n1, by rw [plN_keys]; exact n1, plN_nodup 0 kv, by rw [plN_keys]; exact fun _ => Iff.rfl, kl, by rw [plN_len]; exact kl, pq, fun z hz => ?_, fun z hz => ?_, by omega⟩
  · have e1 : dSet 2 (dIf (dTst f1) (dCallC f_pairs_of 1 0 1 [0] [] (dCons (dVar 1) dNil) dNil) (dCB listL (dCons (dVar 1) dNil))) [some (.ref t), some a, none, none, none, none] h = .nx [some (.ref t), some a, some (.ref m), none, none, none] g := by
      rw [xSet, e0]
      rfl
    rw [hF]
    simp only [xSeq]
    rw [e1]
    simp [h1, ins_of ob1, fput, hG2, h2, ins_of ob3, hG4, ins_of ob4, hG5, ins_of ob5, ln, hG6]
  · have := (plN_ge 0 kv z hz).2
    omega
  · have := (plN_ge 0 kv z hz).1
    omega

theorem cinit_ok {h g : Hep} {t m : Nat} {a : AV} {ps : List (L2.Key × AV)} (hc : f_Counter_is_plain [.ref t] h = .ok (.bl false) h) (ha : a.nx = true) (e0 : listL [a] h = some (.ref m, g)) (fr : Fr [] h g) (ob : h[t]? = some (.ins 2 [])) (e : g[m]? = some (.lst (prD ps))) (nx : ∀ z ∈ ps, z.2.nx = true) (hl : ps.length ≤ 1000) :
    ∃ h' p q, f_Table_xinit [.ref t, a] h = .ok .non h' ∧ Fr [t] h h' ∧ h.length ≤ p ∧ h.length ≤ q ∧ Tc 2 h' t p q (mergeA [] ps) (plN 0 (mergeA [] ps)) 0 ((mergeA [] ps).length : Nat) := by
  exact xinit_gen rfl (by simp [methK_of ob, methK, ins_of ob, hc, ha, e0]) fr ob e nx hl


/-! pairs of items -/
def pav (z : Iv × Iv) : AV := .tup [z.1.av, z.2.av]
def kvI (l : List (Iv × Iv)) : List (L2.Key × AV) := l.map fun z => (z.1.ky, z.2.av)
theorem prD_kvI (l : List (Iv × Iv)) : prD (kvI l) = l.map pav := by
  simp only [prD, kvI, List.map_map]
  refine List.map_congr_left fun z _ => ?_
  show AV.tup [ofKey z.1.ky, z.2.av] = _
  rw [Iv.key_av]
  rfl
theorem kvI_nx (l : List (Iv × Iv)) : ∀ z ∈ kvI l, z.2.nx = true := fun z hz => by
  obtain ⟨w, _, rfl⟩ := List.mem_map.mp hz
  exact Iv.nx _
/-! the law's own list of pairs -/
theorem ky_inj {a b : Iv} (h : a.ky = b.ky) : a = b := by
  cases a <;> cases b <;> simp [Iv.ky] at h <;> simp [h]
def putI (l : List (Iv × Iv)) (k v : Iv) : List (Iv × Iv) := if l.any (fun z => decide (z.1 = k)) = true then l.map (fun z => if z.1 = k then (z.1, v) else z) else l ++ [(k, v)]
theorem putI_kv (l : List (Iv × Iv)) (k v : Iv) : kvI (putI l k v) = dput (kvI l) k.ky v.av := by
  have e : (kvI l).any (fun z => decide (z.1 = k.ky)) = l.any (fun z => decide (z.1 = k)) := by
    simp only [kvI, List.any_map]
    congr 1
    funext z
    show decide (z.1.ky = k.ky) = decide (z.1 = k)
    exact decide_eq_decide.mpr ⟨ky_inj, fun h => by rw [h]⟩
  unfold putI dput
  rw [e]
  split
  · simp only [kvI, List.map_map]
    refine List.map_congr_left fun z _ => ?_
    show ((if z.1 = k then (z.1, v) else z).1.ky, (if z.1 = k then (z.1, v) else z).2.av) = if z.1.ky = k.ky then (z.1.ky, v.av) else (z.1.ky, z.2.av)
    by_cases c : z.1 = k
    · rw [if_pos c, if_pos (by rw [c])]
    · rw [if_neg c, if_neg fun h => c (ky_inj h)]
  · simp [kvI]
def mdl (l : List (Iv × Iv)) : List (Iv × Iv) := l.foldl (fun acc z => putI acc z.1 z.2) []
theorem mdl_kv (l : List (Iv × Iv)) : kvI (mdl l) = mergeA [] (kvI l) := by
  have : ∀ (l acc : List (Iv × Iv)), kvI (l.foldl (fun acc z => putI acc z.1 z.2) acc) = mergeA (kvI acc) (kvI l) := fun l => by
    induction l with
    | nil => exact fun acc => rfl
    | cons z r ih =>
      intro acc
      rw [List.foldl_cons, ih, putI_kv]
      rfl
  exact this l []
/-! tables as rows of pairs -/
abbrev TbL (h : Hep) (t p q : Nat) (l : List (Iv × Iv)) : Prop := Tb h t p q (kvI l) (plN 0 (kvI l)) 0 ((kvI l).length : Nat)
theorem kvI_keys (l : List (Iv × Iv)) : (kvI l).map (·.1) = (l.map (·.1)).map Iv.ky := by simp [kvI, Function.comp_def]
theorem TbL.nd {h : Hep} {t p q : Nat} {l : List (Iv × Iv)} (T : TbL h t p q l) : (l.map (·.1)).Nodup := by
  have := T.n1
  rw [kvI_keys] at this
  unfold List.Nodup at this ⊢
  rw [List.pairwise_map] at this
  exact this.imp fun h e => h (by rw [e])
/-! == -/
section
variable {h : Hep} {t p q t2 p2 q2 : Nat} {l l2 : List (Iv × Iv)}
end
/-- refs of lists of pairs, all at B or behind -/
inductive RA (h : Hep) (B : Nat) : List AV → List (List (Iv × Iv)) → Prop
  | nil : RA h B [] []
  | cons {r : Nat} {l : List (Iv × Iv)} {xs : List AV} {ls : List (List (Iv × Iv))} : B ≤ r → h[r]? = some (.lst (l.map pav)) → RA h B xs ls → RA h B (.ref r :: xs) (l :: ls)
theorem RA.fr {h h' : Hep} {B : Nat} {ex : List Nat} (f : Fr ex h h') (hx : ∀ x ∈ ex, x < B) : ∀ {xs : List AV} {ls : List (List (Iv × Iv))}, RA h B xs ls → RA h' B xs ls
  | _, _, .nil => .nil
  | _, _, .cons b e t => .cons b (f.at e fun m => by have := hx _ m; omega) (RA.fr f hx t)
theorem RA.len {h : Hep} {B : Nat} : ∀ {xs : List AV} {ls : List (List (Iv × Iv))}, RA h B xs ls → xs.length = ls.length
  | _, _, .nil => rfl
  | _, _, .cons _ _ t => by simp [RA.len t]
/-! values of any size -/
def Iv.okV : Iv → Bool
  | .i _ => true
  | .s x => okC x
theorem canV {v : Iv} (hv : v.okV = true) : v.pd.canLay0 = true := by
  cases v with
  | i n => simp [Iv.pd, PyData.canLay0]
  | s x => exact Iv.can (v := .s x) hv
theorem dOkV {v : Iv} (hv : v.okV = true) : DOk v.pd := ⟨canV hv, by have := v.dep; omega⟩
theorem eqV {v w : Iv} (hv : v.okV = true) (hw : w.okV = true) (h : Hep) : eqAV v.av w.av h = some (.bl (decide (v = w)), h) := by
  rw [eqAV_dr (v.dr h) (w.dr h) (dOkV hv) (dOkV hw), Iv.eqv]
theorem cnt_make {h g : Hep} {a : AV} {m : Nat} {c : List (Iv × Iv)} (na : a.nx = true) (e1 : f_count_pairs [a] (h ++ [AO.ins 2 []]) = .ok (.ref m) g) (f1 : Fr [] (h ++ [AO.ins 2 []]) g) (em : g[m]? = some (.lst (c.map pav))) (hl : c.length ≤ 1000) :
    ∃ p q h', f_Counter_xinit [.ref h.length, a] (h ++ [AO.ins 2 []]) = .ok .non h' ∧ Fr [] h h' ∧ h.length < p ∧ h.length < q ∧ Tc 2 h' h.length p q (kvI (mdl c)) (plN 0 (kvI (mdl c))) 0 ((kvI (mdl c)).length : Nat) := by
  have ob : g[h.length]? = some (.ins 2 []) := f1.at new_at (by simp)
  have l1 : listL [.ref m] g = some (.ref g.length, g ++ [AO.lst (c.map pav)]) := by simp [listL, seq_ref em]
  have a1 : (g ++ [AO.lst (c.map pav)])[g.length]? = some (.lst (prD (kvI c))) := by
    rw [prD_kvI]
    exact at_last
  obtain ⟨h', p, q, e2, f2, lp, lq, T⟩ := cinit_ok (a := .ref m) rfl rfl l1 Fr.app ob a1 (kvI_nx c) (by simpa [kvI] using hl)
  rw [← mdl_kv] at T
  have fh : Fr [] h (h ++ [AO.ins 2 []]) := Fr.app
  have g1 := f1.1
  have fr : Fr [] h h' := by
    have q1 := fh.trans f1
    refine ⟨Nat.le_trans q1.1 f2.1, fun j hj _ => ?_⟩
    rw [f2.2 j (Nat.lt_of_lt_of_le hj q1.1) (by simp; omega)]
    exact q1.2 j hj (by simp)
  simp at g1
  refine ⟨p, q, h', ?_, fr, by omega, by omega, T⟩
  simp [f_Counter_xinit, dFun, dStart, p_Counter_xinit, na, e1, e2]
/-! expressions as trees -/
inductive Sg where
  | a | s | o | n
def Sg.st : Sg → Str
  | .a => "+" | .s => "-" | .o => "|" | .n => "&"
def lst : Bool → Str
  | true => "c"
  | false => "d"
def ust : Bool → Str
  | true => "+"
  | false => "-"
inductive Ex where
  | l (c : Bool)
  | u (p : Bool) (e : Ex)
  | b (g : Sg) (x y : Ex)
def Ex.av : Ex → AV
  | .l c => .str (lst c)
  | .u p e => .tup [.str (ust p), e.av]
  | .b g x y => .tup [.str g.st, x.av, y.av]
def Ex.dep : Ex → Nat
  | .l _ => 0
  | .u _ e => e.dep + 1
  | .b _ x y => max x.dep y.dep + 1
def Ex.lets : Ex → Nat
  | .l _ => 1
  | .u _ e => e.lets
  | .b _ x y => x.lets + y.lets
theorem Ex.nx (e : Ex) : e.av.nx = true := by cases e <;> rfl
/-! [f(x) for x in ..] over one or two items -/
theorem lc_seq {f : DI} {g : DG} {te : DE} {vs : List Nat} {s : Sl} {h h1 : Hep} {src : Src} {x y : AV} {s1 : Sl} {h2 : Hep} (ef : f s h = .ok src h1) (hl : src.len h1 = 1) (hs : ∀ i g, Fr [] h1 g → src.next i g = some ([x] : List AV)[i]?)
    (eg : g x (wipeS s vs) = some s1) (et : te s1 (h1 ++ [AO.lst []]) = .ok y h2) (fr : Fr [] (h1 ++ [AO.lst []]) h2) :
    ∃ h', dLc f g dYes te vs s h = .ok (.ref h1.length) h' ∧ Fr [] h1 h' ∧ Fr [h1.length] h2 h' ∧ h'[h1.length]? = some (.lst [y]) := by
  have f1 : Fr [] h1 (h1 ++ [AO.lst []]) := Fr.app
  have a0 : (h1 ++ [AO.lst []])[h1.length]? = some (.lst []) := at_last
  have f12 := f1.trans fr
  have F1 : Fr [h1.length] h2 (h2.set h1.length (.lst [y])) := Fr.set (by simp)
  have F01 : Fr [] h1 (h2.set h1.length (.lst [y])) := f12.into F1 (by simp)
  obtain ⟨acc, h', e, I, a, _⟩ := lc_if (f := f) (src := src) (xs := [x]) (g := g) (tt := dYes) (te := te) (vs := vs) (s := s) (h := h) (h1 := h1)
    (fun i acc g => (i = 0 ∧ acc = [] ∧ g = h1 ++ [AO.lst []]) ∨ (i = 1 ∧ acc = [y] ∧ g = h2.set h1.length (.lst [y]))) ef hl (by simp)
    (fun i acc g hi => by
      rcases hi with ⟨_, _, rfl⟩ | ⟨_, _, rfl⟩
      · exact hs i _ f1
      · exact hs i _ F01) (.inl ⟨rfl, rfl, rfl⟩)
    (fun i acc g z hz hi ha => by
      rcases hi with ⟨rfl, rfl, rfl⟩ | ⟨rfl, rfl, rfl⟩
      · cases hz
        exact ⟨s1, eg, .inr ⟨_, y, h2, rfl, et, fr.at a0 (by simp), .inr ⟨rfl, rfl, rfl⟩⟩⟩
      · cases hz)
  rcases I with ⟨z, _⟩ | ⟨_, rfl, rfl⟩
  · cases z
  · exact ⟨_, e, F01, F1, a⟩
theorem lc_two {f : DI} {g : DG} {te : DE} {vs : List Nat} {s : Sl} {h h1 : Hep} {src : Src} {x x2 y y2 : AV} {s1 s2 : Sl} {h2 h3 : Hep} (ef : f s h = .ok src h1) (hl : src.len h1 = 2) (hs : ∀ i g, Fr [] h1 g → src.next i g = some ([x, x2] : List AV)[i]?)
    (eg : g x (wipeS s vs) = some s1) (et : te s1 (h1 ++ [AO.lst []]) = .ok y h2) (fr : Fr [] (h1 ++ [AO.lst []]) h2)
    (eg2 : g x2 (wipeS s vs) = some s2) (et2 : te s2 (h2.set h1.length (.lst [y])) = .ok y2 h3) (fr2 : Fr [] (h2.set h1.length (.lst [y])) h3) :
    ∃ h', dLc f g dYes te vs s h = .ok (.ref h1.length) h' ∧ Fr [] h1 h' ∧ Fr [h1.length] h3 h' ∧ h'[h1.length]? = some (.lst [y, y2]) := by
  have f1 : Fr [] h1 (h1 ++ [AO.lst []]) := Fr.app
  have a0 : (h1 ++ [AO.lst []])[h1.length]? = some (.lst []) := at_last
  have f12 := f1.trans fr
  have F1 : Fr [h1.length] h2 (h2.set h1.length (.lst [y])) := Fr.set (by simp)
  have F01 : Fr [] h1 (h2.set h1.length (.lst [y])) := f12.into F1 (by simp)
  have a1 : (h2.set h1.length (.lst [y]))[h1.length]? = some (.lst [y]) := List.getElem?_set_self (lt_of (fr.at a0 (by simp)))
  have F2 : Fr [h1.length] h3 (h3.set h1.length (.lst [y, y2])) := Fr.set (by simp)
  have F02 : Fr [] h1 (h3.set h1.length (.lst [y, y2])) := (F01.trans fr2).into F2 (by simp)
  obtain ⟨acc, h', e, I, a, _⟩ := lc_if (f := f) (src := src) (xs := [x, x2]) (g := g) (tt := dYes) (te := te) (vs := vs) (s := s) (h := h) (h1 := h1)
    (fun i acc g => (i = 0 ∧ acc = [] ∧ g = h1 ++ [AO.lst []]) ∨ (i = 1 ∧ acc = [y] ∧ g = h2.set h1.length (.lst [y])) ∨ (i = 2 ∧ acc = [y, y2] ∧ g = h3.set h1.length (.lst [y, y2]))) ef hl (by simp)
    (fun i acc g hi => by
      rcases hi with ⟨_, _, rfl⟩ | ⟨_, _, rfl⟩ | ⟨_, _, rfl⟩
      · exact hs i _ f1
      · exact hs i _ F01
      · exact hs i _ F02) (.inl ⟨rfl, rfl, rfl⟩)
    (fun i acc g z hz hi ha => by
      rcases hi with ⟨rfl, rfl, rfl⟩ | ⟨rfl, rfl, rfl⟩ | ⟨rfl, rfl, rfl⟩
      · cases hz
        exact ⟨s1, eg, .inr ⟨_, y, h2, rfl, et, fr.at a0 (by simp), .inr (.inl ⟨rfl, rfl, rfl⟩)⟩⟩
      · cases hz
        exact ⟨s2, eg2, .inr ⟨_, y2, h3, rfl, et2, fr2.at a1 (by simp), .inr (.inr ⟨rfl, rfl, rfl⟩)⟩⟩
      · cases hz)
  rcases I with ⟨z, _⟩ | ⟨z, _⟩ | ⟨_, rfl, rfl⟩
  · cases z
  · cases z
  · exact ⟨_, e, F02, F2, a⟩
theorem tup_src {f : DE} {s : Sl} {h h1 : Hep} {xs : List AV} (ef : f s h = .ok (.tup xs) h1) : dSrc f s h = .ok (.fix xs) h1 := by
  unfold dSrc
  rw [ef]
  rfl
theorem sl1t {a b : AV} {h : Hep} : sliceAV (.tup [a, b]) (some 1) none h = some (.tup [b], h) := rfl
theorem sl2t {a b c : AV} {h : Hep} : sliceAV (.tup [a, b, c]) (some 1) none h = some (.tup [b, c], h) := rfl
theorem isi_st (x : Str) (h : Hep) : isiL ct0 [.str x, .ty "str"] h = some (.bl true, h) := rfl
theorem isi_tp (xs : List AV) (h : Hep) : isiL ct0 [.tup xs, .ty "str"] h = some (.bl false, h) := rfl
theorem isi_tt (xs : List AV) (h : Hep) : isiL ct0 [.tup xs, .ty "tuple"] h = some (.bl true, h) := rfl
theorem sum1 {h : Hep} {n : Nat} {i : Int} (e : h[n]? = some (.lst [.int i])) : sumL [.ref n] h = some (.int i, h) := by
  simp [sumL, lstOf, e, intsOf]
theorem sum2 {h : Hep} {n : Nat} {i j : Int} (e : h[n]? = some (.lst [.int i, .int j])) : sumL [.ref n] h = some (.int (i + j), h) := by
  simp [sumL, lstOf, e, intsOf]
theorem letters_ok : ∀ (d : Nat) (e : Ex), e.dep ≤ d → ∀ h, ∃ h', f_letters_of_N d [e.av] h = .ok (.int (e.lets : Nat)) h' ∧ Fr [] h h'
  | 0, .l c, _, h => ⟨h, by simp -implicitDefEqProofs [f_letters_of_N, f_letters_of_0, p_letters_of_0, dFun, dStart, Ex.av, isi_st, Ex.lets], Fr.refl⟩
  | 0, .u p e, hd, h => by simp [Ex.dep] at hd
  | 0, .b g x y, hd, h => by simp [Ex.dep] at hd
  | d + 1, .l c, _, h => ⟨h, by simp -implicitDefEqProofs [f_letters_of_N, f_letters_of_P, p_letters_of_P, dFun, dStart, Ex.av, isi_st, Ex.lets], Fr.refl⟩
  | d + 1, .u p e, hd, h => by
    have en := e.nx
    obtain ⟨h1, e1, f1⟩ := letters_ok d e (by simp [Ex.dep] at hd; omega) (h ++ [AO.lst []])
    obtain ⟨h2, e2, f2, _, a2⟩ := lc_seq (f := dSrc (dSlc (dVar 0) (dPrt (dC (.int 1))) dNoP)) (g := dgN 1) (te := e_letters_of_P_1 (f_letters_of_N d)) (vs := [1]) (s := [some (.tup [.str (ust p), e.av]), none]) (h := h) (src := .fix [e.av]) (x := e.av) (y := .int (e.lets : Nat)) (s1 := [some (.tup [.str (ust p), e.av]), some e.av])
      (tup_src (by simp [sl1t])) rfl (fun i g _ => rfl) rfl (by simp [e_letters_of_P_1, en, e1]) f1
    refine ⟨h2, ?_, f2⟩
    simp -implicitDefEqProofs [f_letters_of_N, f_letters_of_P, p_letters_of_P, dFun, dStart, Ex.av, isi_tp, Ex.lets, e2, sum1 a2]
  | d + 1, .b g x y, hd, h => by
    have xn := x.nx
    have yn := y.nx
    obtain ⟨h1, e1, f1⟩ := letters_ok d x (by simp [Ex.dep] at hd; omega) (h ++ [AO.lst []])
    obtain ⟨h2, e2, f2⟩ := letters_ok d y (by simp [Ex.dep] at hd; omega) (h1.set h.length (.lst [.int (x.lets : Nat)]))
    obtain ⟨h3, e3, f3, _, a3⟩ := lc_two (f := dSrc (dSlc (dVar 0) (dPrt (dC (.int 1))) dNoP)) (g := dgN 1) (te := e_letters_of_P_1 (f_letters_of_N d)) (vs := [1]) (s := [some (.tup [.str g.st, x.av, y.av]), none]) (h := h) (src := .fix [x.av, y.av]) (x := x.av) (x2 := y.av) (y := .int (x.lets : Nat)) (y2 := .int (y.lets : Nat)) (s1 := [some (.tup [.str g.st, x.av, y.av]), some x.av]) (s2 := [some (.tup [.str g.st, x.av, y.av]), some y.av])
      (tup_src (by simp [sl2t])) rfl (fun i g _ => rfl) rfl (by simp [e_letters_of_P_1, xn, e1]) f1 rfl (by simp [e_letters_of_P_1, yn, e2]) f2
    refine ⟨h3, ?_, f3⟩
    simp -implicitDefEqProofs [f_letters_of_N, f_letters_of_P, p_letters_of_P, dFun, dStart, Ex.av, isi_tp, Ex.lets, e3, sum2 a3]
theorem lst_in (c : Bool) (h : Hep) : inAV (.str (lst c)) k_LETTERS_expressions h = some (.bl true, h) := by
  cases c <;> kernel_rfl
theorem ust_in (p : Bool) (h : Hep) : notInAV (.str (ust p)) k_ONE_SIDED h = some (.bl false, h) := by
  cases p <;> kernel_rfl
theorem sg_in (g : Sg) (h : Hep) : notInAV (.str g.st) k_TWO_SIDED h = some (.bl false, h) := by
  cases g <;> kernel_rfl
theorem len2t (a b : AV) (h : Hep) : lenL [.tup [a, b]] h = some (.int 2, h) := rfl
theorem len3t (a b c : AV) (h : Hep) : lenL [.tup [a, b, c]] h = some (.int 3, h) := rfl
theorem in23a (h : Hep) : notInAV (.int 2) (.tup [.int 2, .int 3]) h = some (.bl false, h) := by kernel_rfl
theorem in23b (h : Hep) : notInAV (.int 3) (.tup [.int 2, .int 3]) h = some (.bl false, h) := by kernel_rfl
theorem ix02 (a b : AV) (h : Hep) : idxAV (.tup [a, b]) (.int 0) h = some (a, h) := rfl
theorem ix03 (a b c : AV) (h : Hep) : idxAV (.tup [a, b, c]) (.int 0) h = some (a, h) := rfl
def Sg.isS : Sg → Bool
  | .s => true
  | _ => false
theorem all_1 {h : Hep} {n : Nat} (e : h[n]? = some (.lst [.bl true])) : allL [.ref n] h = some (.bl true, h) := by
  simp [allL, lstOf, e, blsOf]
theorem all_2 {h : Hep} {n : Nat} (e : h[n]? = some (.lst [.bl true, .bl true])) : allL [.ref n] h = some (.bl true, h) := by
  simp [allL, lstOf, e, blsOf]
theorem form_ok : ∀ (d : Nat) (e : Ex), e.dep ≤ d → ∀ h, ∃ h', f_has_form_N d [e.av, .int (d : Nat)] h = .ok (.bl true) h' ∧ Fr [] h h'
  | 0, .l c, _, h => ⟨h, by simp -implicitDefEqProofs [f_has_form_N, f_has_form_0, p_has_form_0, dFun, dStart, Ex.av, isi_st, lst_in], Fr.refl⟩
  | 0, .u p e, hd, h => by simp [Ex.dep] at hd
  | 0, .b g x y, hd, h => by simp [Ex.dep] at hd
  | d + 1, .l c, _, h => ⟨h, by simp -implicitDefEqProofs [f_has_form_N, f_has_form_P, p_has_form_P, dFun, dStart, Ex.av, isi_st, lst_in], Fr.refl⟩
  | d + 1, .u p e, hd, h => by
    have en := e.nx
    have a0 : (h ++ [AO.lst [e.av]])[h.length]? = some (.lst [e.av]) := at_last
    have f0 : Fr [] h (h ++ [AO.lst [e.av]]) := Fr.app
    generalize eg : h ++ [AO.lst [e.av]] = g0 at a0 f0
    obtain ⟨h1, e1, f1⟩ := form_ok d e (by simp [Ex.dep] at hd; omega) (g0 ++ [AO.lst []])
    obtain ⟨h2, e2, f2, _, a2⟩ := lc_seq (f := dSrc (dVar 3)) (g := dgN 4) (te := e_has_form_P_1 (f_has_form_N d)) (vs := [4]) (s := [some (.tup [.str (ust p), e.av]), some (.int ((d + 1 : Nat) : Int)), some (.str (ust p)), some (.ref h.length), none]) (h := g0) (src := .at h.length) (x := e.av) (y := .bl true) (s1 := [some (.tup [.str (ust p), e.av]), some (.int ((d + 1 : Nat) : Int)), some (.str (ust p)), some (.ref h.length), some e.av])
      (src_ref (n := h.length) rfl a0) (len_at a0) (fun i g f => next_at (f.at a0 (by simp))) rfl (by simp [e_has_form_P_1, en, e1]) f1
    refine ⟨h2, ?_, f0.trans f2⟩
    have ln := len_ref a0
    have a3 := all_1 a2
    have z : ¬ ((d : Int) + 1 = 0) := by omega
    push_cast at e2
    simp -implicitDefEqProofs [f_has_form_N, f_has_form_P, p_has_form_P, dFun, dStart, Ex.av, isi_tp, isi_tt, isi_st, len2t, in23a, ix02, z, mkT, eq_ii, mkL, SZ, tupOf, starS, eg, ln, ust_in, e2, a3]
  | d + 1, .b g x y, hd, h => by
    have xn := x.nx
    have yn := y.nx
    have a0 : (h ++ [AO.lst [x.av, y.av]])[h.length]? = some (.lst [x.av, y.av]) := at_last
    have f0 : Fr [] h (h ++ [AO.lst [x.av, y.av]]) := Fr.app
    generalize eg : h ++ [AO.lst [x.av, y.av]] = g0 at a0 f0
    obtain ⟨h1, e1, f1⟩ := form_ok d x (by simp [Ex.dep] at hd; omega) (g0 ++ [AO.lst []])
    obtain ⟨h2, e2, f2⟩ := form_ok d y (by simp [Ex.dep] at hd; omega) (h1.set g0.length (.lst [.bl true]))
    obtain ⟨h3, e3, f3, _, a3⟩ := lc_two (f := dSrc (dVar 3)) (g := dgN 4) (te := e_has_form_P_1 (f_has_form_N d)) (vs := [4]) (s := [some (.tup [.str g.st, x.av, y.av]), some (.int ((d + 1 : Nat) : Int)), some (.str g.st), some (.ref h.length), none]) (h := g0) (src := .at h.length) (x := x.av) (x2 := y.av) (y := .bl true) (y2 := .bl true)
      (s1 := [some (.tup [.str g.st, x.av, y.av]), some (.int ((d + 1 : Nat) : Int)), some (.str g.st), some (.ref h.length), some x.av]) (s2 := [some (.tup [.str g.st, x.av, y.av]), some (.int ((d + 1 : Nat) : Int)), some (.str g.st), some (.ref h.length), some y.av])
      (src_ref (n := h.length) rfl a0) (len_at a0) (fun i g f => next_at (f.at a0 (by simp))) rfl (by simp [e_has_form_P_1, xn, e1]) f1 rfl (by simp [e_has_form_P_1, yn, e2]) f2
    refine ⟨h3, ?_, f0.trans f3⟩
    have ln := len_ref a0
    have a4 := all_2 a3
    have z : ¬ ((d : Int) + 1 = 0) := by omega
    push_cast at e3
    simp -implicitDefEqProofs [f_has_form_N, f_has_form_P, p_has_form_P, dFun, dStart, Ex.av, isi_tp, isi_tt, isi_st, len3t, in23b, ix03, z, mkT, eq_ii, mkL, SZ, tupOf, starS, eg, ln, sg_in, e3, a4]
theorem isex_ok (e : Ex) (hd : e.dep ≤ 8) (hl : e.lets ≤ 10) (h : Hep) : ∃ h', f_is_expression [e.av] h = .ok (.bl true) h' ∧ Fr [] h h' := by
  have en := e.nx
  obtain ⟨h1, e1, f1⟩ := form_ok 8 e hd h
  obtain ⟨h2, e2, f2⟩ := letters_ok 8 e hd h1
  have e1 : f_has_form_N 8 [e.av, .int 8] h = .ok (.bl true) h1 := e1
  have l : (e.lets : Int) ≤ 10 := by omega
  exact ⟨h2, by simp -implicitDefEqProofs [f_is_expression, p_is_expression, dFun, dStart, en, e1, e2, l], f1.trans f2⟩
theorem need_ok (e : Ex) (hd : e.dep ≤ 8) (hl : e.lets ≤ 10) (h : Hep) : ∃ h', f_need_expression [e.av] h = .ok .non h' ∧ Fr [] h h' := by
  have en := e.nx
  obtain ⟨h1, e1, f1⟩ := isex_ok e hd hl h
  exact ⟨h1, by simp -implicitDefEqProofs [f_need_expression, p_need_expression, dFun, dStart, en, e1], f1⟩
/-! random expressions -/
def Wd_ : Nat → Nat
  | 0 => 1
  | d + 1 => 4 + 2 * Wd_ d
section
variable {h : Hep} {s k : Nat} {y : Int}
theorem ch_l (S : Sr h s y k) (hk : k < 90000) : ∃ m g1 g2 c, mkL [.str "c", .str "d"] h = some (.ref m, g1) ∧ f__law_choice [.ref s, .ref m] g1 = .ok (.str (lst c)) g2 ∧ Fr [s] h g2 ∧ Sr g2 s y (k + 1) := by
  have hs := S.lt
  obtain ⟨m, g1, e1, f1, lm, a1⟩ := mk_new [.str "c", .str "d"] h (by simp)
  obtain ⟨v, g2, mv, e2, f2, S2, _⟩ := choice_ok (S.fr f1 (Nat.le_refl _)) a1 (by omega) (by simp) (by simp) (by omega) (by decide +kernel)
  simp only [List.mem_cons, List.not_mem_nil, or_false] at mv
  rcases mv with rfl | rfl
  · exact ⟨m, g1, g2, true, e1, e2, f1.nil.trans f2, S2⟩
  · exact ⟨m, g1, g2, false, e1, e2, f1.nil.trans f2, S2⟩
theorem ch_u (S : Sr h s y k) (hk : k < 90000) : ∃ m g1 g2 p, mkL [.str "+", .str "-"] h = some (.ref m, g1) ∧ f__law_choice [.ref s, .ref m] g1 = .ok (.str (ust p)) g2 ∧ Fr [s] h g2 ∧ Sr g2 s y (k + 1) := by
  have hs := S.lt
  obtain ⟨m, g1, e1, f1, lm, a1⟩ := mk_new [.str "+", .str "-"] h (by simp)
  obtain ⟨v, g2, mv, e2, f2, S2, _⟩ := choice_ok (S.fr f1 (Nat.le_refl _)) a1 (by omega) (by simp) (by simp) (by omega) (by decide +kernel)
  simp only [List.mem_cons, List.not_mem_nil, or_false] at mv
  rcases mv with rfl | rfl
  · exact ⟨m, g1, g2, true, e1, e2, f1.nil.trans f2, S2⟩
  · exact ⟨m, g1, g2, false, e1, e2, f1.nil.trans f2, S2⟩
theorem ch_b (S : Sr h s y k) (hk : k < 90000) : ∃ m g1 g2 g, mkL [.str "+", .str "-", .str "|", .str "&"] h = some (.ref m, g1) ∧ f__law_choice [.ref s, .ref m] g1 = .ok (.str (Sg.st g)) g2 ∧ Fr [s] h g2 ∧ Sr g2 s y (k + 1) := by
  have hs := S.lt
  obtain ⟨m, g1, e1, f1, lm, a1⟩ := mk_new [.str "+", .str "-", .str "|", .str "&"] h (by simp)
  obtain ⟨v, g2, mv, e2, f2, S2, _⟩ := choice_ok (S.fr f1 (Nat.le_refl _)) a1 (by omega) (by simp) (by simp) (by omega) (by decide +kernel)
  simp only [List.mem_cons, List.not_mem_nil, or_false] at mv
  rcases mv with rfl | rfl | rfl | rfl
  · exact ⟨m, g1, g2, .a, e1, e2, f1.nil.trans f2, S2⟩
  · exact ⟨m, g1, g2, .s, e1, e2, f1.nil.trans f2, S2⟩
  · exact ⟨m, g1, g2, .o, e1, e2, f1.nil.trans f2, S2⟩
  · exact ⟨m, g1, g2, .n, e1, e2, f1.nil.trans f2, S2⟩
end
theorem expr_ok {s : Nat} {y : Int} : ∀ (d n : Nat) {h : Hep} {k : Nat}, 1 ≤ n → n ≤ 10 → Sr h s y k → k + Wd_ d ≤ 80000 →
    ∃ e h', f__law_expression_N d [.ref s, .int (n : Nat), .int (d : Nat)] h = .ok (Ex.av e) h' ∧ e.dep ≤ d ∧ e.lets ≤ n ∧ Fr [s] h h' ∧ Sr h' s y (k + Wd_ d)
  | 0, n, h, k, h1, h2, S, hk => by
    obtain ⟨m, g1, g2, c, e1, e2, f2, S2⟩ := ch_l S (by omega)
    have e1' : mkL [.str (Str.ofString "c"), .str (Str.ofString "d")] h = some (.ref m, g1) := e1
    refine ⟨.l c, g2, ?_, Nat.le_refl _, h1, f2, S2⟩
    simp -implicitDefEqProofs [f__law_expression_N, f__law_expression_0, p__law_expression_0, dFun, dStart, Ex.av, eq_ii, e1, e1', e2]
  | d + 1, n, h, k, h1, h2, S, hk => by
    have w1 : Wd_ (d + 1) = 4 + 2 * Wd_ d := rfl
    rw [w1] at hk ⊢
    have z : ¬ ((d : Int) + 1 = 0) := by omega
    have sd : (d : Int) + 1 - 1 = d := by omega
    -- what follows the first if
    have rest : ∀ (g : Hep) (k' : Nat), Sr g s y k' → k' ≤ k + 1 → Fr [s] h g → (n = 1 → ∃ b, dOr (dTst (dOp eqAV (dVar 2) (dC (.int 0)))) (dAnd (dTst (dOp eqAV (dVar 1) (dC (.int 1)))) (dTst (dOp gtAV (dCallC f__law_draw 2 0 2 [0, 1] [] (dCons (dVar 0) (dCons (dC (.int 4)) dNil)) dNil) (dC (.int 0))))) [some (.ref s), some (.int (n : Nat)), some (.int ((d + 1 : Nat) : Int)), none, none] h = .ok b g ∧ b = false) → (n ≠ 1 → h = g) →
        ∃ e h', f__law_expression_N (d + 1) [.ref s, .int (n : Nat), .int ((d + 1 : Nat) : Int)] h = .ok (Ex.av e) h' ∧ e.dep ≤ d + 1 ∧ e.lets ≤ n ∧ Fr [s] h h' ∧ Sr h' s y (k + (4 + 2 * Wd_ d)) := fun g k' S' hk' fg c1 c2 => by
      have cond : dOr (dTst (dOp eqAV (dVar 2) (dC (.int 0)))) (dAnd (dTst (dOp eqAV (dVar 1) (dC (.int 1)))) (dTst (dOp gtAV (dCallC f__law_draw 2 0 2 [0, 1] [] (dCons (dVar 0) (dCons (dC (.int 4)) dNil)) dNil) (dC (.int 0))))) [some (.ref s), some (.int (n : Nat)), some (.int ((d + 1 : Nat) : Int)), none, none] h = .ok false g := by
        by_cases c : n = 1
        · obtain ⟨b, e, rfl⟩ := c1 c
          exact e
        · have q := c2 c
          subst q
          have c' : ¬ ((n : Int) = 1) := by omega
          simp -implicitDefEqProofs [eq_ii, z, c']
      -- one-sided
      have one : ∀ (g2 : Hep) (k2 : Nat), Sr g2 s y k2 → k2 ≤ k' + 1 → Fr [s] g g2 → dOr (dTst (dOp eqAV (dVar 1) (dC (.int 1)))) (dTst (dOp eqAV (dCallC f__law_draw 2 0 2 [0, 1] [] (dCons (dVar 0) (dCons (dC (.int 5)) dNil)) dNil) (dC (.int 0)))) [some (.ref s), some (.int (n : Nat)), some (.int ((d + 1 : Nat) : Int)), none, none] g = .ok true g2 →
          ∃ e h', f__law_expression_N (d + 1) [.ref s, .int (n : Nat), .int ((d + 1 : Nat) : Int)] h = .ok (Ex.av e) h' ∧ e.dep ≤ d + 1 ∧ e.lets ≤ n ∧ Fr [s] h h' ∧ Sr h' s y (k + (4 + 2 * Wd_ d)) := fun g2 k2 S2 hk2 f2 cd => by
        obtain ⟨m, g3, g4, p, e3, e4, f4, S4⟩ := ch_u S2 (by omega)
        obtain ⟨e, g5, e5, hd, hl, f5, S5⟩ := expr_ok d n h1 h2 S4 (by omega)
        have en := e.nx
        have e3' : mkL [.str (Str.ofString "+"), .str (Str.ofString "-")] g2 = some (.ref m, g3) := e3
        refine ⟨.u p e, g5, ?_, by simp only [Ex.dep]; omega, hl, ((fg.trans f2).trans f4).trans f5, S5.fr Fr.refl (by omega)⟩
        push_cast at cond cd
        simp -implicitDefEqProofs [f__law_expression_N, f__law_expression_P, p__law_expression_P, dFun, dStart, Ex.av, cond, cd, e3, e3', e4, sd, e5, mkT, SZ, -xOr, -xTst]
      by_cases c : n = 1
      · refine one g k' S' (by omega) Fr.refl ?_
        have c' : ((n : Int) = 1) := by omega
        simp -implicitDefEqProofs [eq_ii, c']
      · have c' : ¬ ((n : Int) = 1) := by omega
        obtain ⟨w, g2, w0, w1', e2, f2, _, S2⟩ := draw_ok (m := 5) S' (by omega) (by omega) (by omega)
        by_cases q : w = 0
        · refine one g2 (k' + 1) S2 (by omega) f2 ?_
          simp -implicitDefEqProofs [eq_ii, c', e2, q]
        · have cd : dOr (dTst (dOp eqAV (dVar 1) (dC (.int 1)))) (dTst (dOp eqAV (dCallC f__law_draw 2 0 2 [0, 1] [] (dCons (dVar 0) (dCons (dC (.int 5)) dNil)) dNil) (dC (.int 0)))) [some (.ref s), some (.int (n : Nat)), some (.int ((d + 1 : Nat) : Int)), none, none] g = .ok false g2 := by
            simp -implicitDefEqProofs [eq_ii, c', e2, q]
          obtain ⟨v, g3, v0, v1, e3, f3, _, S3⟩ := draw_ok (m := (n : Int) - 1) S2 (by omega) (by omega) (by omega)
          obtain ⟨a, ha⟩ := Int.eq_ofNat_of_zero_le (show 0 ≤ 1 + v by omega)
          obtain ⟨x, g4, e4, xd, xl, f4, S4⟩ := expr_ok d a (by omega) (by omega) S3 (by omega)
          obtain ⟨m, g5, g6, g', e5, e6, f6, S6⟩ := ch_b S4 (by omega)
          obtain ⟨b, hb⟩ := Int.eq_ofNat_of_zero_le (show 0 ≤ (n : Int) - a by omega)
          obtain ⟨yy, g7, e7, yd, yl, f7, S7⟩ := expr_ok d b (by omega) (by omega) S6 (by omega)
          have xn := x.nx
          have yn := yy.nx
          have e5' : mkL [.str (Str.ofString "+"), .str (Str.ofString "-"), .str (Str.ofString "|"), .str (Str.ofString "&")] g4 = some (.ref m, g5) := e5
          refine ⟨.b g' x yy, g7, ?_, by simp only [Ex.dep]; omega, by simp only [Ex.lets]; omega, ((((fg.trans f2).trans f3).trans f4).trans f6).trans f7, S7.fr Fr.refl (by omega)⟩
          push_cast at cond cd
          simp -implicitDefEqProofs [f__law_expression_N, f__law_expression_P, p__law_expression_P, dFun, dStart, Ex.av, cond, cd, e3, ha, sd, e4, xn, e5, e5', e6, hb, e7, mkT, SZ, -xOr, -xTst]
    by_cases c : n = 1
    · have c' : ((n : Int) = 1) := by omega
      obtain ⟨w, g1, w0, w1', e1, f1, _, S1⟩ := draw_ok (m := 4) S (by omega) (by omega) (by omega)
      by_cases q : 0 < w
      · obtain ⟨m, g2, g3, cc, e2, e3, f3, S3⟩ := ch_l S1 (by omega)
        have e2' : mkL [.str (Str.ofString "c"), .str (Str.ofString "d")] g1 = some (.ref m, g2) := e2
        refine ⟨.l cc, g3, ?_, by simp [Ex.dep], h1, f1.trans f3, S3.fr Fr.refl (by omega)⟩
        simp -implicitDefEqProofs [f__law_expression_N, f__law_expression_P, p__law_expression_P, dFun, dStart, Ex.av, eq_ii, z, c', e1, q, e2, e2', e3]
      · refine rest g1 (k + 1) S1 (by omega) f1 (fun _ => ⟨false, ?_, rfl⟩) (fun h => absurd c h)
        simp -implicitDefEqProofs [eq_ii, z, c', e1, q]
    · exact rest h k S (by omega) Fr.refl (fun h => absurd h c) (fun _ => rfl)
/-! values that may be expressions -/
def Bs (h : Hep) (v : AV) : Prop := (∃ x : Str, v = .str x ∧ PyData.strOk x = true) ∨ v = .non ∨ (∃ b, v = .bl b) ∨ (∃ i, v = .int i) ∨ ∃ n xs, v = .ref n ∧ h[n]? = some (.lst xs)
def Tv (h : Hep) : Nat → AV → Prop
  | 0, v => Bs h v
  | d + 1, v => Bs h v ∨ ∃ xs, v = .tup xs ∧ xs.length ≤ 20 ∧ ∀ x ∈ xs, Tv h d x
theorem Bs.fr {h h' : Hep} {v : AV} (b : Bs h v) (f : Fr [] h h') : Bs h' v := by
  rcases b with b | b | b | b | ⟨n, xs, e, a⟩
  · exact .inl b
  · exact .inr (.inl b)
  · exact .inr (.inr (.inl b))
  · exact .inr (.inr (.inr (.inl b)))
  · exact .inr (.inr (.inr (.inr ⟨n, xs, e, f.at a (by simp)⟩)))
theorem Tv.fr {h h' : Hep} (f : Fr [] h h') : ∀ (d : Nat) {v : AV}, Tv h d v → Tv h' d v
  | 0, _, t => Bs.fr t f
  | _ + 1, _, .inl b => .inl (b.fr f)
  | d + 1, _, .inr ⟨xs, e, l, t⟩ => .inr ⟨xs, e, l, fun x hx => Tv.fr f d (t x hx)⟩
theorem Tv.cs {h : Hep} {v : AV} : ∀ {d : Nat}, Tv h d v → Bs h v ∨ ∃ d' xs, d = d' + 1 ∧ v = .tup xs ∧ xs.length ≤ 20 ∧ ∀ x ∈ xs, Tv h d' x
  | 0, t => .inl t
  | _ + 1, .inl b => .inl b
  | d + 1, .inr ⟨xs, e, l, t⟩ => .inr ⟨d, xs, rfl, e, l, t⟩
theorem Tv.up {h : Hep} : ∀ {d e : Nat} {v : AV}, Tv h d v → d ≤ e → Tv h e v
  | 0, 0, _, t, _ => t
  | 0, _ + 1, _, t, _ => .inl t
  | _ + 1, 0, _, _, l => by omega
  | _ + 1, _ + 1, _, .inl b, _ => .inl b
  | d + 1, e + 1, _, .inr ⟨xs, q, l, t⟩, hd => .inr ⟨xs, q, l, fun x hx => (t x hx).up (by omega)⟩
def isS : AV → Bool
  | .str _ => true
  | _ => false
def isT : AV → Bool
  | .tup _ => true
  | _ => false
theorem Bs.nt {h : Hep} {v : AV} (b : Bs h v) : isT v = false ∧ v.nx = true ∧ isiL ct0 [v, .ty "str"] h = some (.bl (isS v), h) ∧ isiL ct0 [v, .ty "tuple"] h = some (.bl false, h) := by
  rcases b with ⟨x, rfl, _⟩ | rfl | ⟨b, rfl⟩ | ⟨i, rfl⟩ | ⟨n, xs, rfl, a⟩
  · exact ⟨rfl, rfl, rfl, rfl⟩
  · exact ⟨rfl, rfl, rfl, rfl⟩
  · exact ⟨rfl, rfl, rfl, rfl⟩
  · exact ⟨rfl, rfl, rfl, rfl⟩
  · refine ⟨rfl, rfl, ?_, ?_⟩
    · simp [isiL, isiB, twOf, a, twO, isS]
      rfl
    · simp [isiL, isiB, twOf, a, twO]
      rfl
theorem Tv.nx {h : Hep} {d : Nat} {v : AV} (t : Tv h d v) : v.nx = true := by
  rcases t.cs with b | ⟨_, xs, _, rfl, _⟩
  · exact b.nt.2.1
  · rfl
theorem Tv.st {h : Hep} {d : Nat} {v : AV} (t : Tv h d v) : isiL ct0 [v, .ty "str"] h = some (.bl (isS v), h) := by
  rcases t.cs with b | ⟨_, xs, _, rfl, _⟩
  · exact b.nt.2.2.1
  · rfl
theorem Tv.tt {h : Hep} {d : Nat} {v : AV} (t : Tv h d v) : isiL ct0 [v, .ty "tuple"] h = some (.bl (isT v), h) := by
  rcases t.cs with b | ⟨_, xs, _, rfl, _⟩
  · rw [b.nt.1]
    exact b.nt.2.2.2
  · rfl
theorem isS_str {v : AV} (h : isS v = true) : ∃ x, v = .str x := by
  cases v <;> first | exact ⟨_, rfl⟩ | cases h
/-! the form, to a depth -/
def isLt (x : Str) : Bool := L2.inV (.str x) [.str "c", .str "d"]
def usg (x : Str) : Bool := L2.inV (.str x) [.str "+", .str "-"]
def bs (x : Str) : Bool := L2.inV (.str x) [.str "+", .str "-", .str "|", .str "&"]
def hf : Nat → AV → Bool
  | 0, v => (match v with
    | .str x => isLt x
    | _ => false)
  | d + 1, v => (match v with
    | .str x => isLt x
    | .tup [.str s, a] => usg s && hf d a
    | .tup [.str s, a, b] => bs s && (hf d a && hf d b)
    | _ => false)
theorem lt_in (x : Str) (h : Hep) : inAV (.str x) (.tup [.str "c", .str "d"]) h = some (.bl (isLt x), h) := by
  simp [inAV, inB, flatA, toV0, isLt]
theorem us_in (x : Str) (h : Hep) : notInAV (.str x) (.tup [.str "+", .str "-"]) h = some (.bl (!usg x), h) := by
  simp [notInAV, inB, flatA, toV0, usg]
theorem bs_in (x : Str) (h : Hep) : notInAV (.str x) (.tup [.str "+", .str "-", .str "|", .str "&"]) h = some (.bl (!bs x), h) := by
  simp [notInAV, inB, flatA, toV0, bs]
theorem lt_inv {x : Str} (h : isLt x = true) : ∃ c, x = lst c := by
  simp only [isLt, L2.inV, List.any_cons, List.any_nil, Bool.or_false, Bool.or_eq_true, L2.eqV, beq_iff_eq] at h
  rcases h with h | h
  · exact ⟨true, h.symm⟩
  · exact ⟨false, h.symm⟩
theorem us_inv {x : Str} (h : usg x = true) : ∃ p, x = ust p := by
  simp only [usg, L2.inV, List.any_cons, List.any_nil, Bool.or_false, Bool.or_eq_true, L2.eqV, beq_iff_eq] at h
  rcases h with h | h
  · exact ⟨true, h.symm⟩
  · exact ⟨false, h.symm⟩
theorem bs_inv {x : Str} (h : bs x = true) : ∃ g, x = Sg.st g := by
  simp only [bs, L2.inV, List.any_cons, List.any_nil, Bool.or_false, Bool.or_eq_true, L2.eqV, beq_iff_eq] at h
  rcases h with h | h | h | h
  · exact ⟨.a, h.symm⟩
  · exact ⟨.s, h.symm⟩
  · exact ⟨.o, h.symm⟩
  · exact ⟨.n, h.symm⟩
theorem lt_of1 (c : Bool) : isLt (lst c) = true := by cases c <;> decide +kernel
theorem us_of1 (c : Bool) : usg (ust c) = true := by cases c <;> decide +kernel
theorem bs_of1 (g : Sg) : bs g.st = true := by cases g <;> decide +kernel
theorem hf_inv : ∀ {d : Nat} {v : AV}, hf d v = true → ∃ e : Ex, v = e.av ∧ e.dep ≤ d
  | 0, v, h => by
    unfold hf at h
    split at h
    · obtain ⟨c, rfl⟩ := lt_inv h
      exact ⟨.l c, rfl, Nat.le_refl _⟩
    · cases h
  | d + 1, v, h => by
    unfold hf at h
    split at h
    · obtain ⟨c, rfl⟩ := lt_inv h
      exact ⟨.l c, rfl, Nat.zero_le _⟩
    · rw [Bool.and_eq_true] at h
      obtain ⟨p, rfl⟩ := us_inv h.1
      obtain ⟨e, rfl, hd⟩ := hf_inv h.2
      exact ⟨.u p e, rfl, by simp only [Ex.dep]; omega⟩
    · rw [Bool.and_eq_true, Bool.and_eq_true] at h
      obtain ⟨g, rfl⟩ := bs_inv h.1
      obtain ⟨e, rfl, hd⟩ := hf_inv h.2.1
      obtain ⟨e2, rfl, hd2⟩ := hf_inv h.2.2
      exact ⟨.b g e e2, rfl, by simp only [Ex.dep]; omega⟩
    · cases h
theorem hf_of : ∀ {d : Nat} {e : Ex}, e.dep ≤ d → hf d e.av = true
  | 0, .l c, _ => lt_of1 c
  | 0, .u p e, hd => by simp [Ex.dep] at hd
  | 0, .b g x y, hd => by simp [Ex.dep] at hd
  | d + 1, .l c, _ => lt_of1 c
  | d + 1, .u p e, hd => by
    have := hf_of (d := d) (e := e) (by simp [Ex.dep] at hd; omega)
    show (usg (ust p) && hf d e.av) = true
    rw [us_of1, this]
    rfl
  | d + 1, .b g x y, hd => by
    have h1 := hf_of (d := d) (e := x) (by simp [Ex.dep] at hd; omega)
    have h2 := hf_of (d := d) (e := y) (by simp [Ex.dep] at hd; omega)
    show (bs g.st && (hf d x.av && hf d y.av)) = true
    rw [bs_of1, h1, h2]
    rfl
theorem Ex.av_inj : ∀ {e f : Ex}, e.av = f.av → e = f
  | .l c, .l d, h => by
    cases c <;> cases d <;> first | rfl | (simp [Ex.av, lst] at h; exact absurd h (by decide +kernel))
  | .l c, .u p f, h => by cases h
  | .l c, .b g x y, h => by cases h
  | .u p e, .l c, h => by cases h
  | .u p e, .u q f, h => by
    simp only [Ex.av, AV.tup.injEq, List.cons.injEq, AV.str.injEq, and_true] at h
    rw [Ex.av_inj h.2]
    cases p <;> cases q <;> first | rfl | exact absurd h.1 (by decide +kernel)
  | .u p e, .b g x y, h => by
    simp [Ex.av] at h
  | .b g x y, .l c, h => by cases h
  | .b g x y, .u q f, h => by
    simp [Ex.av] at h
  | .b g x y, .b g' x' y', h => by
    simp only [Ex.av, AV.tup.injEq, List.cons.injEq, AV.str.injEq, and_true] at h
    rw [Ex.av_inj h.2.1, Ex.av_inj h.2.2]
    cases g <;> cases g' <;> first | rfl | exact absurd h.1 (by decide +kernel)
theorem len_tup {xs : List AV} (h : Hep) (l : xs.length ≤ 20) : lenL [.tup xs] h = some (.int (xs.length : Nat), h) := by
  have q : xs.length ≤ 1000000 := by omega
  simp [lenL, lenA, q]
theorem in23n (n : Int) (h : Hep) : notInAV (.int n) (.tup [.int 2, .int 3]) h = some (.bl (!(n == 2 || n == 3)), h) := by
  simp only [notInAV, inB, flatA, List.all_cons, List.all_nil, Bool.and_true, and_self, if_true, Option.map_some, toV0, List.map_cons, List.map_nil, L2.inV, List.any_cons, List.any_nil, Bool.or_false, L2.eqV]
  by_cases c : n = 2
  · subst c
    rfl
  · by_cases c2 : n = 3
    · subst c2
      rfl
    · have c1' : ¬ (2 : Int) = n := fun z => c z.symm
      have c2' : ¬ (3 : Int) = n := fun z => c2 z.symm
      have b1 : ((2 : Int) == n) = false := by simpa using c1'
      have b2 : ((3 : Int) == n) = false := by simpa using c2'
      have b3 : (n == 2) = false := by simpa using c
      have b4 : (n == 3) = false := by simpa using c2
      rw [b1, b2, b3, b4]
theorem all_b1 {h : Hep} {n : Nat} {b : Bool} (e : h[n]? = some (.lst [.bl b])) : allL [.ref n] h = some (.bl b, h) := by
  simp [allL, lstOf, e, blsOf]
theorem all_b2 {h : Hep} {n : Nat} {b c : Bool} (e : h[n]? = some (.lst [.bl b, .bl c])) : allL [.ref n] h = some (.bl (b && c), h) := by
  simp [allL, lstOf, e, blsOf]
theorem hf_base {h : Hep} {v : AV} (b : Bs h v) (hs : isS v = false) : ∀ d, hf d v = false := by
  rcases b with ⟨x, rfl, _⟩ | rfl | ⟨b, rfl⟩ | ⟨i, rfl⟩ | ⟨n, xs, rfl, a⟩
  · cases hs
  all_goals exact fun d => by cases d <;> rfl
theorem hf_len {xs : List AV} (d : Nat) (l : ¬ (xs.length = 2 ∨ xs.length = 3)) : hf d (.tup xs) = false := by
  cases d with
  | zero => rfl
  | succ d =>
    match xs, l with
    | [], _ => rfl
    | [a], _ => cases a <;> rfl
    | [a, b], l => simp at l
    | [a, b, c], l => simp at l
    | a :: b :: c :: e :: r, _ => cases a <;> rfl
theorem form_any : ∀ (d : Nat) {D : Nat} {v : AV} {h : Hep}, Tv h D v → ∃ h', f_has_form_N d [v, .int (d : Nat)] h = .ok (.bl (hf d v)) h' ∧ Fr [] h h'
  | 0, D, v, h, t => by
    have vn := t.nx
    have st := t.st
    have tt := t.tt
    rcases t.cs with b | ⟨D', xs, rfl, rfl, l, tx⟩
    · have nt := b.nt.1
      by_cases c : isS v = true
      · obtain ⟨x, rfl⟩ := isS_str c
        exact ⟨h, by simp -implicitDefEqProofs [f_has_form_N, f_has_form_0, p_has_form_0, dFun, dStart, isi_st, k_LETTERS_expressions, lt_in, hf], Fr.refl⟩
      · have c : isS v = false := by simpa using c
        rw [c] at st
        rw [nt] at tt
        rw [hf_base b c]
        exact ⟨h, by simp -implicitDefEqProofs [f_has_form_N, f_has_form_0, p_has_form_0, dFun, dStart, vn, st, tt], Fr.refl⟩
    · by_cases c : xs.length = 2 ∨ xs.length = 3
      · have fin : ∀ (a : AV), isiL ct0 [a, .ty "str"] h = some (.bl (isS a), h) → idxAV (.tup xs) (.int 0) h = some (a, h) → ∃ h', f_has_form_N 0 [.tup xs, .int ((0 : Nat) : Int)] h = .ok (.bl (hf 0 (.tup xs))) h' ∧ Fr [] h h' := fun a ha ix => by
          have ln := len_tup h l
          have i3 := in23n (xs.length : Nat) h
          have q : ((xs.length : Int) == 2 || (xs.length : Int) == 3) = true := by
            rcases c with c | c <;> rw [c] <;> rfl
          rw [q] at i3
          refine ⟨h, ?_, Fr.refl⟩
          show _ = R.ok (AV.bl false) h
          cases z : isS a <;> simp -implicitDefEqProofs [f_has_form_N, f_has_form_0, p_has_form_0, dFun, dStart, isi_tp, isi_tt, ln, i3, ix, ha, z, mkT, SZ, eq_ii]
        match xs, c, tx, fin with
        | [a, b], _, tx, fin => exact fin a (tx a (by simp)).st rfl
        | [a, b, e], _, tx, fin => exact fin a (tx a (by simp)).st rfl
      · have ln := len_tup h l
        have i3 := in23n (xs.length : Nat) h
        have q : ((xs.length : Int) == 2 || (xs.length : Int) == 3) = false := by
          have a1 : ¬ ((xs.length : Int) = 2) := by omega
          have a2 : ¬ ((xs.length : Int) = 3) := by omega
          simp [a1, a2]
        rw [q] at i3
        exact ⟨h, by simp -implicitDefEqProofs [f_has_form_N, f_has_form_0, p_has_form_0, dFun, dStart, isi_tp, isi_tt, ln, i3, mkT, SZ]; rfl, Fr.refl⟩
  | d + 1, D, v, h, t => by
    have vn := t.nx
    have st := t.st
    have tt := t.tt
    rcases t.cs with b | ⟨D', xs, rfl, rfl, l, tx⟩
    · have nt := b.nt.1
      by_cases c : isS v = true
      · obtain ⟨x, rfl⟩ := isS_str c
        exact ⟨h, by simp -implicitDefEqProofs [f_has_form_N, f_has_form_P, p_has_form_P, dFun, dStart, isi_st, k_LETTERS_expressions, lt_in, hf], Fr.refl⟩
      · have c : isS v = false := by simpa using c
        rw [c] at st
        rw [nt] at tt
        rw [hf_base b c]
        exact ⟨h, by simp -implicitDefEqProofs [f_has_form_N, f_has_form_P, p_has_form_P, dFun, dStart, vn, st, tt], Fr.refl⟩
    · have z : ¬ ((d : Int) + 1 = 0) := by omega
      by_cases c : xs.length = 2 ∨ xs.length = 3
      · match xs, c, tx with
        | [a, b], _, tx =>
          have ta := tx a (by simp)
          have tb := tx b (by simp)
          have an := ta.nx
          have bn := tb.nx
          have sa := ta.st
          cases q : isS a with
          | false =>
            rw [q] at sa
            have e : hf (d + 1) (.tup [a, b]) = false := by cases a <;> first | rfl | cases q
            rw [e]
            exact ⟨h, by simp -implicitDefEqProofs [f_has_form_N, f_has_form_P, p_has_form_P, dFun, dStart, isi_tp, isi_tt, len2t, in23a, ix02, sa, mkT, SZ], Fr.refl⟩
          | true =>
            obtain ⟨s, rfl⟩ := isS_str q
            show ∃ h', _ = R.ok (AV.bl (usg s && hf d b)) h' ∧ _
            have a0 : (h ++ [AO.lst [b]])[h.length]? = some (.lst [b]) := at_last
            have f0 : Fr [] h (h ++ [AO.lst [b]]) := Fr.app
            generalize eg : h ++ [AO.lst [b]] = g0 at a0 f0
            have ln := len_ref a0
            cases hu : usg s with
            | false =>
              have ui := us_in s g0
              rw [hu] at ui
              refine ⟨g0, ?_, f0⟩
              simp -implicitDefEqProofs [f_has_form_N, f_has_form_P, p_has_form_P, dFun, dStart, isi_tp, isi_tt, isi_st, len2t, in23a, ix02, z, mkT, eq_ii, mkL, SZ, tupOf, starS, eg, ln, k_ONE_SIDED, ui, bn]
            | true =>
              have ui := us_in s g0
              rw [hu] at ui
              obtain ⟨h1, e1, f1⟩ := form_any d (tb.fr (f0.trans Fr.app : Fr [] h (g0 ++ [AO.lst []])))
              obtain ⟨h2, e2, f2, _, a2⟩ := lc_seq (f := dSrc (dVar 3)) (g := dgN 4) (te := e_has_form_P_1 (f_has_form_N d)) (vs := [4]) (s := [some (.tup [.str s, b]), some (.int ((d + 1 : Nat) : Int)), some (.str s), some (.ref h.length), none]) (h := g0) (src := .at h.length) (x := b) (y := .bl (hf d b)) (s1 := [some (.tup [.str s, b]), some (.int ((d + 1 : Nat) : Int)), some (.str s), some (.ref h.length), some b])
                (src_ref (n := h.length) rfl a0) (len_at a0) (fun i g f => next_at (f.at a0 (by simp))) rfl (by simp [e_has_form_P_1, bn, e1]) f1
              refine ⟨h2, ?_, f0.trans f2⟩
              have a3 := all_b1 a2
              push_cast at e2
              simp -implicitDefEqProofs [f_has_form_N, f_has_form_P, p_has_form_P, dFun, dStart, isi_tp, isi_tt, isi_st, len2t, in23a, ix02, z, mkT, eq_ii, mkL, SZ, tupOf, starS, eg, ln, k_ONE_SIDED, ui, e2, a3, bn]
        | [a, b, k], _, tx =>
          have ta := tx a (by simp)
          have tb := tx b (by simp)
          have tk := tx k (by simp)
          have bn := tb.nx
          have kn := tk.nx
          have sa := ta.st
          cases q : isS a with
          | false =>
            rw [q] at sa
            have e : hf (d + 1) (.tup [a, b, k]) = false := by cases a <;> first | rfl | cases q
            rw [e]
            exact ⟨h, by simp -implicitDefEqProofs [f_has_form_N, f_has_form_P, p_has_form_P, dFun, dStart, isi_tp, isi_tt, len3t, in23b, ix03, sa, mkT, SZ], Fr.refl⟩
          | true =>
            obtain ⟨s, rfl⟩ := isS_str q
            show ∃ h', _ = R.ok (AV.bl (bs s && (hf d b && hf d k))) h' ∧ _
            have a0 : (h ++ [AO.lst [b, k]])[h.length]? = some (.lst [b, k]) := at_last
            have f0 : Fr [] h (h ++ [AO.lst [b, k]]) := Fr.app
            generalize eg : h ++ [AO.lst [b, k]] = g0 at a0 f0
            have ln := len_ref a0
            cases hu : bs s with
            | false =>
              have ui := bs_in s g0
              rw [hu] at ui
              refine ⟨g0, ?_, f0⟩
              simp -implicitDefEqProofs [f_has_form_N, f_has_form_P, p_has_form_P, dFun, dStart, isi_tp, isi_tt, isi_st, len3t, in23b, ix03, z, mkT, eq_ii, mkL, SZ, tupOf, starS, eg, ln, k_TWO_SIDED, ui, bn, kn]
            | true =>
              have ui := bs_in s g0
              rw [hu] at ui
              obtain ⟨h1, e1, f1⟩ := form_any d (tb.fr (f0.trans Fr.app : Fr [] h (g0 ++ [AO.lst []])))
              have f01 : Fr [] h (h1.set g0.length (.lst [.bl (hf d b)])) := f0.trans ((Fr.app.trans f1).into (Fr.set (by simp) : Fr [g0.length] h1 (h1.set g0.length (.lst [.bl (hf d b)]))) (by simp))
              obtain ⟨h2, e2, f2⟩ := form_any d (tk.fr f01)
              obtain ⟨h3, e3, f3, _, a3⟩ := lc_two (f := dSrc (dVar 3)) (g := dgN 4) (te := e_has_form_P_1 (f_has_form_N d)) (vs := [4]) (s := [some (.tup [.str s, b, k]), some (.int ((d + 1 : Nat) : Int)), some (.str s), some (.ref h.length), none]) (h := g0) (src := .at h.length) (x := b) (x2 := k) (y := .bl (hf d b)) (y2 := .bl (hf d k))
                (s1 := [some (.tup [.str s, b, k]), some (.int ((d + 1 : Nat) : Int)), some (.str s), some (.ref h.length), some b]) (s2 := [some (.tup [.str s, b, k]), some (.int ((d + 1 : Nat) : Int)), some (.str s), some (.ref h.length), some k])
                (src_ref (n := h.length) rfl a0) (len_at a0) (fun i g f => next_at (f.at a0 (by simp))) rfl (by simp [e_has_form_P_1, bn, e1]) f1 rfl (by simp [e_has_form_P_1, kn, e2]) f2
              refine ⟨h3, ?_, f0.trans f3⟩
              have a4 := all_b2 a3
              push_cast at e3
              simp -implicitDefEqProofs [f_has_form_N, f_has_form_P, p_has_form_P, dFun, dStart, isi_tp, isi_tt, isi_st, len3t, in23b, ix03, z, mkT, eq_ii, mkL, SZ, tupOf, starS, eg, ln, k_TWO_SIDED, ui, e3, a4, bn, kn]
      · have ln := len_tup h l
        have i3 := in23n (xs.length : Nat) h
        have q : ((xs.length : Int) == 2 || (xs.length : Int) == 3) = false := by
          have a1 : ¬ ((xs.length : Int) = 2) := by omega
          have a2 : ¬ ((xs.length : Int) = 3) := by omega
          simp [a1, a2]
        rw [q] at i3
        rw [hf_len _ c]
        exact ⟨h, by simp -implicitDefEqProofs [f_has_form_N, f_has_form_P, p_has_form_P, dFun, dStart, isi_tp, isi_tt, ln, i3, mkT, SZ], Fr.refl⟩
theorem shp {d : PyData} (o : DOk d) : SeqAt.shaped d = true := by
  unfold SeqAt.shaped
  rw [o.1, decide_eq_true (by have := o.2; omega)]
  rfl
theorem us_ref {h : Hep} {m : Nat} {x : Str} (e : h[m]? = some (.lst [.str "+", .str "-"])) (hx : PyData.strOk x = true) : notInAV (.str x) (.ref m) h = some (.bl (!usg x), h) := by
  have t1 : toD DD h (.str x) = some (.str x) := rfl
  have t2 : [AV.str "+", .str "-"].mapM (toD DD h) = some [.str "+", .str "-"] := rfl
  have s2 : SeqAt.shaped (.list [.str "+", .str "-"]) = true := by decide +kernel
  unfold notInAV inB
  simp only [e, t1, t2]
  rw [if_pos ⟨shp (dOk_str hx), s2⟩]
  simp [PyData.eqv, usg, L2.inV, L2.eqV]
theorem bs_ref {h : Hep} {m : Nat} {x : Str} (e : h[m]? = some (.lst [.str "+", .str "-", .str "|", .str "&"])) (hx : PyData.strOk x = true) : notInAV (.str x) (.ref m) h = some (.bl (!bs x), h) := by
  have t1 : toD DD h (.str x) = some (.str x) := rfl
  have t2 : [AV.str "+", .str "-", .str "|", .str "&"].mapM (toD DD h) = some [.str "+", .str "-", .str "|", .str "&"] := rfl
  have s2 : SeqAt.shaped (.list [.str "+", .str "-", .str "|", .str "&"]) = true := by decide +kernel
  unfold notInAV inB
  simp only [e, t1, t2]
  rw [if_pos ⟨shp (dOk_str hx), s2⟩]
  simp [PyData.eqv, bs, L2.inV, L2.eqV]
theorem Tv.so {h : Hep} {d : Nat} {x : Str} (t : Tv h d (.str x)) : PyData.strOk x = true := by
  rcases t.cs with b | ⟨_, xs, _, e, _⟩
  · rcases b with ⟨y, e, o⟩ | e | ⟨b, e⟩ | ⟨i, e⟩ | ⟨n, xs, e, a⟩
    · cases e
      exact o
    all_goals cases e
  · cases e
def sg4 : List AV := [.str "+", .str "-", .str "|", .str "&"]
/-- ["+", "-", "|", "&"][:2] and [:4] -/
theorem cut24 (h : Hep) (k : Nat) : ∃ n g1 m g2, mkL [.str "+", .str "-", .str "|", .str "&"] h = some (.ref n, g1) ∧ sliceAV (.ref n) none (some (k : Int)) g1 = some (.ref m, g2) ∧ Fr [] h g2 ∧ g2[m]? = some (.lst (sg4.take k)) := by
  obtain ⟨n, g1, e1, f1, l1, a1⟩ := mk_new sg4 h (by simp [sg4])
  have c : cutA sg4 none (some (k : Int)) = sg4.take k := cut_head
  obtain ⟨m, g2, e2, f2, l2, a2⟩ := mk_new (sg4.take k) g1 (by simp [sg4]; omega)
  refine ⟨n, g1, m, g2, e1, ?_, f1.trans f2, a2⟩
  unfold sliceAV
  have t : tupOf (.ref n) = none := rfl
  have lo : lstOf g1 (.ref n) = some sg4 := by simp [lstOf, a1]
  rw [t]
  dsimp only
  rw [lo]
  dsimp only
  rw [c]
  exact e2
theorem mulOk22 : mulOk 2 2 = true := by decide +kernel
theorem mulOk23 : mulOk 2 3 = true := by decide +kernel
theorem lform_any : ∀ (d : Nat) {v : AV} {h : Hep}, Tv h d v → ∃ h', f__law_has_form_N d [v] h = .ok (.bl (hf d v)) h' ∧ Fr [] h h'
  | 0, v, h, t => by
    have vn := t.nx
    have st := t.st
    have tt := t.tt
    have b : Bs h v := t
    have nt := b.nt.1
    by_cases c : isS v = true
    · obtain ⟨x, rfl⟩ := isS_str c
      exact ⟨h, by simp -implicitDefEqProofs [f__law_has_form_N, f__law_has_form_0, p__law_has_form_0, dFun, dStart, isi_st, mkT, SZ, lt_in, hf], Fr.refl⟩
    · have c : isS v = false := by simpa using c
      rw [c] at st
      rw [nt] at tt
      rw [hf_base b c]
      exact ⟨h, by simp -implicitDefEqProofs [f__law_has_form_N, f__law_has_form_0, p__law_has_form_0, dFun, dStart, vn, st, tt], Fr.refl⟩
  | d + 1, v, h, t => by
    have vn := t.nx
    have st := t.st
    have tt := t.tt
    rcases t.cs with b | ⟨D', xs, eD, rfl, l, tx⟩
    · have nt := b.nt.1
      by_cases c : isS v = true
      · obtain ⟨x, rfl⟩ := isS_str c
        exact ⟨h, by simp -implicitDefEqProofs [f__law_has_form_N, f__law_has_form_P, p__law_has_form_P, dFun, dStart, isi_st, mkT, SZ, lt_in, hf], Fr.refl⟩
      · have c : isS v = false := by simpa using c
        rw [c] at st
        rw [nt] at tt
        rw [hf_base b c]
        exact ⟨h, by simp -implicitDefEqProofs [f__law_has_form_N, f__law_has_form_P, p__law_has_form_P, dFun, dStart, vn, st, tt], Fr.refl⟩
    · have eD : d = D' := by omega
      subst eD
      by_cases c : xs.length = 2 ∨ xs.length = 3
      · match xs, c, tx with
        | [a, b], _, tx =>
          have ta := tx a (by simp)
          have tb := tx b (by simp)
          have an := ta.nx
          have bn := tb.nx
          have sa := ta.st
          cases q : isS a with
          | false =>
            rw [q] at sa
            have e : hf (d + 1) (.tup [a, b]) = false := by cases a <;> first | rfl | cases q
            rw [e]
            exact ⟨h, by simp -implicitDefEqProofs [f__law_has_form_N, f__law_has_form_P, p__law_has_form_P, dFun, dStart, isi_tp, isi_tt, len2t, in23a, ix02, sa, mkT, SZ], Fr.refl⟩
          | true =>
            obtain ⟨s, rfl⟩ := isS_str q
            show ∃ h', _ = R.ok (AV.bl (usg s && hf d b)) h' ∧ _
            obtain ⟨n, g1, m, g2, e1, e2, f2, a2⟩ := cut24 h 2
            have e1' : mkL [.str (Str.ofString "+"), .str (Str.ofString "-"), .str (Str.ofString "|"), .str (Str.ofString "&")] h = some (.ref n, g1) := e1
            have ui := us_ref a2 ta.so
            have e2 : sliceAV (.ref n) none (some 2) g1 = some (.ref m, g2) := e2
            cases hu : usg s with
            | false =>
              rw [hu] at ui
              refine ⟨g2, ?_, f2⟩
              simp -implicitDefEqProofs [f__law_has_form_N, f__law_has_form_P, p__law_has_form_P, dFun, dStart, isi_tp, isi_tt, isi_st, len2t, in23a, ix02, mkT, SZ, e1, e1', mulOk22, mulOk23, e2, ui]
            | true =>
              rw [hu] at ui
              obtain ⟨h1, e3, f3⟩ := lform_any d (Tv.fr (f2.trans Fr.app : Fr [] h (g2 ++ [AO.lst []])) d tb)
              obtain ⟨h2, e4, f4, _, a4⟩ := lc_seq (f := dSrc (dSlc (dVar 0) (dPrt (dC (.int 1))) dNoP)) (g := dgN 1) (te := e__law_has_form_P_1 (f__law_has_form_N d)) (vs := [1]) (s := [some (.tup [.str s, b]), none]) (h := g2) (src := .fix [b]) (x := b) (y := .bl (hf d b)) (s1 := [some (.tup [.str s, b]), some b])
                (tup_src (by simp [sl1t])) rfl (fun i g _ => rfl) rfl (by simp [e__law_has_form_P_1, bn, e3]) f3
              refine ⟨h2, ?_, f2.trans f4⟩
              have a3 := all_b1 a4
              simp -implicitDefEqProofs [f__law_has_form_N, f__law_has_form_P, p__law_has_form_P, dFun, dStart, isi_tp, isi_tt, isi_st, len2t, in23a, ix02, mkT, SZ, e1, e1', mulOk22, mulOk23, e2, ui, e4, a3]
        | [a, b, k], _, tx =>
          have ta := tx a (by simp)
          have tb := tx b (by simp)
          have tk := tx k (by simp)
          have an := ta.nx
          have bn := tb.nx
          have kn := tk.nx
          have sa := ta.st
          cases q : isS a with
          | false =>
            rw [q] at sa
            have e : hf (d + 1) (.tup [a, b, k]) = false := by cases a <;> first | rfl | cases q
            rw [e]
            exact ⟨h, by simp -implicitDefEqProofs [f__law_has_form_N, f__law_has_form_P, p__law_has_form_P, dFun, dStart, isi_tp, isi_tt, len3t, in23b, ix03, sa, mkT, SZ], Fr.refl⟩
          | true =>
            obtain ⟨s, rfl⟩ := isS_str q
            show ∃ h', _ = R.ok (AV.bl (bs s && (hf d b && hf d k))) h' ∧ _
            obtain ⟨n, g1, m, g2, e1, e2, f2, a2⟩ := cut24 h 4
            have e1' : mkL [.str (Str.ofString "+"), .str (Str.ofString "-"), .str (Str.ofString "|"), .str (Str.ofString "&")] h = some (.ref n, g1) := e1
            have ui := bs_ref a2 ta.so
            have e2 : sliceAV (.ref n) none (some 4) g1 = some (.ref m, g2) := e2
            cases hu : bs s with
            | false =>
              rw [hu] at ui
              refine ⟨g2, ?_, f2⟩
              simp -implicitDefEqProofs [f__law_has_form_N, f__law_has_form_P, p__law_has_form_P, dFun, dStart, isi_tp, isi_tt, isi_st, len3t, in23b, ix03, mkT, SZ, e1, e1', mulOk22, mulOk23, e2, ui]
            | true =>
              rw [hu] at ui
              obtain ⟨h1, e3, f3⟩ := lform_any d (Tv.fr (f2.trans Fr.app : Fr [] h (g2 ++ [AO.lst []])) d tb)
              have f01 : Fr [] h (h1.set g2.length (.lst [.bl (hf d b)])) := f2.trans ((Fr.app.trans f3).into (Fr.set (by simp) : Fr [g2.length] h1 (h1.set g2.length (.lst [.bl (hf d b)]))) (by simp))
              obtain ⟨h2, e5, f5⟩ := lform_any d (Tv.fr f01 d tk)
              obtain ⟨h3, e4, f4, _, a4⟩ := lc_two (f := dSrc (dSlc (dVar 0) (dPrt (dC (.int 1))) dNoP)) (g := dgN 1) (te := e__law_has_form_P_1 (f__law_has_form_N d)) (vs := [1]) (s := [some (.tup [.str s, b, k]), none]) (h := g2) (src := .fix [b, k]) (x := b) (x2 := k) (y := .bl (hf d b)) (y2 := .bl (hf d k))
                (s1 := [some (.tup [.str s, b, k]), some b]) (s2 := [some (.tup [.str s, b, k]), some k])
                (tup_src (by simp [sl2t])) rfl (fun i g _ => rfl) rfl (by simp [e__law_has_form_P_1, bn, e3]) f3 rfl (by simp [e__law_has_form_P_1, kn, e5]) f5
              refine ⟨h3, ?_, f2.trans f4⟩
              have a3 := all_b2 a4
              simp -implicitDefEqProofs [f__law_has_form_N, f__law_has_form_P, p__law_has_form_P, dFun, dStart, isi_tp, isi_tt, isi_st, len3t, in23b, ix03, mkT, SZ, e1, e1', mulOk22, mulOk23, e2, ui, e4, a3]
      · have ln := len_tup h l
        have i3 := in23n (xs.length : Nat) h
        have q : ((xs.length : Int) == 2 || (xs.length : Int) == 3) = false := by
          have a1 : ¬ ((xs.length : Int) = 2) := by omega
          have a2 : ¬ ((xs.length : Int) = 3) := by omega
          simp [a1, a2]
        rw [q] at i3
        rw [hf_len _ c]
        exact ⟨h, by simp -implicitDefEqProofs [f__law_has_form_N, f__law_has_form_P, p__law_has_form_P, dFun, dStart, isi_tp, isi_tt, ln, i3, mkT, SZ], Fr.refl⟩
theorem lletters_ok : ∀ (d : Nat) (e : Ex), e.dep ≤ d → ∀ h, ∃ h', f__law_letters_N d [e.av] h = .ok (.int (e.lets : Nat)) h' ∧ Fr [] h h'
  | 0, .l c, _, h => ⟨h, by simp -implicitDefEqProofs [f__law_letters_N, f__law_letters_0, p__law_letters_0, dFun, dStart, Ex.av, isi_st, Ex.lets], Fr.refl⟩
  | 0, .u p e, hd, h => by simp [Ex.dep] at hd
  | 0, .b g x y, hd, h => by simp [Ex.dep] at hd
  | d + 1, .l c, _, h => ⟨h, by simp -implicitDefEqProofs [f__law_letters_N, f__law_letters_P, p__law_letters_P, dFun, dStart, Ex.av, isi_st, Ex.lets], Fr.refl⟩
  | d + 1, .u p e, hd, h => by
    have en := e.nx
    obtain ⟨h1, e1, f1⟩ := lletters_ok d e (by simp [Ex.dep] at hd; omega) (h ++ [AO.lst []])
    obtain ⟨h2, e2, f2, _, a2⟩ := lc_seq (f := dSrc (dSlc (dVar 0) (dPrt (dC (.int 1))) dNoP)) (g := dgN 1) (te := e__law_letters_P_1 (f__law_letters_N d)) (vs := [1]) (s := [some (.tup [.str (ust p), e.av]), none]) (h := h) (src := .fix [e.av]) (x := e.av) (y := .int (e.lets : Nat)) (s1 := [some (.tup [.str (ust p), e.av]), some e.av])
      (tup_src (by simp [sl1t])) rfl (fun i g _ => rfl) rfl (by simp [e__law_letters_P_1, en, e1]) f1
    refine ⟨h2, ?_, f2⟩
    simp -implicitDefEqProofs [f__law_letters_N, f__law_letters_P, p__law_letters_P, dFun, dStart, Ex.av, isi_tp, Ex.lets, e2, sum1 a2]
  | d + 1, .b g x y, hd, h => by
    have xn := x.nx
    have yn := y.nx
    obtain ⟨h1, e1, f1⟩ := lletters_ok d x (by simp [Ex.dep] at hd; omega) (h ++ [AO.lst []])
    obtain ⟨h2, e2, f2⟩ := lletters_ok d y (by simp [Ex.dep] at hd; omega) (h1.set h.length (.lst [.int (x.lets : Nat)]))
    obtain ⟨h3, e3, f3, _, a3⟩ := lc_two (f := dSrc (dSlc (dVar 0) (dPrt (dC (.int 1))) dNoP)) (g := dgN 1) (te := e__law_letters_P_1 (f__law_letters_N d)) (vs := [1]) (s := [some (.tup [.str g.st, x.av, y.av]), none]) (h := h) (src := .fix [x.av, y.av]) (x := x.av) (x2 := y.av) (y := .int (x.lets : Nat)) (y2 := .int (y.lets : Nat)) (s1 := [some (.tup [.str g.st, x.av, y.av]), some x.av]) (s2 := [some (.tup [.str g.st, x.av, y.av]), some y.av])
      (tup_src (by simp [sl2t])) rfl (fun i g _ => rfl) rfl (by simp [e__law_letters_P_1, xn, e1]) f1 rfl (by simp [e__law_letters_P_1, yn, e2]) f2
    refine ⟨h3, ?_, f3⟩
    simp -implicitDefEqProofs [f__law_letters_N, f__law_letters_P, p__law_letters_P, dFun, dStart, Ex.av, isi_tp, Ex.lets, e3, sum2 a3]
theorem max1 {h : Hep} {n : Nat} {i : Int} (e : h[n]? = some (.lst [.int i])) : maxLL [.ref n] h = some (.int i, h) := by
  have m : maxI [i] = some i := maxI_of (by simp) (by simp)
  simp [maxLL, lstAt, e, intsOf, m]
theorem max2 {h : Hep} {n : Nat} {i j : Int} (e : h[n]? = some (.lst [.int i, .int j])) : maxLL [.ref n] h = some (.int (max i j), h) := by
  have m : maxI [i, j] = some (max i j) := maxI_of (by
    rcases Int.le_total i j with c | c
    · rw [Int.max_eq_right c]
      simp
    · rw [Int.max_eq_left c]
      simp) (by
    intro y hy
    simp only [List.mem_cons, List.not_mem_nil, or_false] at hy
    rcases hy with rfl | rfl <;> omega)
  simp [maxLL, lstAt, e, intsOf, m]
theorem ldepth_ok : ∀ (d : Nat) (e : Ex), e.dep ≤ d → ∀ h, ∃ h', f__law_depth_N d [e.av] h = .ok (.int (e.dep : Nat)) h' ∧ Fr [] h h'
  | 0, .l c, _, h => ⟨h, by simp -implicitDefEqProofs [f__law_depth_N, f__law_depth_0, p__law_depth_0, dFun, dStart, Ex.av, isi_st, Ex.dep], Fr.refl⟩
  | 0, .u p e, hd, h => by simp [Ex.dep] at hd
  | 0, .b g x y, hd, h => by simp [Ex.dep] at hd
  | d + 1, .l c, _, h => ⟨h, by simp -implicitDefEqProofs [f__law_depth_N, f__law_depth_P, p__law_depth_P, dFun, dStart, Ex.av, isi_st, Ex.dep], Fr.refl⟩
  | d + 1, .u p e, hd, h => by
    have en := e.nx
    obtain ⟨h1, e1, f1⟩ := ldepth_ok d e (by simp [Ex.dep] at hd; omega) (h ++ [AO.lst []])
    obtain ⟨h2, e2, f2, _, a2⟩ := lc_seq (f := dSrc (dSlc (dVar 0) (dPrt (dC (.int 1))) dNoP)) (g := dgN 1) (te := e__law_depth_P_1 (f__law_depth_N d)) (vs := [1]) (s := [some (.tup [.str (ust p), e.av]), none]) (h := h) (src := .fix [e.av]) (x := e.av) (y := .int (e.dep : Nat)) (s1 := [some (.tup [.str (ust p), e.av]), some e.av])
      (tup_src (by simp [sl1t])) rfl (fun i g _ => rfl) rfl (by simp [e__law_depth_P_1, en, e1, intL]) f1
    refine ⟨h2, ?_, f2⟩
    simp -implicitDefEqProofs [f__law_depth_N, f__law_depth_P, p__law_depth_P, dFun, dStart, Ex.av, isi_tp, Ex.dep, e2, max1 a2]
    omega
  | d + 1, .b g x y, hd, h => by
    have xn := x.nx
    have yn := y.nx
    obtain ⟨h1, e1, f1⟩ := ldepth_ok d x (by simp [Ex.dep] at hd; omega) (h ++ [AO.lst []])
    obtain ⟨h2, e2, f2⟩ := ldepth_ok d y (by simp [Ex.dep] at hd; omega) (h1.set h.length (.lst [.int (x.dep : Nat)]))
    obtain ⟨h3, e3, f3, _, a3⟩ := lc_two (f := dSrc (dSlc (dVar 0) (dPrt (dC (.int 1))) dNoP)) (g := dgN 1) (te := e__law_depth_P_1 (f__law_depth_N d)) (vs := [1]) (s := [some (.tup [.str g.st, x.av, y.av]), none]) (h := h) (src := .fix [x.av, y.av]) (x := x.av) (x2 := y.av) (y := .int (x.dep : Nat)) (y2 := .int (y.dep : Nat)) (s1 := [some (.tup [.str g.st, x.av, y.av]), some x.av]) (s2 := [some (.tup [.str g.st, x.av, y.av]), some y.av])
      (tup_src (by simp [sl2t])) rfl (fun i g _ => rfl) rfl (by simp [e__law_depth_P_1, xn, e1, intL]) f1 rfl (by simp [e__law_depth_P_1, yn, e2, intL]) f2
    refine ⟨h3, ?_, f3⟩
    simp -implicitDefEqProofs [f__law_depth_N, f__law_depth_P, p__law_depth_P, dFun, dStart, Ex.av, isi_tp, Ex.dep, e3, max2 a3]
    omega
/-! what an expression is -/
def Isx (v : AV) : Prop := ∃ e : Ex, v = e.av ∧ e.dep ≤ 8 ∧ e.lets ≤ 10
theorem isex_any {h : Hep} {D : Nat} {v : AV} (t : Tv h D v) : ∃ b h', f_is_expression [v] h = .ok (.bl b) h' ∧ Fr [] h h' ∧ (b = true ↔ Isx v) := by
  have vn := t.nx
  obtain ⟨h1, e1, f1⟩ := form_any 8 t
  have e1 : f_has_form_N 8 [v, .int 8] h = .ok (.bl (hf 8 v)) h1 := e1
  cases q : hf 8 v with
  | false =>
    rw [q] at e1
    refine ⟨false, h1, by simp -implicitDefEqProofs [f_is_expression, p_is_expression, dFun, dStart, vn, e1], f1, (fun z => by cases z), fun ⟨e, ev, hd, _⟩ => ?_⟩
    rw [ev, hf_of hd] at q
    cases q
  | true =>
    rw [q] at e1
    obtain ⟨e, rfl, hd⟩ := hf_inv q
    obtain ⟨h2, e2, f2⟩ := letters_ok 8 e hd h1
    refine ⟨decide ((e.lets : Int) ≤ 10), h2, by simp -implicitDefEqProofs [f_is_expression, p_is_expression, dFun, dStart, vn, e1, e2], f1.trans f2, ?_⟩
    rw [decide_eq_true_iff]
    refine ⟨fun z => ⟨e, rfl, hd, by omega⟩, fun ⟨e', ev, _, z⟩ => ?_⟩
    rw [Ex.av_inj ev]
    omega
theorem need_no {h : Hep} {D : Nat} {v : AV} (t : Tv h D v) (n : ¬ Isx v) : ∃ h', f_need_expression [v] h = .exc 3 [] h' ∧ Fr [] h h' := by
  have vn := t.nx
  obtain ⟨b, h1, e1, f1, q⟩ := isex_any t
  cases b with
  | true => exact absurd (q.mp rfl) n
  | false => exact ⟨h1, by simp -implicitDefEqProofs [f_need_expression, p_need_expression, dFun, dStart, vn, e1], f1⟩
theorem err_ok {d : DE} {s : Sl} {h g : Hep} (e : d s h = .exc 3 [] g) : dLamC f__law_error d s h = .ok (.bl true) g := by
  show f__law_error (fun g => d s g) h = _
  simp -implicitDefEqProofs [f__law_error, dHlp, p__law_error, b__law_error_1, b__law_error_2, dAct, e, xt0, dIsO, isOK, dIsX, tyLook]
theorem cnt_nil (g : Hep) : ∃ m g', f_count_pairs [.tup []] g = .ok (.ref m) g' ∧ Fr [] g g' ∧ g'[m]? = some (.lst []) := by
  have r := lc_map (f := dSrc (dVar 1)) (te := e_count_pairs_1) (g := dgN 2) (vs := [2]) (s := [some (.tup []), some (.tup []), none]) (h := g) (h1 := g) (l := ([] : List AV)) id id (Sq.fix (by simp [dSrc])) (by simp) (fun x acc hx => by cases hx)
  have z : dIsLT ct0 "list" "tuple" (dVar 1) [some (.tup []), some (.tup []), none] g = .ok (.bl true) g := by
    simp [dIsLT, twOf, twO, isTK, TW.sub]
  have i1 : isiL ct0 [.tup [], .cls 0] g = some (.bl false, g) := rfl
  have al : allL [.ref g.length] (g ++ [AO.lst []]) = some (.bl true, g ++ [AO.lst []]) := by simp [allL, lstOf, blsOf]
  have r : dLc (dSrc (dVar 1)) (dgN 2) dYes e_count_pairs_1 [2] [some (.tup []), some (.tup []), none] g = .ok (.ref g.length) (g ++ [AO.lst []]) := r
  obtain ⟨m, g2, e2, f2, l2, a2⟩ := mk_new [] (g ++ [AO.lst []]) (by simp)
  have l1 : listL [.tup []] (g ++ [AO.lst []]) = some (.ref m, g2) := by
    rw [← e2]
    rfl
  exact ⟨m, g2, by simp -implicitDefEqProofs [f_count_pairs, dFun, dStart, p_count_pairs, i1, z, r, al, l1], Fr.app.trans f2, a2⟩
theorem cnt0 (h : Hep) : ∃ h', f_Counter_xinit [.ref h.length, .tup []] (h ++ [AO.ins 2 []]) = .ok .non h' ∧ Fr [] h h' := by
  obtain ⟨m, g, e1, f1, a1⟩ := cnt_nil (h ++ [AO.ins 2 []])
  obtain ⟨p, q, h', e2, f2, _⟩ := cnt_make (c := []) rfl e1 f1 a1 (by simp)
  exact ⟨h', e2, f2⟩
section
variable {h : Hep} {D : Nat} {v : AV}
theorem small_no (t : Tv h D v) (n : ¬ Isx v) : ∃ h', f_smallest [v] h = .exc 3 [] h' ∧ Fr [] h h' := by
  have vn := t.nx
  obtain ⟨b, h1, e1, f1, q⟩ := isex_any t
  cases b with
  | true => exact absurd (q.mp rfl) n
  | false => exact ⟨h1, by simp -implicitDefEqProofs [f_smallest, p_smallest, dFun, dStart, vn, e1], f1⟩
theorem small_big (e : Ex) (hd : e.dep ≤ 8) (hl : e.lets ≤ 10) (h4 : 4 < e.lets) (h : Hep) : ∃ h', f_smallest [e.av] h = .exc 3 [] h' ∧ Fr [] h h' := by
  have en := e.nx
  obtain ⟨h1, e1, f1⟩ := isex_ok e hd hl h
  obtain ⟨h2, e2, f2⟩ := letters_ok 8 e hd h1
  have l : (4 : Int) < (e.lets : Int) := by omega
  exact ⟨h2, by simp -implicitDefEqProofs [f_smallest, p_smallest, dFun, dStart, en, e1, e2, l], f1.trans f2⟩
theorem value_no (t : Tv h D v) (n : ¬ Isx v) (a b : Nat) : ∃ h', f_value [v, .ref a, .ref b] h = .exc 3 [] h' ∧ Fr [] h h' := by
  have vn := t.nx
  obtain ⟨h1, e1, f1⟩ := need_no t n
  exact ⟨h1, by simp -implicitDefEqProofs [f_value, p_value, dFun, dStart, vn, e1], f1⟩
theorem uneq_no1 (t : Tv h D v) (n : ¬ Isx v) : ∃ h', f_unequal [v, .non, .non] h = .exc 3 [] h' ∧ Fr [] h h' := by
  have vn := t.nx
  obtain ⟨h1, e1, f1⟩ := need_no t n
  exact ⟨h1, by simp -implicitDefEqProofs [f_unequal, p_unequal, dFun, dStart, vn, e1], f1⟩
theorem uneq_no2 (t : Tv h D v) (n : ¬ Isx v) (c : Bool) : ∃ h', f_unequal [.str (lst c), v, .non] h = .exc 3 [] h' ∧ Fr [] h h' := by
  have vn := t.nx
  obtain ⟨h1, e1, f1⟩ := need_ok (.l c) (by simp [Ex.dep]) (by simp [Ex.lets]) h
  have e1 : f_need_expression [.str (lst c)] h = .ok .non h1 := e1
  obtain ⟨h2, e2, f2⟩ := need_no (t.fr f1) n
  exact ⟨h2, by simp -implicitDefEqProofs [f_unequal, p_unequal, dFun, dStart, vn, e1, e2], f1.trans f2⟩
theorem dis_no (t : Tv h D v) (n : ¬ Isx v) : ∃ h', f_disordered [.str "d", v, .non] h = .exc 3 [] h' ∧ Fr [] h h' := by
  have vn := t.nx
  obtain ⟨h1, e1, f1⟩ := uneq_no2 t n false
  have e1 : f_unequal [.str "d", v, .non] h = .exc 3 [] h1 := e1
  exact ⟨h1, by simp -implicitDefEqProofs [f_disordered, p_disordered, dFun, dStart, vn, e1], f1⟩
/-! the five lambdas -/
variable {s : Sl} (hs : s[0]? = some (some v))
include hs
theorem la1 (t : Tv h D v) (n : ¬ Isx v) : ∃ h', dLamC f__law_error e__law_is_right_1 s h = .ok (.bl true) h' ∧ Fr [] h h' := by
  have vn := t.nx
  obtain ⟨h1, e1, f1⟩ := cnt0 h
  obtain ⟨h2, e2, f2⟩ := cnt0 h1
  have f := f1.trans f2
  obtain ⟨h3, e3, f3⟩ := value_no (t.fr f) n h.length h1.length
  exact ⟨h3, err_ok (by simp -implicitDefEqProofs [e__law_is_right_1, hs, vn, e1, e2, e3]), f.trans f3⟩
theorem la2 (t : Tv h D v) (n : ¬ Isx v) : ∃ h', dLamC f__law_error e__law_is_right_2 s h = .ok (.bl true) h' ∧ Fr [] h h' := by
  have vn := t.nx
  obtain ⟨h3, e3, f3⟩ := uneq_no1 t n
  exact ⟨h3, err_ok (by simp -implicitDefEqProofs [e__law_is_right_2, hs, vn, e3]), f3⟩
theorem la3 (t : Tv h D v) (n : ¬ Isx v) : ∃ h', dLamC f__law_error e__law_is_right_3 s h = .ok (.bl true) h' ∧ Fr [] h h' := by
  have vn := t.nx
  obtain ⟨h3, e3, f3⟩ := uneq_no2 t n true
  have e3 : f_unequal [.str "c", v, .non] h = .exc 3 [] h3 := e3
  exact ⟨h3, err_ok (by simp -implicitDefEqProofs [e__law_is_right_3, hs, vn, e3]), f3⟩
theorem la4 (t : Tv h D v) (n : ¬ Isx v) : ∃ h', dLamC f__law_error e__law_is_right_4 s h = .ok (.bl true) h' ∧ Fr [] h h' := by
  have vn := t.nx
  obtain ⟨h3, e3, f3⟩ := dis_no t n
  exact ⟨h3, err_ok (by simp -implicitDefEqProofs [e__law_is_right_4, hs, vn, e3]), f3⟩
theorem la5 (t : Tv h D v) (n : ¬ Isx v) : ∃ h', dLamC f__law_error e__law_is_right_5 s h = .ok (.bl true) h' ∧ Fr [] h h' := by
  have vn := t.nx
  obtain ⟨h3, e3, f3⟩ := small_no t n
  exact ⟨h3, err_ok (by simp -implicitDefEqProofs [e__law_is_right_5, hs, vn, e3]), f3⟩
end
theorem ok_ofS (s : String) : PyData.strOk (Str.ofString s) = true := by
  rw [Str.ofString_eq_toList]
  unfold PyData.strOk
  simp only [List.all_toArray, List.all_map, List.all_eq_true]
  intro c _
  have h : c.toNat.isValidChar := c.valid
  unfold Nat.isValidChar at h
  simp only [Function.comp_apply, decide_eq_true_eq]
  omega
/-- what is shown of a value, now and later -/
structure Rp (h : Hep) (v : AV) (x : Str) : Prop where
  nx : v.nx = true
  re : ∀ g, Fr [] h g → reprL [v] g = some (.str x, g)
  le : x.length ≤ 1000
  ok : PyData.strOk x = true
theorem Rp.fr {h h' : Hep} {v : AV} {x : Str} (r : Rp h v x) (f : Fr [] h h') : Rp h' v x := ⟨r.nx, fun g fg => r.re g (f.trans fg), r.le, r.ok⟩
def shB (d : PyData) : Bool := d.showable && !d.hasDict && decide (d.shown.length ≤ 1000) && decide (d.depth ≤ 60) && PyData.strOk d.shown
theorem rp_of {h : Hep} {v : AV} {d : PyData} (nx : v.nx = true) (e : ∀ g, Fr [] h g → toD DD g v = some d) (c : shB d = true) : Rp h v d.shown := by
  simp only [shB, Bool.and_eq_true, Bool.not_eq_true', decide_eq_true_eq] at c
  obtain ⟨⟨⟨⟨c1, c2⟩, c3⟩, c4⟩, c5⟩ := c
  refine ⟨nx, fun g f => ?_, c3, c5⟩
  have q : d.shown.length ≤ SZ := Nat.le_trans c3 (by decide)
  simp only [reprL, e g f]
  exact if_pos ⟨c1, c2, q, c4⟩
theorem rp_pure {v : AV} {d : PyData} (h : Hep) (nx : v.nx = true) (e : ∀ g, toD DD g v = some d) (c : shB d = true) : Rp h v d.shown := rp_of nx (fun g _ => e g) c
theorem fc_all {s : Sl} {D : Nat} {h0 : Hep} (hD : h0.length ≤ D) : ∀ (es : List DE) (acc : List AV) (h : Hep), h[D]? = some (.lst acc) → acc.length + es.length ≤ 1000 → Fr [] h0 h → (∀ e ∈ es, ∀ g, Fr [] h0 g → ∃ g', e s g = .ok (.bl true) g' ∧ Fr [] g g') →
    ∃ h', dFcL D s (es.map fun e => (dYes, e)) h = .ok (.ref D) h' ∧ Fr [] h0 h' ∧ h'[D]? = some (.lst (acc ++ List.replicate es.length (.bl true)))
  | [], acc, h, a, _, f, _ => ⟨h, rfl, f, by simpa using a⟩
  | e :: es, acc, h, a, hl, f, hs => by
    obtain ⟨g, e1, f1⟩ := hs e List.mem_cons_self h f
    have a1 := f1.at a (by simp)
    have ln : acc.length < SZ := by
      have z : SZ = 1000000 := rfl
      simp at hl
      omega
    have ad : addAt D (.bl true) g = some (g.set D (.lst (acc ++ [.bl true]))) := by
      unfold addAt
      rw [a1]
      exact if_pos ln
    have F : Fr [] h0 (g.set D (.lst (acc ++ [.bl true]))) := (f.trans f1).into (Fr.set (by simp) : Fr [D] g (g.set D (.lst (acc ++ [.bl true])))) (by simp; omega)
    obtain ⟨h', e2, f2, a2⟩ := fc_all hD es (acc ++ [.bl true]) _ (List.getElem?_set_self (lt_of a1)) (by simp at hl ⊢; omega) F (fun e he => hs e (List.mem_cons_of_mem _ he))
    refine ⟨h', ?_, f2, by rw [a2]; simp [List.replicate_succ]⟩
    show ((dYes s h).noX.bind fun b h1 => match b with
      | false => dFcL D s (es.map fun e => (dYes, e)) h1
      | true => (e s h1).noX.bind fun y h2 => match addAt D y h2 with
        | none => .stuck
        | some h3 => dFcL D s (es.map fun e => (dYes, e)) h3) = _
    have y1 : dYes s h = .ok true h := rfl
    rw [y1]
    show ((e s h).noX.bind fun y h2 => match addAt D y h2 with
        | none => .stuck
        | some h3 => dFcL D s (es.map fun e => (dYes, e)) h3) = _
    rw [e1]
    show (match addAt D (.bl true) g with
        | none => R.stuck
        | some h3 => dFcL D s (es.map fun e => (dYes, e)) h3) = _
    rw [ad]
    exact e2
theorem rep_b (b : Bool) (h : Hep) : ∃ x, PyData.strOk x = true ∧ reprL [.bl b] h = some (.str x, h) := by
  have r : Rp h (.bl b) (PyData.bool b).shown := rp_pure h rfl (fun _ => rfl) (by cases b <;> decide +kernel)
  exact ⟨_, r.ok, r.re h Fr.refl⟩
section
variable {h : Hep} {v : AV}
/-- what is due -/
theorem due_ok (t : Tv h 12 v) (c1 c2 c3 : Option AV) : ∃ b h', (dAndV (dCallC f__law_has_form_12 1 0 1 [0] [] (dCons (dVar 0) dNil) dNil) (dAndV (dOp leAV (dCallC f__law_letters_12 1 0 1 [0] [] (dCons (dVar 0) dNil) dNil) (dC (.int 10))) (dOp leAV (dCallC f__law_depth_12 1 0 1 [0] [] (dCons (dVar 0) dNil) dNil) (dC (.int 8))))) [some v, c1, c2, c3] h = .ok (.bl b) h' ∧ Fr [] h h' ∧ (b = true ↔ Isx v) := by
  have vn := t.nx
  obtain ⟨h1, e1, f1⟩ := lform_any 12 t
  cases q : hf 12 v with
  | false =>
    rw [q] at e1
    refine ⟨false, h1, by simp -implicitDefEqProofs [vn, e1], f1, (fun z => by cases z), fun ⟨e, ev, hd, _⟩ => ?_⟩
    rw [ev, hf_of (by omega)] at q
    cases q
  | true =>
    rw [q] at e1
    obtain ⟨e, rfl, hd⟩ := hf_inv q
    obtain ⟨h2, e2, f2⟩ := lletters_ok 12 e hd h1
    by_cases c : (e.lets : Int) ≤ 10
    · obtain ⟨h3, e3, f3⟩ := ldepth_ok 12 e hd h2
      refine ⟨decide ((e.dep : Int) ≤ 8), h3, by simp -implicitDefEqProofs [vn, e1, e2, c, e3], (f1.trans f2).trans f3, ?_⟩
      rw [decide_eq_true_iff]
      refine ⟨fun z => ⟨e, rfl, by omega, by omega⟩, fun ⟨e', ev, z, _⟩ => ?_⟩
      rw [Ex.av_inj ev]
      omega
    · refine ⟨false, h2, by simp -implicitDefEqProofs [vn, e1, e2, c], f1.trans f2, (fun z => by cases z), fun ⟨e', ev, _, z⟩ => ?_⟩
      rw [Ex.av_inj ev] at c
      omega
def fcs : List DE := [dLamC f__law_error e__law_is_right_1, dLamC f__law_error e__law_is_right_2, dLamC f__law_error e__law_is_right_3, dLamC f__law_error e__law_is_right_4, dLamC f__law_error e__law_is_right_5]
theorem all_true5 {g : Hep} {n : Nat} (e : g[n]? = some (.lst (List.replicate 5 (.bl true)))) : allL [.ref n] g = some (.bl true, g) := by
  simp [allL, lstOf, e, blsOf, List.replicate]
theorem right_ok (t : Tv h 12 v) : ∃ h', f__law_is_right [v] h = .ok (.bl true) h' ∧ Fr [] h h' := by
  have vn := t.nx
  obtain ⟨b, h1, e1, f1, q1⟩ := due_ok t none none none
  obtain ⟨b2, h2, e2, f2, q2⟩ := isex_any (Tv.fr f1 _ t)
  have eb : b2 = b := by
    cases b <;> cases b2 <;> simp_all
  subst eb
  obtain ⟨x, ox, rx⟩ := rep_b b2 h2
  have nx : neAV (.str x) (.str x) h2 = some (.bl false, h2) := ne_st ox ox (by simp)
  have f12 := f1.trans f2
  have c1 : dIfS (dTst (dOp neAV (dCB reprL (dCons (dCallC f_is_expression 1 0 1 [0] [] (dCons (dVar 0) dNil) dNil) dNil)) (dCB reprL (dCons (dVar 1) dNil)))) (dRet (dC (.bl false))) dSkip [some v, some (.bl b2), none, none] h1 = .nx [some v, some (.bl b2), none, none] h2 := by
    simp -implicitDefEqProofs [vn, e2, rx, nx]
  cases b2 with
  | true =>
    obtain ⟨e, rfl, hd, hl⟩ := q2.mp rfl
    obtain ⟨h3, e3, f3⟩ := lletters_ok 12 e (by omega) h2
    by_cases c : (e.lets : Int) ≤ 4
    · refine ⟨h3, ?_, f12.trans f3⟩
      simp -implicitDefEqProofs [f__law_is_right, p__law_is_right, dFun, dStart, e1, c1, vn, e3, c, -xCall, -xAndV, -xTst, -xCB]
      simp -implicitDefEqProofs [vn, e2, rx, nx, e3, c]
    · obtain ⟨h4, e4, f4⟩ := small_big e hd hl (by omega) h3
      have e5 : dLamC f__law_error (dCallC f_smallest 1 0 1 [0] [] (dCons (dVar 0) dNil) dNil) [some e.av, some (.bl true), none, none] h3 = .ok (.bl true) h4 := err_ok (by simp -implicitDefEqProofs [vn, e4])
      refine ⟨h4, ?_, (f12.trans f3).trans f4⟩
      simp -implicitDefEqProofs [f__law_is_right, p__law_is_right, dFun, dStart, e1, c1, vn, -xCall, -xAndV, -xTst, -xCB]
      simp -implicitDefEqProofs [vn, e2, rx, nx, e3, c, e5]
  | false =>
    have n : ¬ Isx v := fun z => by
      have := q2.mpr z
      cases this
    have f0 : Fr [] h2 (h2 ++ [AO.lst []]) := Fr.app
    obtain ⟨h3, e3, f3, a3⟩ := fc_all (s := [some v, some (.bl false), none, none]) (Nat.le_refl h2.length) fcs [] (h2 ++ [AO.lst []]) at_last (by simp [fcs]) f0 (fun e he g fg => by
      have t' : Tv g 12 v := Tv.fr (f12.trans fg) _ t
      simp only [fcs, List.mem_cons, List.not_mem_nil, or_false] at he
      rcases he with rfl | rfl | rfl | rfl | rfl
      · exact la1 rfl t' n
      · exact la2 rfl t' n
      · exact la3 rfl t' n
      · exact la4 rfl t' n
      · exact la5 rfl t' n)
    have a4 := all_true5 a3
    have e3 : dFc 3 [(dYes, dLamC f__law_error e__law_is_right_1), (dYes, dLamC f__law_error e__law_is_right_2), (dYes, dLamC f__law_error e__law_is_right_3), (dYes, dLamC f__law_error e__law_is_right_4), (dYes, dLamC f__law_error e__law_is_right_5)] [some v, some (.bl false), none, none] h2 = .ok (.ref h2.length) h3 := e3
    refine ⟨h3, ?_, f12.trans f3⟩
    simp -implicitDefEqProofs [f__law_is_right, p__law_is_right, dFun, dStart, e1, c1, vn, dLams, e3, a4, -xCall, -xAndV, -xTst]
    simp -implicitDefEqProofs [vn, e2, rx, nx, dLams, e3, a4]
end
theorem Bs.frs {h h' : Hep} {s : Nat} {v : AV} (b : Bs h v) (f : Fr [s] h h') (hs : ∃ xs, h'[s]? = some (.lst xs)) : Bs h' v := by
  rcases b with b | b | b | b | ⟨n, xs, e, a⟩
  · exact .inl b
  · exact .inr (.inl b)
  · exact .inr (.inr (.inl b))
  · exact .inr (.inr (.inr (.inl b)))
  · refine .inr (.inr (.inr (.inr ?_)))
    by_cases c : n = s
    · subst c
      obtain ⟨ys, q⟩ := hs
      exact ⟨n, ys, e, q⟩
    · exact ⟨n, xs, e, f.at a (by simp [c])⟩
theorem Tv.frs {h h' : Hep} {s : Nat} (f : Fr [s] h h') (hs : ∃ xs, h'[s]? = some (.lst xs)) : ∀ (d : Nat) {v : AV}, Tv h d v → Tv h' d v
  | 0, _, t => Bs.frs t f hs
  | _ + 1, _, .inl b => .inl (b.frs f hs)
  | d + 1, _, .inr ⟨xs, e, l, t⟩ => .inr ⟨xs, e, l, fun x hx => Tv.frs f hs d (t x hx)⟩
theorem Sr.isl {h : Hep} {s k : Nat} {y : Int} (S : Sr h s y k) : ∃ xs, h[s]? = some (.lst xs) := by
  obtain ⟨⟨x, z, e, _⟩, _⟩ := S
  exact ⟨_, e⟩
theorem bs_str {h : Hep} {x : Str} (o : PyData.strOk x = true) : Bs h (.str x) := .inl ⟨x, rfl, o⟩
theorem tv_str {h : Hep} {x : Str} (o : PyData.strOk x = true) (d : Nat) : Tv h d (.str x) := by
  cases d with
  | zero => exact bs_str o
  | succ d => exact .inl (bs_str o)
theorem lst_so (c : Bool) : PyData.strOk (lst c) = true := by cases c <;> decide +kernel
theorem ust_so (c : Bool) : PyData.strOk (ust c) = true := by cases c <;> decide +kernel
theorem st_so (g : Sg) : PyData.strOk g.st = true := by cases g <;> decide +kernel
theorem Ex.tv {h : Hep} : ∀ {d : Nat} {e : Ex}, e.dep ≤ d → Tv h d e.av
  | d, .l c, _ => tv_str (lst_so c) d
  | 0, .u p e, hd => by simp [Ex.dep] at hd
  | 0, .b g x y, hd => by simp [Ex.dep] at hd
  | d + 1, .u p e, hd => .inr ⟨_, rfl, by simp, fun x hx => by
      simp only [List.mem_cons, List.not_mem_nil, or_false] at hx
      rcases hx with rfl | rfl
      · exact tv_str (ust_so p) d
      · exact Ex.tv (by simp [Ex.dep] at hd; omega)⟩
  | d + 1, .b g x y, hd => .inr ⟨_, rfl, by simp, fun z hz => by
      simp only [List.mem_cons, List.not_mem_nil, or_false] at hz
      rcases hz with rfl | rfl | rfl
      · exact tv_str (st_so g) d
      · exact Ex.tv (by simp [Ex.dep] at hd; omega)
      · exact Ex.tv (by simp [Ex.dep] at hd; omega)⟩
/-! what is put in -/
def odds (n : Nat) : List AV := [.non, .bl true, .int 0, .str "", .str "e", .str "+", .str "cd", .str "C", .tup [], .tup [.str "c"], .ref n, .tup [.str "+"], .tup [.str "|", .str "c"], .str "||"]
theorem odds_tv {h : Hep} {n : Nat} {xs : List AV} (a : h[n]? = some (.lst xs)) : ∀ v ∈ odds n ++ [.tup [.str "*", .str "c", .str "d"]], v.nx = true ∧ Tv h 1 v := by
  intro v hv
  have T : ∀ l : List AV, l.length ≤ 20 → (∀ x ∈ l, ∃ z, x = .str z ∧ PyData.strOk z = true) → Tv h 1 (.tup l) := fun l hl k => .inr ⟨l, rfl, hl, fun x hx => by
    obtain ⟨z, rfl, o⟩ := k x hx
    exact bs_str o⟩
  have S : ∀ x : String, Tv h 1 (.str (Str.ofString x)) := fun x => .inl (bs_str (ok_ofS x))
  have one : ∀ (l : List String), ∀ x ∈ l.map (fun y => AV.str (Str.ofString y)), ∃ z, x = .str z ∧ PyData.strOk z = true := fun l x hx => by
    obtain ⟨y, _, rfl⟩ := List.mem_map.mp hx
    exact ⟨_, rfl, ok_ofS y⟩
  simp only [odds, List.cons_append, List.nil_append, List.mem_cons, List.not_mem_nil, or_false] at hv
  rcases hv with rfl | rfl | rfl | rfl | rfl | rfl | rfl | rfl | rfl | rfl | rfl | rfl | rfl | rfl | rfl
  · exact ⟨rfl, .inl (.inr (.inl rfl))⟩
  · exact ⟨rfl, .inl (.inr (.inr (.inl ⟨_, rfl⟩)))⟩
  · exact ⟨rfl, .inl (.inr (.inr (.inr (.inl ⟨_, rfl⟩))))⟩
  · exact ⟨rfl, S ""⟩
  · exact ⟨rfl, S "e"⟩
  · exact ⟨rfl, S "+"⟩
  · exact ⟨rfl, S "cd"⟩
  · exact ⟨rfl, S "C"⟩
  · exact ⟨rfl, T [] (by simp) (one [])⟩
  · exact ⟨rfl, T _ (by simp) (one ["c"])⟩
  · exact ⟨rfl, .inl (.inr (.inr (.inr (.inr ⟨n, xs, rfl, a⟩))))⟩
  · exact ⟨rfl, T _ (by simp) (one ["+"])⟩
  · exact ⟨rfl, T _ (by simp) (one ["|", "c"])⟩
  · exact ⟨rfl, S "||"⟩
  · exact ⟨rfl, T _ (by simp) (one ["*", "c", "d"])⟩
theorem odd_new (h : Hep) : ∃ n g1 m g2 g3, mkL [.str "+", .str "c", .str "d"] h = some (.ref n, g1) ∧ mkL (odds n) g1 = some (.ref m, g2) ∧ mAppend (.ref m) [.tup [.str "*", .str "c", .str "d"]] g2 = some (.non, g3) ∧ Fr [] h g3 ∧ h.length ≤ m ∧ tyA "list" g2 (.ref m) = true ∧
    (∃ xs, g3[n]? = some (.lst xs)) ∧ g3[m]? = some (.lst (odds n ++ [.tup [.str "*", .str "c", .str "d"]])) := by
  obtain ⟨n, g1, e1, f1, l1, a1⟩ := mk_new [.str "+", .str "c", .str "d"] h (by simp)
  obtain ⟨m, g2, e2, f2, l2, a2⟩ := mk_new (odds n) g1 (by simp [odds])
  have b1 := f2.at a1 (by simp)
  have hn : n < g1.length := lt_of a1
  have f3 : Fr [m] g2 (g2.set m (.lst (odds n ++ [.tup [.str "*", .str "c", .str "d"]]))) := Fr.set (by simp)
  refine ⟨n, g1, m, g2, _, e1, e2, app_ok a2 (by simp [odds]), (f1.trans f2).into f3 (by have := f1.1; simp; omega), by have := f1.1; omega, tyA_lst a2, ⟨_, f3.at b1 (by simp; omega)⟩, List.getElem?_set_self (lt_of a2)⟩
/-! the pieces of an expression -/
def Part (d : Nat) (x : AV) : Prop := (∃ z, x = .str z ∧ PyData.strOk z = true) ∨ ∃ e : Ex, x = e.av ∧ e.dep ≤ d
theorem Part.tv {h : Hep} {d : Nat} {x : AV} (p : Part d x) : Tv h d x := by
  rcases p with ⟨z, rfl, o⟩ | ⟨e, rfl, hd⟩
  · exact tv_str o d
  · exact Ex.tv hd
theorem Part.cs {d : Nat} {x : AV} (p : Part d x) : (∃ z, x = .str z) ∨ ∃ d' xs, d = d' + 1 ∧ x = .tup xs ∧ 2 ≤ xs.length ∧ xs.length ≤ 3 ∧ ∀ y ∈ xs, Part d' y := by
  rcases p with ⟨z, rfl, o⟩ | ⟨e, rfl, hd⟩
  · exact .inl ⟨z, rfl⟩
  · cases e with
    | l c => exact .inl ⟨_, rfl⟩
    | u p e =>
      simp only [Ex.dep] at hd
      refine .inr ⟨d - 1, _, by omega, rfl, by simp, by simp, fun y hy => ?_⟩
      simp only [List.mem_cons, List.not_mem_nil, or_false] at hy
      rcases hy with rfl | rfl
      · exact .inl ⟨_, rfl, ust_so p⟩
      · exact .inr ⟨e, rfl, by omega⟩
    | b g a b =>
      simp only [Ex.dep] at hd
      refine .inr ⟨d - 1, _, by omega, rfl, by simp, by simp, fun y hy => ?_⟩
      simp only [List.mem_cons, List.not_mem_nil, or_false] at hy
      rcases hy with rfl | rfl | rfl
      · exact .inl ⟨_, rfl, st_so g⟩
      · exact .inr ⟨a, rfl, by omega⟩
      · exact .inr ⟨b, rfl, by omega⟩
theorem parts_dr {d : Nat} (ih : ∀ x, Part d x → ∃ pd, (∀ h, Dr h x pd) ∧ pd.canLay0 = true ∧ pd.depth ≤ d) : ∀ xs : List AV, (∀ y ∈ xs, Part d y) → ∃ ds, (∀ h, DrA h xs ds) ∧ PyData.canLayAll0 ds = true ∧ PyData.depthAll ds ≤ d ∧ ds.length = xs.length
  | [], _ => ⟨[], fun h => .nil, by rw [PyData.canLayAll0], by rw [PyData.depthAll]; omega, rfl⟩
  | x :: xs, hx => by
    obtain ⟨pd, a1, a2, a3⟩ := ih x (hx x List.mem_cons_self)
    obtain ⟨ds, b1, b2, b3, b4⟩ := parts_dr ih xs fun y hy => hx y (List.mem_cons_of_mem _ hy)
    refine ⟨pd :: ds, fun h => .cons (a1 h) (b1 h), by rw [PyData.canLayAll0, a2, b2]; rfl, by rw [depthAll_cons]; omega, by simp [b4]⟩
theorem Part.dr : ∀ (d : Nat) (x : AV), Part d x → ∃ pd, (∀ h, Dr h x pd) ∧ pd.canLay0 = true ∧ pd.depth ≤ d
  | 0, x, p => by
    rcases p with ⟨z, rfl, o⟩ | ⟨e, rfl, hd⟩
    · exact ⟨.str z, fun h => .str z, by rw [PyData.canLay0]; exact o, by rw [PyData.depth]; omega⟩
    · cases e with
      | l c => exact ⟨.str (lst c), fun h => .str _, by rw [PyData.canLay0]; exact lst_so c, by rw [PyData.depth]; omega⟩
      | u p e => simp [Ex.dep] at hd
      | b g x y => simp [Ex.dep] at hd
  | d + 1, x, p => by
    have q := p.cs
    rcases q with ⟨z, rfl⟩ | ⟨d', xs, e, rfl, _, _, hx⟩
    · have o : PyData.strOk z = true := (p.tv (h := [])).so
      exact ⟨.str z, fun h => .str z, by rw [PyData.canLay0]; exact o, by rw [PyData.depth]; omega⟩
    · have e : d = d' := by omega
      subst e
      obtain ⟨ds, b1, b2, b3, _⟩ := parts_dr (Part.dr d) xs hx
      exact ⟨.tuple ds, fun h => .tup (b1 h), by rw [PyData.canLay0]; exact b2, by rw [depth_tup]; omega⟩
theorem part_no0 {d : Nat} {xs : List AV} (hd : d ≤ 12) (hx : ∀ y ∈ xs, Part d y) (h2 : 2 ≤ xs.length) (h : Hep) : eqAV (.tup xs) (.tup []) h = some (.bl false, h) := by
  obtain ⟨ds, b1, b2, b3, b4⟩ := parts_dr (Part.dr d) xs hx
  have o1 : DOk (.tuple ds) := ⟨by rw [PyData.canLay0]; exact b2, by rw [depth_tup]; omega⟩
  have o2 : DOk (.tuple []) := ⟨by rw [PyData.canLay0, PyData.canLayAll0], by rw [depth_tup, PyData.depthAll]; omega⟩
  rw [eqAV_dr (.tup (b1 h)) (.tup .nil) o1 o2]
  cases ds with
  | nil => simp at b4; omega
  | cons a r => simp [PyData.eqv, PyData.eqvAll]
theorem cut_t {xs : List AV} (k : Nat) (h : Hep) (hl : xs.length ≤ 20) : sliceAV (.tup xs) none (some (k : Int)) h = some (.tup (xs.take k), h) := by
  show mkT (cutA xs none (some (k : Int))) h = _
  rw [cut_head]
  have : (xs.take k).length ≤ SZ := by
    have z : SZ = 1000000 := rfl
    simp
    omega
  exact if_pos this
theorem cut_d {xs : List AV} (k : Nat) (h : Hep) (hl : xs.length ≤ 20) : sliceAV (.tup xs) (some (k : Int)) none h = some (.tup (xs.drop k), h) := by
  show mkT (cutA xs (some (k : Int)) none) h = _
  rw [cut_tail]
  have : (xs.drop k).length ≤ SZ := by
    have z : SZ = 1000000 := rfl
    simp
    omega
  exact if_pos this
theorem add_t {xs ys : List AV} (h : Hep) (hl : xs.length + ys.length ≤ 100) : addAV (.tup xs) (.tup ys) h = some (.tup (xs ++ ys), h) := by
  show mkT (xs ++ ys) h = _
  have : (xs ++ ys).length ≤ SZ := by
    have z : SZ = 1000000 := rfl
    simp
    omega
  exact if_pos this
theorem idx_t {xs : List AV} {k : Nat} {x : AV} (hx : xs[k]? = some x) (h : Hep) (hl : xs.length ≤ 20) : idxAV (.tup xs) (.int (k : Int)) h = some (x, h) := by
  have hk : k < xs.length := (List.getElem?_eq_some_iff.mp hx).1
  have : L2.atI xs (k : Int) = some x := by
    have z : L2.ixN xs.length (k : Int) = some k := by
      unfold L2.ixN
      rw [if_pos (by omega), if_pos (by omega)]
      simp
    unfold L2.atI
    rw [z]
    exact hx
  have sq : seqOf h (.tup xs) = some xs := rfl
  unfold idxAV
  rw [sq]
  show (L2.atI xs (k : Int)).map _ = _
  rw [this]
  rfl
section
variable {s : Nat} {y : Int}
theorem odds_q : ∀ n : Nat, odds n = [.non, .bl true, .int 0, .str (Str.ofString ""), .str (Str.ofString "e"), .str (Str.ofString "+"), .str (Str.ofString "cd"), .str (Str.ofString "C"), .tup [], .tup [.str (Str.ofString "c")], .ref n, .tup [.str (Str.ofString "+")], .tup [.str (Str.ofString "|"), .str (Str.ofString "c")], .str (Str.ofString "||")] := fun n => rfl
theorem spoilt_ok : ∀ (d : Nat) {q : Nat} {x : AV} {h : Hep} {k : Nat}, q ≤ d → d ≤ 12 → Part q x → Sr h s y k → k + 5 * (d + 1) ≤ 80000 → ∃ v h', f__law_spoilt_N d [.ref s, x] h = .ok v h' ∧ v.nx = true ∧ Tv h' (q + 2) v ∧ Fr [s] h h' ∧ Sr h' s y (k + 5 * (d + 1)) := by
  intro d
  induction d with
  | zero =>
    intro q x h k hq hd P S hk
    have hs := S.lt
    rcases P.cs with ⟨z, rfl⟩ | ⟨d', xs, e, _⟩
    · obtain ⟨n, g1, m, g2, g3, e1, e2, e3, f3, lm, ty2, an, am⟩ := odd_new h
      obtain ⟨v, g4, mv, e4, f4, S4, _⟩ := choice_ok (S.fr f3 (Nat.le_refl _)) am (by omega) (by simp) (by simp [odds]) (by omega) (fun x hx => by
        obtain ⟨xs, a⟩ := an
        exact (odds_tv a x hx).1)
      obtain ⟨xs, a⟩ := an
      obtain ⟨vn, vt⟩ := odds_tv a v mv
      rw [odds_q] at e2
      refine ⟨v, g4, ?_, vn, (Tv.frs f4 S4.isl 1 vt).up (by omega), f3.nil.trans f4, S4.fr Fr.refl (by omega)⟩
      have i1 : isiL ct0 [.str z, .ty "tuple"] g3 = some (.bl false, g3) := rfl
      simp -implicitDefEqProofs [f__law_spoilt_N, f__law_spoilt_0, p__law_spoilt_0, dFun, dStart, mkT, SZ, e1, e2, e3, ty2, i1, e4]
    · omega
  | succ d ih =>
    intro q x h k hq hd P S hk
    have hs := S.lt
    obtain ⟨n, g1, m, g2, g3, e1, e2, e3, f3, lm, ty2, an, am⟩ := odd_new h
    obtain ⟨ys, an⟩ := an
    have S3 := S.fr f3 (Nat.le_refl _)
    rw [odds_q] at e2
    rcases P.cs with ⟨z, rfl⟩ | ⟨d', xs, ed, rfl, x2, x3, hx⟩
    · obtain ⟨v, g4, mv, e4, f4, S4, _⟩ := choice_ok S3 am (by omega) (by simp) (by simp [odds]) (by omega) (fun x hx => (odds_tv an x hx).1)
      obtain ⟨vn, vt⟩ := odds_tv an v mv
      refine ⟨v, g4, ?_, vn, (Tv.frs f4 S4.isl 1 vt).up (by omega), f3.nil.trans f4, S4.fr Fr.refl (by omega)⟩
      have i1 : isiL ct0 [.str z, .ty "tuple"] g3 = some (.bl false, g3) := rfl
      simp -implicitDefEqProofs [f__law_spoilt_N, f__law_spoilt_P, p__law_spoilt_P, dFun, dStart, mkT, SZ, e1, e2, e3, ty2, i1, e4]
    · subst ed
      have q0 := part_no0 (by omega) hx x2 g3
      obtain ⟨w, g4, w0, w1, e4, f4, _, S4⟩ := draw_ok (m := 4) S3 (by omega) (by omega) (by omega)
      have am4 := f4.at am (by simp; omega)
      have an4 : ∃ zs, g4[n]? = some (.lst zs) := by
        by_cases c : n = s
        · rw [c]
          exact S4.isl
        · exact ⟨ys, f4.at an (by simp [c])⟩
      obtain ⟨zs, an4⟩ := an4
      by_cases c0 : w = 0
      · obtain ⟨v, g5, mv, e5, f5, S5, _⟩ := choice_ok S4 am4 (by omega) (by simp) (by simp [odds]) (by omega) (fun x hx => (odds_tv an4 x hx).1)
        obtain ⟨vn, vt⟩ := odds_tv an4 v mv
        refine ⟨v, g5, ?_, vn, (Tv.frs f5 S5.isl 1 vt).up (by omega), (f3.nil.trans f4).trans f5, S5.fr Fr.refl (by omega)⟩
        simp -implicitDefEqProofs [f__law_spoilt_N, f__law_spoilt_P, p__law_spoilt_P, dFun, dStart, mkT, SZ, e1, e2, e3, ty2, isi_tt, q0, e4, eq_ii, c0, e5]
      · have ln := len_tup g4 (xs := xs) (by omega)
        obtain ⟨p, g5, p0, p1, e5, f5, _, S5⟩ := draw_ok (m := (xs.length : Int)) S4 (by omega) (by omega) (by omega)
        obtain ⟨j, rfl⟩ := Int.eq_ofNat_of_zero_le p0
        have hj : j < xs.length := by omega
        obtain ⟨u, g6, u0, u1, e6, f6, _, S6⟩ := draw_ok (m := 4) S5 (by omega) (by omega) (by omega)
        have F6 : Fr [s] h g6 := ((f3.nil.trans f4).trans f5).trans f6
        have tk6 := cut_t j g6 (xs := xs) (by omega)
        have td6 := cut_d (j + 1) g6 (xs := xs) (by omega)
        have tx : ∀ g, ∀ z ∈ xs, Tv g (d' + 2) z := fun g z hz => ((hx z hz).tv (h := g)).up (by omega)
        have mk_ : ∀ z ∈ xs.take j, z ∈ xs := fun z hz => List.mem_of_mem_take hz
        have md_ : ∀ i z, z ∈ xs.drop i → z ∈ xs := fun i z hz => List.mem_of_mem_drop hz
        by_cases c1 : u = 0
        · have ad := add_t (xs := xs.take j) (ys := xs.drop (j + 1)) g6 (by simp; omega)
          refine ⟨.tup (xs.take j ++ xs.drop (j + 1)), g6, ?_, rfl, .inr ⟨_, rfl, by simp; omega, fun z hz => ?_⟩, F6, S6.fr Fr.refl (by omega)⟩
          · push_cast at td6
            simp -implicitDefEqProofs [f__law_spoilt_N, f__law_spoilt_P, p__law_spoilt_P, dFun, dStart, mkT, SZ, e1, e2, e3, ty2, isi_tt, q0, e4, eq_ii, c0, ln, e5, e6, c1, tk6, td6, ad]
          · rcases List.mem_append.mp hz with z1 | z1
            · exact tx _ _ (mk_ _ z1)
            · exact tx _ _ (md_ _ _ z1)
        · by_cases c2 : u = 1
          · have am6 := f6.at (f5.at am4 (by simp; omega)) (by simp; omega)
            have an6 : ∃ zs, g6[n]? = some (.lst zs) := by
              by_cases c : n = s
              · rw [c]
                exact S6.isl
              · exact ⟨zs, f6.at (f5.at an4 (by simp [c])) (by simp [c])⟩
            obtain ⟨zs6, an6⟩ := an6
            obtain ⟨v, g7, mv, e7, f7, S7, _⟩ := choice_ok S6 am6 (by omega) (by simp) (by simp [odds]) (by omega) (fun x hx => (odds_tv an6 x hx).1)
            obtain ⟨vn, vt⟩ := odds_tv an6 v mv
            have vt7 := (Tv.frs f7 S7.isl 1 vt).up (e := d' + 2) (by omega)
            have ad := add_t (xs := xs.take j) (ys := [v]) g7 (by simp; omega)
            have td7 := cut_d j g7 (xs := xs) (by omega)
            have ad2 := add_t (xs := xs.take j ++ [v]) (ys := xs.drop j) g7 (by simp; omega)
            refine ⟨.tup (xs.take j ++ [v] ++ xs.drop j), g7, ?_, rfl, .inr ⟨_, rfl, by simp; omega, fun z hz => ?_⟩, F6.trans f7, S7.fr Fr.refl (by omega)⟩
            · simp -implicitDefEqProofs [f__law_spoilt_N, f__law_spoilt_P, p__law_spoilt_P, dFun, dStart, mkT, SZ, e1, e2, e3, ty2, isi_tt, q0, e4, eq_ii, c0, ln, e5, e6, c1, c2, tk6, e7, ad, td7, ad2, -List.append_assoc]
            · rcases List.mem_append.mp hz with z1 | z1
              · rcases List.mem_append.mp z1 with z1 | z1
                · exact tx _ _ (mk_ _ z1)
                · simp only [List.mem_cons, List.not_mem_nil, or_false] at z1
                  subst z1
                  exact vt7
              · exact tx _ _ (md_ _ _ z1)
          · obtain ⟨x, hxj⟩ : ∃ x, xs[j]? = some x := ⟨_, List.getElem?_eq_getElem hj⟩
            have ix := idx_t hxj g6 (by omega)
            have xn : x.nx = true := ((hx x (List.mem_of_getElem? hxj)).tv (h := [])).nx
            obtain ⟨v, g7, e7, vn, vt, f7, S7⟩ := ih (by omega) (by omega) (hx x (List.mem_of_getElem? hxj)) S6 (by omega)
            have ad := add_t (xs := xs.take j) (ys := [v]) g7 (by simp; omega)
            have td7 := cut_d (j + 1) g7 (xs := xs) (by omega)
            have ad2 := add_t (xs := xs.take j ++ [v]) (ys := xs.drop (j + 1)) g7 (by simp; omega)
            refine ⟨.tup (xs.take j ++ [v] ++ xs.drop (j + 1)), g7, ?_, rfl, .inr ⟨_, rfl, by simp; omega, fun z hz => ?_⟩, F6.trans f7, S7.fr Fr.refl (by omega)⟩
            · push_cast at td7
              simp -implicitDefEqProofs [f__law_spoilt_N, f__law_spoilt_P, p__law_spoilt_P, dFun, dStart, mkT, SZ, e1, e2, e3, ty2, isi_tt, q0, e4, eq_ii, c0, ln, e5, e6, c1, c2, tk6, ix, e7, ad, td7, ad2, xn, vn, -List.append_assoc]
            · rcases List.mem_append.mp hz with z1 | z1
              · rcases List.mem_append.mp z1 with z1 | z1
                · exact tx _ _ (mk_ _ z1)
                · simp only [List.mem_cons, List.not_mem_nil, or_false] at z1
                  subst z1
                  exact vt
              · exact tx _ _ (md_ _ _ z1)
end
/-! the first turns, by hand -/
def S8 (a0 : AV) (a b : Ex) (c3 c4 c5 c6 c7 : Option AV) : Sl := [some a0, some a.av, some b.av, c3, c4, c5, c6, c7]
theorem tup3 (a b c : AV) (h : Hep) : mkT [a, b, c] h = some (.tup [a, b, c], h) := rfl
theorem tup2 (a b : AV) (h : Hep) : mkT [a, b] h = some (.tup [a, b], h) := rfl
theorem first_turn {h : Hep} {a0 : AV} {a b : Ex} {i : Nat} (hi : i < 9) (ha : a.dep ≤ i) (hb : b.dep ≤ i) (c4 c5 c6 c7 : Option AV) :
    ∃ (a' b' o : Ex) (h' : Hep), b_law_1 (S8 a0 a b (some (.int (i : Nat))) c4 c5 c6 c7) h = .nx (S8 a0 a' b' (some (.int (i : Nat))) (some o.av) c5 c6 c7) h' ∧ a'.dep ≤ i + 1 ∧ b'.dep ≤ i + 1 := by
  have an := a.nx
  have bn := b.nx
  obtain ⟨b', eb, db⟩ : ∃ b' : Ex, (dIf (dTst (dOp eqAV (dOp modAV (dVar 3) (dC (.int 2))) (dC (.int 0)))) (dTup (dCons (dC (.str "-")) (dCons (dVar 2) dNil))) (dTup (dCons (dC (.str "&")) (dCons (dVar 2) (dCons (dC (.str "c")) dNil))))) (S8 a0 (.b .a a (.l false)) b (some (.int (i : Nat))) c4 c5 c6 c7) h = .ok b'.av h ∧ b'.dep ≤ i + 1 := by
    by_cases c : (i : Int) % 2 = 0
    · refine ⟨.u false b, ?_, by simp only [Ex.dep]; omega⟩
      simp -implicitDefEqProofs [S8, eq_ii, c, bn, tup2, Ex.av, ust]
    · refine ⟨.b .n b (.l true), ?_, by simp only [Ex.dep]; omega⟩
      simp -implicitDefEqProofs [S8, eq_ii, c, bn, tup3, Ex.av, Sg.st, lst]
  have bn' := b'.nx
  have la : (Ex.b .a a (.l false)).av = .tup [.str "+", a.av, .str "d"] := rfl
  have ln' := (Ex.b .a a (.l false)).nx
  obtain ⟨o, eo, do_⟩ : ∃ o : Ex, (dIf (dTst (dOp gtAV (dVar 3) (dC (.int 6)))) (dTup (dCons (dC (.str "-")) (dCons (dVar 1) dNil))) (dVar 2)) (S8 a0 (.b .a a (.l false)) b' (some (.int (i : Nat))) c4 c5 c6 c7) h = .ok o.av h ∧ o.dep ≤ i + 2 := by
    by_cases c : (6 : Int) < (i : Int)
    · refine ⟨.u false (.b .a a (.l false)), ?_, by simp only [Ex.dep]; omega⟩
      simp -implicitDefEqProofs [S8, c, ln', tup2, Ex.av, ust]
    · refine ⟨b', ?_, by omega⟩
      simp -implicitDefEqProofs [S8, c, bn']
  have on := o.nx
  obtain ⟨h1, e1, f1⟩ := right_ok (h := h) (Ex.tv (d := 12) (e := .b .a a (.l false)) (by simp only [Ex.dep]; omega))
  obtain ⟨h2, e2, f2⟩ := right_ok (h := h1) (Ex.tv (d := 12) (e := b') (by omega))
  obtain ⟨h3, e3, f3⟩ := right_ok (h := h2) (Ex.tv (d := 12) (e := o) (by omega))
  refine ⟨.b .a a (.l false), b', o, h3, ?_, by simp only [Ex.dep]; omega, db⟩
  have s1 : dSet 1 (dTup (dCons (dC (.str "+")) (dCons (dVar 1) (dCons (dC (.str "d")) dNil)))) (S8 a0 a b (some (.int (i : Nat))) c4 c5 c6 c7) h = .nx (S8 a0 (.b .a a (.l false)) b (some (.int (i : Nat))) c4 c5 c6 c7) h := by
    simp -implicitDefEqProofs [S8, an, tup3, la]
  have s2 : dSet 2 (dIf (dTst (dOp eqAV (dOp modAV (dVar 3) (dC (.int 2))) (dC (.int 0)))) (dTup (dCons (dC (.str "-")) (dCons (dVar 2) dNil))) (dTup (dCons (dC (.str "&")) (dCons (dVar 2) (dCons (dC (.str "c")) dNil))))) (S8 a0 (.b .a a (.l false)) b (some (.int (i : Nat))) c4 c5 c6 c7) h = .nx (S8 a0 (.b .a a (.l false)) b' (some (.int (i : Nat))) c4 c5 c6 c7) h := by
    unfold dSet
    rw [eb]
    rfl
  have s3 : dSet 4 (dIf (dTst (dOp gtAV (dVar 3) (dC (.int 6)))) (dTup (dCons (dC (.str "-")) (dCons (dVar 1) dNil))) (dVar 2)) (S8 a0 (.b .a a (.l false)) b' (some (.int (i : Nat))) c4 c5 c6 c7) h = .nx (S8 a0 (.b .a a (.l false)) b' (some (.int (i : Nat))) (some o.av) c5 c6 c7) h := by
    unfold dSet
    rw [eo]
    rfl
  have s4 : dIfS (dOr (dNot (dTst (dCallC f__law_is_right 1 0 1 [0] [] (dCons (dVar 1) dNil) dNil))) (dOr (dNot (dTst (dCallC f__law_is_right 1 0 1 [0] [] (dCons (dVar 2) dNil) dNil))) (dNot (dTst (dCallC f__law_is_right 1 0 1 [0] [] (dCons (dVar 4) dNil) dNil)))))
      (dRet (dC (.bl false))) dSkip (S8 a0 (.b .a a (.l false)) b' (some (.int (i : Nat))) (some o.av) c5 c6 c7) h = .nx (S8 a0 (.b .a a (.l false)) b' (some (.int (i : Nat))) (some o.av) c5 c6 c7) h3 := by
    simp -implicitDefEqProofs [S8, ln', bn', on, e1, e2, e3]
  unfold b_law_1
  rw [xSeq, s1, SR.then_nx, xSeq, s2, SR.then_nx, xSeq, s3, SR.then_nx, s4]
theorem lst_cps (c : Bool) : (lst c).length ≤ 1000 := by cases c <;> decide +kernel
/-- list(x) of an expression -/
theorem list_ex (e : Ex) (hd : e.dep ≤ 8) (h : Hep) : ∃ n xs, listSL [e.av] h = some (.ref n, h ++ [AO.lst xs]) ∧ n = h.length := by
  cases e with
  | l c => exact ⟨_, _, if_pos (lst_cps c), rfl⟩
  | u p e => exact ⟨_, _, rfl, rfl⟩
  | b g x y => exact ⟨_, _, rfl, rfl⟩
theorem turn_ok {h : Hep} {s k : Nat} {y : Int} (S : Sr h s y k) (hk : k ≤ 60000) (c0 c1 c2 c3 c4 c5 c7 : Option AV) :
    ∃ d7 h', b_law_2 [c0, c1, c2, c3, c4, c5, some (.ref s), c7] h = .nx [c0, c1, c2, c3, c4, c5, some (.ref s), d7] h' ∧ Sr h' s y (k + 1400) := by
  have W8 : Wd_ 8 = 1276 := by decide +kernel
  obtain ⟨w, g1, w0, w1, e1, f1, _, S1⟩ := draw_ok (m := 10) S (by omega) (by omega) (by omega)
  obtain ⟨n, hn⟩ := Int.eq_ofNat_of_zero_le (show 0 ≤ 1 + w by omega)
  obtain ⟨e, g2, e2, hd, hl, f2, S2⟩ := expr_ok 8 n (by omega) (by omega) S1 (by omega)
  have e2 : f__law_expression_N 8 [.ref s, .int (n : Nat), .int 8] g1 = .ok e.av g2 := e2
  have en := e.nx
  obtain ⟨g3, e3, f3⟩ := right_ok (h := g2) (Ex.tv (d := 12) (e := e) (by omega))
  have S3 := S2.fr f3 (Nat.le_refl _)
  obtain ⟨v, g4, e4, vn, vt, f4, S4⟩ := spoilt_ok 12 (q := 8) (by omega) (by omega) (.inr ⟨e, rfl, hd⟩ : Part 8 e.av) S3 (by omega)
  obtain ⟨g5, e5, f5⟩ := right_ok (vt.up (by omega))
  have S5 := S4.fr f5 (Nat.le_refl _)
  obtain ⟨g6, e6, f6⟩ := right_ok (h := g5) (Ex.tv (d := 12) (e := .b .a e e) (by simp only [Ex.dep]; omega))
  have e6 : f__law_is_right [.tup [.str (Str.ofString "+"), e.av, e.av]] g5 = .ok (.bl true) g6 := e6
  obtain ⟨m, xs, e7, hm⟩ := list_ex e hd g6
  have a7 : (g6 ++ [AO.lst xs])[m]? = some (.lst xs) := by
    rw [hm]
    exact at_last
  have f7 : Fr [] g6 (g6 ++ [AO.lst xs]) := Fr.app
  generalize g6 ++ [AO.lst xs] = g7 at e7 a7 f7
  obtain ⟨g8, e8, f8⟩ := right_ok (h := g7) (v := .ref m) (.inl (.inr (.inr (.inr (.inr ⟨m, xs, rfl, a7⟩)))))
  refine ⟨some e.av, g8, ?_, S5.fr ((f6.trans f7).trans f8) (by omega)⟩
  simp -implicitDefEqProofs [b_law_2, e1, hn, e2, en, e3, e4, vn, e5, mkT, SZ, e6, e7, e8]
theorem place_ok (ns : List Int) (pl : Nat) (hp : pl < 4) (h : Hep) (u1 u2 u3 u4 u6 u7 : Option AV) :
    ∃ c3 c6 c7 h', b_law_3 [some (.rol (ns.map .int)), u1, u2, u3, u4, some (.int pl), u6, u7] h = .nx [some (.rol (ns.map .int)), u1, u2, c3, u4, some (.int pl), c6, c7] h' := by
  obtain ⟨s, g1, r1, f1, _, y, S1⟩ := source_ok ns pl hp h
  have ef : dRg1 (dCons (dC (.int 12)) dNil) [some (.rol (ns.map .int)), u1, u2, u3, u4, some (.int pl), some (.ref s), u7] g1 = .ok (.fix (rngL 0 12)) g1 := rg1_ok (j := 12) rfl rfl (by omega)
  obtain ⟨s', h', e, ⟨c3, c7, es⟩, _⟩ := for_fix (body := b_law_2) (g := dgN 3) (fun i s' g => (∃ c3 c7, s' = [some (.rol (ns.map .int)), u1, u2, c3, u4, some (.int pl), some (.ref s), c7]) ∧ Sr g s y (0 + 1400 * i)) ef ⟨⟨u3, u7, rfl⟩, S1⟩
    (fun i s' g x hx ⟨⟨c3, c7, es⟩, S⟩ => by
      have hi : i < 12 := by
        have := (List.getElem?_eq_some_iff.mp hx).1
        simpa using this
      subst es
      obtain ⟨d7, g2, r2, S2⟩ := turn_ok S (by omega) (some (.rol (ns.map .int))) u1 u2 (some x) u4 (some (.int pl)) c7
      exact ⟨_, _, g2, rfl, .inl r2, ⟨_, _, rfl⟩, S2.fr Fr.refl (by omega)⟩)
  subst es
  refine ⟨c3, some (.ref s), c7, h', ?_⟩
  simp -implicitDefEqProofs [b_law_3, r1, e]
theorem law_true (ns : List Int) (hn : ns.length ≤ 63) : ∃ h, f_law [.rol (ns.map .int)] [] = .ok (.bl true) h := by
  have e0 : dAsg (dTup (dCons (dC (.str "c")) (dCons (dC (.str "d")) dNil))) (dgT (dgC (dgN 1) (dgC (dgN 2) dg0))) [some (.rol (ns.map .int)), none, none, none, none, none, none, none] [] = .nx (S8 (.rol (ns.map .int)) (.l true) (.l false) none none none none none) [] := by
    simp -implicitDefEqProofs [S8, Ex.av, lst, tup2]
  have ef1 : dRg1 (dCons (dC (.int 9)) dNil) (S8 (.rol (ns.map .int)) (.l true) (.l false) none none none none none) [] = .ok (.fix (rngL 0 9)) [] := rg1_ok (j := 9) rfl rfl (by omega)
  obtain ⟨s1, h1, e1, a, b, c3, c4, _, _, es1⟩ := for_fix (body := b_law_1) (g := dgN 3) (fun i s' g => ∃ (a b : Ex) (c3 c4 : Option AV), a.dep ≤ i ∧ b.dep ≤ i ∧ s' = S8 (.rol (ns.map .int)) a b c3 c4 none none none) ef1 ⟨.l true, .l false, none, none, Nat.le_refl _, Nat.le_refl _, rfl⟩
    (fun i s' g x hx ⟨a, b, c3, c4, ha, hb, es⟩ => by
      have hi : i < 9 := by
        have := (List.getElem?_eq_some_iff.mp hx).1
        simpa using this
      have xi : x = .int (i : Nat) := by
        unfold rngL at hx
        rw [List.getElem?_map, List.getElem?_range hi] at hx
        simpa using hx.symm
      subst xi
      subst es
      obtain ⟨a', b', o, g2, r2, da, db⟩ := first_turn (h := g) (a0 := .rol (ns.map .int)) hi ha hb c4 none none none
      exact ⟨_, _, g2, rfl, .inl r2, a', b', _, _, da, db, rfl⟩)
  subst es1
  have ef : dRg1 (dCons (dCB maxL (dCons (dC (.int 2)) (dCons (dCB minL (dCons (dC (.int 4)) (dCons (dCB lenL (dCons (dVar 0) dNil)) dNil))) dNil))) dNil) (S8 (.rol (ns.map .int)) a b c3 c4 none none none) h1 = .ok (.fix (rngL 0 (max 2 (min 4 ns.length)))) h1 := rg1_ok (j := ((max 2 (min 4 ns.length) : Nat) : Int)) (by
    simp -implicitDefEqProofs [S8, lenL, lenA, maxL, minL]
    omega) rfl (by omega)
  obtain ⟨s', h', e, c1, c2, c3', c4', c5, c6, c7, es⟩ := for_fix (body := b_law_3) (g := dgN 5) (fun i s' g => ∃ c1 c2 c3 c4 c5 c6 c7, s' = [some (.rol (ns.map .int)), c1, c2, c3, c4, c5, c6, c7]) ef ⟨_, _, _, _, _, _, _, rfl⟩
    (fun i s' g x hx ⟨c1, c2, c3, c4, c5, c6, c7, es⟩ => by
      have hi : i < max 2 (min 4 ns.length) := by
        have := (List.getElem?_eq_some_iff.mp hx).1
        simpa using this
      have xi : x = .int (i : Nat) := by
        unfold rngL at hx
        rw [List.getElem?_map, List.getElem?_range hi] at hx
        simpa using hx.symm
      subst xi
      obtain ⟨d3, d6, d7, g2, r2⟩ := place_ok ns i (by omega) g c1 c2 c3 c4 c6 c7
      subst es
      exact ⟨_, _, g2, rfl, .inl r2, _, _, _, _, _, _, _, rfl⟩)
  subst es
  refine ⟨h', ?_⟩
  have s0 : dStart 8 [.rol (ns.map .int)] = [some (.rol (ns.map .int)), none, none, none, none, none, none, none] := rfl
  show (p_law (dStart 8 [.rol (ns.map .int)]) []).fin = _
  rw [s0]
  unfold p_law
  rw [xSeq, e0, SR.then_nx, xSeq, e1, SR.then_nx, xSeq, e, SR.then_nx]
  rfl
end Q
namespace Q
open PySem PySem.Spec PyProof.Rows L2 Dn
set_option maxHeartbeats 0
theorem alN {α : Type} {p : α → Prop} : ∀ b ∈ ([] : List α), p b := fun b h => by cases h
theorem alC {α : Type} {p : α → Prop} {a : α} {l : List α} (h : p a) (t : ∀ b ∈ l, p b) : ∀ b ∈ a :: l, p b := fun b m => by
  rcases List.mem_cons.mp m with rfl | m
  · exact h
  · exact t b m
theorem okE {P : Program} {w : World} {K : PySem.W.Frag} {mg : Str → Option Value} {base : Heap} {k : Nat} {f : Addr} {fd : FuncData} {ps : List Str} {W : Wd} {n : Nat} {G G2 : DF} (r : FnOk P w K mg base (L2.CX P w) k f fd ps (spD W n G2)) (h : G = G2) : FnOk P w K mg base (L2.CX P w) k f fd ps (spD W n G) := by
  rw [h]
  exact r
theorem okGE {P : Program} {w : World} {K : PySem.W.Frag} {mg : Str → Option Value} {base : Heap} {k : Nat} {f : Addr} {fd : FuncData} {ps : List Str} {W : Wd} {n : Nat} {G G2 : DF} (r : FnG P w K mg base (L2.CX P w) k f fd ps (spD W n G2)) (h : G = G2) : FnG P w K mg base (L2.CX P w) k f fd ps (spD W n G) := by
  rw [h]
  exact r
section
local macro_rules | `(tactic| trivial) => `(tactic| first | exact .inl rfl | exact .inr rfl)
variable {P : Program} {w : World} {mg : Str → Option Value} {base : Heap} {W : Wd} {f : Addr} {fd : FuncData}
abbrev FnP (W : Wd) (st : Stmt) (x q : Str) (dvs : List V) (kws : List (Str × V)) (f : Addr) (fd : FuncData) : Prop := FunD W.K x q (defArgs st) (defBody st) (defScope st) dvs kws f fd
theorem kr_LETTERS_expressions {W : Wd} : ∀ io H, RVs W io H [(.str "c"), (.str "d")] [(.str "c"), (.str "d")] := fun io H => .cons ((.str _)) (.cons ((.str _)) (.nil))
theorem kr_ONE_SIDED {W : Wd} : ∀ io H, RVs W io H [(.str "+"), (.str "-")] [(.str "+"), (.str "-")] := fun io H => .cons ((.str _)) (.cons ((.str _)) (.nil))
theorem kr_TWO_SIDED {W : Wd} : ∀ io H, RVs W io H [(.str "+"), (.str "-"), (.str "|"), (.str "&")] [(.str "+"), (.str "-"), (.str "|"), (.str "&")] := fun io H => .cons ((.str _)) (.cons ((.str _)) (.cons ((.str _)) (.cons ((.str _)) (.nil))))
theorem sc__law_has_form_0 : FnScope ["_law_thing", "_law_part"] ["_law_thing"] (defScope (top 73)) := ⟨rfl, rfl, rfl, by decide +kernel, rfl, by decide +kernel, by decide +kernel⟩
theorem ok__law_has_form_0 (hW : W.ct = ct0) (hN : W.fn = fn0) (F : FnP W (top 73) "_law_has_form" "_law_has_form" [] [] f fd) (b_isinstance : mg "isinstance" = none) (b_str : mg "str" = none) (b_tuple : mg "tuple" = none) (b_len : mg "len" = none) (b_all : mg "all" = none) : FnB P w mg base W 2 f fd ["_law_thing"] 1 f__law_has_form_0 [(1, [], [0], [])] := by
  have nd : (["_law_thing", "_law_part"] : List Str).Nodup := sc__law_has_form_0.nd
  refine ⟨F.kp, okE (fnD F sc__law_has_form_0 rfl fun cdv A outer s H E hr tk => ?_) rfl, alC (bnN F 1 [] [0] fun _ _ _ _ _ _ us ws h1 h2 => match us, h1, ws, h2 with | [_], _, [], _ => by kernel_rfl) alN⟩
  exact (ssC (sIf (tstD (bD (cIsiE rfl hW) b_isinstance bt_isinstance (aD (vv 0) (aD (tyD b_str bt_str) nD))))
  (ss1 (sRet (cmD (oIn rfl (ru5 hr)) (vv 0) (tupD (aD sD (aD sD nD))) rfl)))
  ss0) (ssC (sIf (ptW (orD (notD (tstD (bD (cIsiE rfl hW) b_isinstance bt_isinstance (aD (vv 0) (aD (tyD b_tuple bt_tuple) nD))))) (orD (cmT (oNotIn rfl (ru5 hr)) (bD (cLen rfl) b_len bt_len (aD (vv 0) nD)) (tupD (aD iD (aD iD nD))) rfl) (or1D (notD (tstD (bD (cIsiE rfl hW) b_isinstance bt_isinstance (aD (ixD (xIdx rfl (ru1 hr)) (vv 0) iD fun _ _ => rfl) (aD (tyD b_str bt_str) nD)))))))))
  (ss1 (sRet bD0))
  ss0) (ssC (sIf (cmT (oNotIn rfl (ru5 hr)) (ixD (xIdx rfl (ru1 hr)) (vv 0) iD fun _ _ => rfl) (slcD rfl (lstD (aD sD (aD sD (aD sD (aD sD nD))))) noP (prtD (opD oSub (opD (oMul rfl) iD (bD (cLen rfl) b_len bt_len (aD (vv 0) nD))) iD))) rfl)
  (ss1 (sRet bD0))
  ss0) (ss1 (sRet (bD (cAll rfl rfl) b_all bt_all (aD (lcD (own := [("_law_part", 1)]) rfl nd (srcD rfl (slcD rfl (vv 0) (prtD iD) noP)) (blkOk (by kernel_rfl)) (fun _ _ _ _ _ => (gN nd rfl (by trivial) trivial (fun σ v => wipe_set σ (by decide)))) (fun _ _ _ _ _ => yesD) (fun _ _ _ _ _ => wallE) (fun _ _ => trivial)) nD)))))))
theorem ok__law_has_form_P {FR : DF} {lv : Nat} (hlv : 0 ≤ lv) (hW : W.ct = ct0) (hN : W.fn = fn0) (F : FnP W (top 73) "_law_has_form" "_law_has_form" [] [] f fd) (b_isinstance : mg "isinstance" = none) (b_str : mg "str" = none) (b_tuple : mg "tuple" = none) (b_len : mg "len" = none) (b_all : mg "all" = none) (H__law_has_form_0 : Has P w mg base W lv "_law_has_form" ["_law_thing"] 1 FR [(1, [], [0], [])]) : FnB P w mg base W (lv + 2) f fd ["_law_thing"] 1 (f__law_has_form_P FR) [(1, [], [0], [])] := by
  have nd : (["_law_thing", "_law_part"] : List Str).Nodup := sc__law_has_form_0.nd
  refine ⟨F.kp, okE (fnD F sc__law_has_form_0 rfl fun cdv A outer s H E hr tk => ?_) rfl, alC (bnN F 1 [] [0] fun _ _ _ _ _ _ us ws h1 h2 => match us, h1, ws, h2 with | [_], _, [], _ => by kernel_rfl) alN⟩
  exact (ssC (sIf (tstD (bD (cIsiE rfl hW) b_isinstance bt_isinstance (aD (vv 0) (aD (tyD b_str bt_str) nD))))
  (ss1 (sRet (cmD (oIn rfl (ru5 hr)) (vv 0) (tupD (aD sD (aD sD nD))) rfl)))
  ss0) (ssC (sIf (ptW (orD (notD (tstD (bD (cIsiE rfl hW) b_isinstance bt_isinstance (aD (vv 0) (aD (tyD b_tuple bt_tuple) nD))))) (orD (cmT (oNotIn rfl (ru5 hr)) (bD (cLen rfl) b_len bt_len (aD (vv 0) nD)) (tupD (aD iD (aD iD nD))) rfl) (or1D (notD (tstD (bD (cIsiE rfl hW) b_isinstance bt_isinstance (aD (ixD (xIdx rfl (ru1 hr)) (vv 0) iD fun _ _ => rfl) (aD (tyD b_str bt_str) nD)))))))))
  (ss1 (sRet bD0))
  ss0) (ssC (sIf (cmT (oNotIn rfl (ru5 hr)) (ixD (xIdx rfl (ru1 hr)) (vv 0) iD fun _ _ => rfl) (slcD rfl (lstD (aD sD (aD sD (aD sD (aD sD nD))))) noP (prtD (opD oSub (opD (oMul rfl) iD (bD (cLen rfl) b_len bt_len (aD (vv 0) nD))) iD))) rfl)
  (ss1 (sRet bD0))
  ss0) (ss1 (sRet (bD (cAll rfl rfl) b_all bt_all (aD (lcD (own := [("_law_part", 1)]) rfl nd (srcD rfl (slcD rfl (vv 0) (prtD iD) noP)) (blkOk (by kernel_rfl)) (fun _ _ _ _ _ => (gN nd rfl (by trivial) trivial (fun σ v => wipe_set σ (by decide)))) (fun _ _ _ _ _ => yesD) (fun _ _ _ _ _ => (callH H__law_has_form_0 0 rfl rfl hr (by omega) rfl tkE0 (aD (vv 1) nD) kNil)) (fun _ _ => trivial)) nD)))))))
theorem sc__law_letters_0 : FnScope ["_law_thing", "_law_part"] ["_law_thing"] (defScope (top 71)) := ⟨rfl, rfl, rfl, by decide +kernel, rfl, by decide +kernel, by decide +kernel⟩
theorem ok__law_letters_0 (hW : W.ct = ct0) (hN : W.fn = fn0) (F : FnP W (top 71) "_law_letters" "_law_letters" [] [] f fd) (b_isinstance : mg "isinstance" = none) (b_str : mg "str" = none) (b_sum : mg "sum" = none) : FnB P w mg base W 2 f fd ["_law_thing"] 1 f__law_letters_0 [(1, [], [0], [])] := by
  have nd : (["_law_thing", "_law_part"] : List Str).Nodup := sc__law_letters_0.nd
  refine ⟨F.kp, okE (fnD F sc__law_letters_0 rfl fun cdv A outer s H E hr tk => ?_) rfl, alC (bnN F 1 [] [0] fun _ _ _ _ _ _ us ws h1 h2 => match us, h1, ws, h2 with | [_], _, [], _ => by kernel_rfl) alN⟩
  exact (ss1 (sRet (ifD (tstD (bD (cIsiE rfl hW) b_isinstance bt_isinstance (aD (vv 0) (aD (tyD b_str bt_str) nD)))) iD (bD (cSum rfl rfl) b_sum bt_sum (aD (lcD (own := [("_law_part", 1)]) rfl nd (srcD rfl (slcD rfl (vv 0) (prtD iD) noP)) (blkOk (by kernel_rfl)) (fun _ _ _ _ _ => (gN nd rfl (by trivial) trivial (fun σ v => wipe_set σ (by decide)))) (fun _ _ _ _ _ => yesD) (fun _ _ _ _ _ => wallE) (fun _ _ => trivial)) nD)))))
theorem ok__law_letters_P {FR : DF} {lv : Nat} (hlv : 0 ≤ lv) (hW : W.ct = ct0) (hN : W.fn = fn0) (F : FnP W (top 71) "_law_letters" "_law_letters" [] [] f fd) (b_isinstance : mg "isinstance" = none) (b_str : mg "str" = none) (b_sum : mg "sum" = none) (H__law_letters_0 : Has P w mg base W lv "_law_letters" ["_law_thing"] 1 FR [(1, [], [0], [])]) : FnB P w mg base W (lv + 2) f fd ["_law_thing"] 1 (f__law_letters_P FR) [(1, [], [0], [])] := by
  have nd : (["_law_thing", "_law_part"] : List Str).Nodup := sc__law_letters_0.nd
  refine ⟨F.kp, okE (fnD F sc__law_letters_0 rfl fun cdv A outer s H E hr tk => ?_) rfl, alC (bnN F 1 [] [0] fun _ _ _ _ _ _ us ws h1 h2 => match us, h1, ws, h2 with | [_], _, [], _ => by kernel_rfl) alN⟩
  exact (ss1 (sRet (ifD (tstD (bD (cIsiE rfl hW) b_isinstance bt_isinstance (aD (vv 0) (aD (tyD b_str bt_str) nD)))) iD (bD (cSum rfl rfl) b_sum bt_sum (aD (lcD (own := [("_law_part", 1)]) rfl nd (srcD rfl (slcD rfl (vv 0) (prtD iD) noP)) (blkOk (by kernel_rfl)) (fun _ _ _ _ _ => (gN nd rfl (by trivial) trivial (fun σ v => wipe_set σ (by decide)))) (fun _ _ _ _ _ => yesD) (fun _ _ _ _ _ => (callH H__law_letters_0 0 rfl rfl hr (by omega) rfl tkE0 (aD (vv 1) nD) kNil)) (fun _ _ => trivial)) nD)))))
theorem sc__law_depth_0 : FnScope ["_law_thing", "_law_part"] ["_law_thing"] (defScope (top 72)) := ⟨rfl, rfl, rfl, by decide +kernel, rfl, by decide +kernel, by decide +kernel⟩
theorem ok__law_depth_0 (hW : W.ct = ct0) (hN : W.fn = fn0) (F : FnP W (top 72) "_law_depth" "_law_depth" [] [] f fd) (b_isinstance : mg "isinstance" = none) (b_str : mg "str" = none) (b_max : mg "max" = none) (b_int : mg "int" = none) : FnB P w mg base W 2 f fd ["_law_thing"] 1 f__law_depth_0 [(1, [], [0], [])] := by
  have nd : (["_law_thing", "_law_part"] : List Str).Nodup := sc__law_depth_0.nd
  refine ⟨F.kp, okE (fnD F sc__law_depth_0 rfl fun cdv A outer s H E hr tk => ?_) rfl, alC (bnN F 1 [] [0] fun _ _ _ _ _ _ us ws h1 h2 => match us, h1, ws, h2 with | [_], _, [], _ => by kernel_rfl) alN⟩
  exact (ss1 (sRet (ifD (tstD (bD (cIsiE rfl hW) b_isinstance bt_isinstance (aD (vv 0) (aD (tyD b_str bt_str) nD)))) iD (opD (oAdd rfl) iD (bD (cMaxL rfl rfl) b_max bt_max (aD (lcD (own := [("_law_part", 1)]) rfl nd (srcD rfl (slcD rfl (vv 0) (prtD iD) noP)) (blkOk (by kernel_rfl)) (fun _ _ _ _ _ => (gN nd rfl (by trivial) trivial (fun σ v => wipe_set σ (by decide)))) (fun _ _ _ _ _ => yesD) (fun _ _ _ _ _ => (yD cInt b_int bt_int (aD wallE nD))) (fun _ _ => trivial)) nD))))))
theorem ok__law_depth_P {FR : DF} {lv : Nat} (hlv : 0 ≤ lv) (hW : W.ct = ct0) (hN : W.fn = fn0) (F : FnP W (top 72) "_law_depth" "_law_depth" [] [] f fd) (b_isinstance : mg "isinstance" = none) (b_str : mg "str" = none) (b_max : mg "max" = none) (b_int : mg "int" = none) (H__law_depth_0 : Has P w mg base W lv "_law_depth" ["_law_thing"] 1 FR [(1, [], [0], [])]) : FnB P w mg base W (lv + 2) f fd ["_law_thing"] 1 (f__law_depth_P FR) [(1, [], [0], [])] := by
  have nd : (["_law_thing", "_law_part"] : List Str).Nodup := sc__law_depth_0.nd
  refine ⟨F.kp, okE (fnD F sc__law_depth_0 rfl fun cdv A outer s H E hr tk => ?_) rfl, alC (bnN F 1 [] [0] fun _ _ _ _ _ _ us ws h1 h2 => match us, h1, ws, h2 with | [_], _, [], _ => by kernel_rfl) alN⟩
  exact (ss1 (sRet (ifD (tstD (bD (cIsiE rfl hW) b_isinstance bt_isinstance (aD (vv 0) (aD (tyD b_str bt_str) nD)))) iD (opD (oAdd rfl) iD (bD (cMaxL rfl rfl) b_max bt_max (aD (lcD (own := [("_law_part", 1)]) rfl nd (srcD rfl (slcD rfl (vv 0) (prtD iD) noP)) (blkOk (by kernel_rfl)) (fun _ _ _ _ _ => (gN nd rfl (by trivial) trivial (fun σ v => wipe_set σ (by decide)))) (fun _ _ _ _ _ => yesD) (fun _ _ _ _ _ => (yD cInt b_int bt_int (aD (callH H__law_depth_0 0 rfl rfl hr (by omega) rfl tkE0 (aD (vv 1) nD) kNil) nD))) (fun _ _ => trivial)) nD))))))
theorem sc_has_form_0 : FnScope ["thing", "depth", "sign", "parts", "part"] ["thing", "depth"] (defScope (top 46)) := ⟨rfl, rfl, rfl, by decide +kernel, rfl, by decide +kernel, by decide +kernel⟩
theorem ok_has_form_0 (hW : W.ct = ct0) (hN : W.fn = fn0) (F : FnP W (top 46) "has_form" "has_form" [] [] f fd) (b_isinstance : mg "isinstance" = none) (b_str : mg "str" = none) (c_LETTERS_expressions : ∃ a, mg "LETTERS_expressions" = some (.ref a) ∧ ∀ H, SqT W.K H a [(.str "c"), (.str "d")]) (b_tuple : mg "tuple" = none) (b_len : mg "len" = none) (c_ONE_SIDED : ∃ a, mg "ONE_SIDED" = some (.ref a) ∧ ∀ H, SqT W.K H a [(.str "+"), (.str "-")]) (c_TWO_SIDED : ∃ a, mg "TWO_SIDED" = some (.ref a) ∧ ∀ H, SqT W.K H a [(.str "+"), (.str "-"), (.str "|"), (.str "&")]) (b_all : mg "all" = none) : FnB P w mg base W 2 f fd ["thing", "depth"] 2 f_has_form_0 [(2, [], [0, 1], [])] := by
  have nd : (["thing", "depth", "sign", "parts", "part"] : List Str).Nodup := sc_has_form_0.nd
  refine ⟨F.kp, okE (fnD F sc_has_form_0 rfl fun cdv A outer s H E hr tk => ?_) rfl, alC (bnN F 2 [] [0, 1] fun _ _ _ _ _ _ us ws h1 h2 => match us, h1, ws, h2 with | [_, _], _, [], _ => by kernel_rfl) alN⟩
  exact (ssC (sIf (tstD (bD (cIsiE rfl hW) b_isinstance bt_isinstance (aD (vv 0) (aD (tyD b_str bt_str) nD))))
  (ss1 (sRet (cmD (oIn rfl (ru5 hr)) (vv 0) (gcD c_LETTERS_expressions.choose_spec.1 (y := .ref _) rfl fun io H => .tup (c_LETTERS_expressions.choose_spec.2 H) (kr_LETTERS_expressions io H)) rfl)))
  ss0) (ssC (sIf (ptW (orD (notD (tstD (bD (cIsiE rfl hW) b_isinstance bt_isinstance (aD (vv 0) (aD (tyD b_tuple bt_tuple) nD))))) (orD (cmT (oNotIn rfl (ru5 hr)) (bD (cLen rfl) b_len bt_len (aD (vv 0) nD)) (tupD (aD iD (aD iD nD))) rfl) (orD (notD (tstD (bD (cIsiE rfl hW) b_isinstance bt_isinstance (aD (ixD (xIdx rfl (ru1 hr)) (vv 0) iD fun _ _ => rfl) (aD (tyD b_str bt_str) nD))))) (or1D (cmT (oEq rfl (ru hr)) (vv 1) iD (nomark _)))))))
  (ss1 (sRet bD0))
  ss0) (ssC (sStar rfl rfl (vv 0) (gsC anyC_ok (gN nd rfl (by trivial) trivial (fun _ _ => trivial)) (gsS anyC_ok (gN nd rfl (by trivial) trivial (fun _ _ => trivial)) (gs0 anyC_ok)))) (ssC (sIf (cmT (oNotIn rfl (ru5 hr)) (vv 2) (ifD (cmT (oEq rfl (ru hr)) (bD (cLen rfl) b_len bt_len (aD (vv 3) nD)) iD (nomark _)) (gcD c_ONE_SIDED.choose_spec.1 (y := .ref _) rfl fun io H => .tup (c_ONE_SIDED.choose_spec.2 H) (kr_ONE_SIDED io H)) (gcD c_TWO_SIDED.choose_spec.1 (y := .ref _) rfl fun io H => .tup (c_TWO_SIDED.choose_spec.2 H) (kr_TWO_SIDED io H))) rfl)
  (ss1 (sRet bD0))
  ss0) (ss1 (sRet (bD (cAll rfl rfl) b_all bt_all (aD (lcD (own := [("part", 4)]) rfl nd (srcD rfl (vv 3)) (blkOk (by kernel_rfl)) (fun _ _ _ _ _ => (gN nd rfl (by trivial) trivial (fun σ v => wipe_set σ (by decide)))) (fun _ _ _ _ _ => yesD) (fun _ _ _ _ _ => wallE) (fun _ _ => trivial)) nD))))))))
theorem ok_has_form_P {FR : DF} {lv : Nat} (hlv : 0 ≤ lv) (hW : W.ct = ct0) (hN : W.fn = fn0) (F : FnP W (top 46) "has_form" "has_form" [] [] f fd) (b_isinstance : mg "isinstance" = none) (b_str : mg "str" = none) (c_LETTERS_expressions : ∃ a, mg "LETTERS_expressions" = some (.ref a) ∧ ∀ H, SqT W.K H a [(.str "c"), (.str "d")]) (b_tuple : mg "tuple" = none) (b_len : mg "len" = none) (c_ONE_SIDED : ∃ a, mg "ONE_SIDED" = some (.ref a) ∧ ∀ H, SqT W.K H a [(.str "+"), (.str "-")]) (c_TWO_SIDED : ∃ a, mg "TWO_SIDED" = some (.ref a) ∧ ∀ H, SqT W.K H a [(.str "+"), (.str "-"), (.str "|"), (.str "&")]) (b_all : mg "all" = none) (H_has_form_0 : Has P w mg base W lv "has_form" ["thing", "depth"] 2 FR [(2, [], [0, 1], [])]) : FnB P w mg base W (lv + 2) f fd ["thing", "depth"] 2 (f_has_form_P FR) [(2, [], [0, 1], [])] := by
  have nd : (["thing", "depth", "sign", "parts", "part"] : List Str).Nodup := sc_has_form_0.nd
  refine ⟨F.kp, okE (fnD F sc_has_form_0 rfl fun cdv A outer s H E hr tk => ?_) rfl, alC (bnN F 2 [] [0, 1] fun _ _ _ _ _ _ us ws h1 h2 => match us, h1, ws, h2 with | [_, _], _, [], _ => by kernel_rfl) alN⟩
  exact (ssC (sIf (tstD (bD (cIsiE rfl hW) b_isinstance bt_isinstance (aD (vv 0) (aD (tyD b_str bt_str) nD))))
  (ss1 (sRet (cmD (oIn rfl (ru5 hr)) (vv 0) (gcD c_LETTERS_expressions.choose_spec.1 (y := .ref _) rfl fun io H => .tup (c_LETTERS_expressions.choose_spec.2 H) (kr_LETTERS_expressions io H)) rfl)))
  ss0) (ssC (sIf (ptW (orD (notD (tstD (bD (cIsiE rfl hW) b_isinstance bt_isinstance (aD (vv 0) (aD (tyD b_tuple bt_tuple) nD))))) (orD (cmT (oNotIn rfl (ru5 hr)) (bD (cLen rfl) b_len bt_len (aD (vv 0) nD)) (tupD (aD iD (aD iD nD))) rfl) (orD (notD (tstD (bD (cIsiE rfl hW) b_isinstance bt_isinstance (aD (ixD (xIdx rfl (ru1 hr)) (vv 0) iD fun _ _ => rfl) (aD (tyD b_str bt_str) nD))))) (or1D (cmT (oEq rfl (ru hr)) (vv 1) iD (nomark _)))))))
  (ss1 (sRet bD0))
  ss0) (ssC (sStar rfl rfl (vv 0) (gsC anyC_ok (gN nd rfl (by trivial) trivial (fun _ _ => trivial)) (gsS anyC_ok (gN nd rfl (by trivial) trivial (fun _ _ => trivial)) (gs0 anyC_ok)))) (ssC (sIf (cmT (oNotIn rfl (ru5 hr)) (vv 2) (ifD (cmT (oEq rfl (ru hr)) (bD (cLen rfl) b_len bt_len (aD (vv 3) nD)) iD (nomark _)) (gcD c_ONE_SIDED.choose_spec.1 (y := .ref _) rfl fun io H => .tup (c_ONE_SIDED.choose_spec.2 H) (kr_ONE_SIDED io H)) (gcD c_TWO_SIDED.choose_spec.1 (y := .ref _) rfl fun io H => .tup (c_TWO_SIDED.choose_spec.2 H) (kr_TWO_SIDED io H))) rfl)
  (ss1 (sRet bD0))
  ss0) (ss1 (sRet (bD (cAll rfl rfl) b_all bt_all (aD (lcD (own := [("part", 4)]) rfl nd (srcD rfl (vv 3)) (blkOk (by kernel_rfl)) (fun _ _ _ _ _ => (gN nd rfl (by trivial) trivial (fun σ v => wipe_set σ (by decide)))) (fun _ _ _ _ _ => yesD) (fun _ _ _ _ _ => (callH H_has_form_0 0 rfl rfl hr (by omega) rfl tkE0 (aD (vv 4) (aD (opD oSub (vv 1) iD) nD)) kNil)) (fun _ _ => trivial)) nD))))))))
theorem sc_letters_of_0 : FnScope ["expression", "part"] ["expression"] (defScope (top 45)) := ⟨rfl, rfl, rfl, by decide +kernel, rfl, by decide +kernel, by decide +kernel⟩
theorem ok_letters_of_0 (hW : W.ct = ct0) (hN : W.fn = fn0) (F : FnP W (top 45) "letters_of" "letters_of" [] [] f fd) (b_isinstance : mg "isinstance" = none) (b_str : mg "str" = none) (b_sum : mg "sum" = none) : FnB P w mg base W 2 f fd ["expression"] 1 f_letters_of_0 [(1, [], [0], [])] := by
  have nd : (["expression", "part"] : List Str).Nodup := sc_letters_of_0.nd
  refine ⟨F.kp, okE (fnD F sc_letters_of_0 rfl fun cdv A outer s H E hr tk => ?_) rfl, alC (bnN F 1 [] [0] fun _ _ _ _ _ _ us ws h1 h2 => match us, h1, ws, h2 with | [_], _, [], _ => by kernel_rfl) alN⟩
  exact (ssC (sIf (tstD (bD (cIsiE rfl hW) b_isinstance bt_isinstance (aD (vv 0) (aD (tyD b_str bt_str) nD))))
  (ss1 (sRet iD))
  ss0) (ss1 (sRet (bD (cSum rfl rfl) b_sum bt_sum (aD (lcD (own := [("part", 1)]) rfl nd (srcD rfl (slcD rfl (vv 0) (prtD iD) noP)) (blkOk (by kernel_rfl)) (fun _ _ _ _ _ => (gN nd rfl (by trivial) trivial (fun σ v => wipe_set σ (by decide)))) (fun _ _ _ _ _ => yesD) (fun _ _ _ _ _ => wallE) (fun _ _ => trivial)) nD)))))
theorem ok_letters_of_P {FR : DF} {lv : Nat} (hlv : 0 ≤ lv) (hW : W.ct = ct0) (hN : W.fn = fn0) (F : FnP W (top 45) "letters_of" "letters_of" [] [] f fd) (b_isinstance : mg "isinstance" = none) (b_str : mg "str" = none) (b_sum : mg "sum" = none) (H_letters_of_0 : Has P w mg base W lv "letters_of" ["expression"] 1 FR [(1, [], [0], [])]) : FnB P w mg base W (lv + 2) f fd ["expression"] 1 (f_letters_of_P FR) [(1, [], [0], [])] := by
  have nd : (["expression", "part"] : List Str).Nodup := sc_letters_of_0.nd
  refine ⟨F.kp, okE (fnD F sc_letters_of_0 rfl fun cdv A outer s H E hr tk => ?_) rfl, alC (bnN F 1 [] [0] fun _ _ _ _ _ _ us ws h1 h2 => match us, h1, ws, h2 with | [_], _, [], _ => by kernel_rfl) alN⟩
  exact (ssC (sIf (tstD (bD (cIsiE rfl hW) b_isinstance bt_isinstance (aD (vv 0) (aD (tyD b_str bt_str) nD))))
  (ss1 (sRet iD))
  ss0) (ss1 (sRet (bD (cSum rfl rfl) b_sum bt_sum (aD (lcD (own := [("part", 1)]) rfl nd (srcD rfl (slcD rfl (vv 0) (prtD iD) noP)) (blkOk (by kernel_rfl)) (fun _ _ _ _ _ => (gN nd rfl (by trivial) trivial (fun σ v => wipe_set σ (by decide)))) (fun _ _ _ _ _ => yesD) (fun _ _ _ _ _ => (callH H_letters_of_0 0 rfl rfl hr (by omega) rfl tkE0 (aD (vv 1) nD) kNil)) (fun _ _ => trivial)) nD)))))
theorem sc_is_expression : FnScope ["thing"] ["thing"] (defScope (top 47)) := ⟨rfl, rfl, rfl, by decide +kernel, rfl, by decide +kernel, by decide +kernel⟩
theorem ok_is_expression (hW : W.ct = ct0) (hN : W.fn = fn0) (F : FnP W (top 47) "is_expression" "is_expression" [] [] f fd) (c_MOST_DEPTH : ∃ t, mg "MOST_DEPTH" = some (.int 8 t)) (c_MOST_LETTERS_expressions : ∃ t, mg "MOST_LETTERS_expressions" = some (.int 10 t)) (H_has_form_8 : Has P w mg base W 18 "has_form" ["thing", "depth"] 2 f_has_form_8 [(2, [], [0, 1], [])]) (H_letters_of_8 : Has P w mg base W 18 "letters_of" ["expression"] 1 f_letters_of_8 [(1, [], [0], [])]) : FnB P w mg base W 20 f fd ["thing"] 1 f_is_expression [(1, [], [0], [])] := by
  have nd : (["thing"] : List Str).Nodup := sc_is_expression.nd
  refine ⟨F.kp, okE (fnD F sc_is_expression rfl fun cdv A outer s H E hr tk => ?_) rfl, alC (bnN F 1 [] [0] fun _ _ _ _ _ _ us ws h1 h2 => match us, h1, ws, h2 with | [_], _, [], _ => by kernel_rfl) alN⟩
  exact (ss1 (sRet (andVD (callH H_has_form_8 0 rfl rfl hr (by decide) rfl tk (aD (vv 0) (aD (gcD c_MOST_DEPTH.choose_spec (y := (.int 8)) ⟨_, rfl⟩ fun _ _ => .int _) nD)) kNil) (oneVD (cmD oLe (callH H_letters_of_8 0 rfl rfl hr (by decide) rfl tk (aD (vv 0) nD) kNil) (gcD c_MOST_LETTERS_expressions.choose_spec (y := (.int 10)) ⟨_, rfl⟩ fun _ _ => .int _) (nomark _))))))
theorem sc__law_error : FnScope ["_law_call", "e"] ["_law_call"] (defScope (top 75)) := ⟨rfl, rfl, rfl, by decide +kernel, rfl, by decide +kernel, by decide +kernel⟩
theorem ok__law_error (hW : W.ct = ct0) (hN : W.fn = fn0) (F : FnP W (top 75) "_law_error" "_law_error" [] [] f fd) (mgf : mg "_law_error" = some (.ref f)) (k_BadExpression : mg "BadExpression" = some (.ref (W.cl 3))) (b_isinstance : mg "isinstance" = none) (k_CountError : mg "CountError" = some (.ref (W.cl 4))) (b_ValueError : mg "ValueError" = none) (XW : XWd W xt0) (XO_CountError : XOk W xt0 4) : HasL P w mg base W 2 "_law_error" false f__law_error := by
  have nd : (["_law_call", "e"] : List Str).Nodup := sc__law_error.nd
  refine ⟨f, fd, _, _, _, ["_law_call", "e"], "_law_call", p__law_error, mgf, F, fun s us _ hl => ?_, sc__law_error, rfl, Or.inl rfl, by decide, by decide, rfl, fun cdv A outer s H E hgl hr tk fL cL qL io0 H0 act tl AP AS => ?_⟩
  · rw [List.append_nil] at hl ⊢
    exact FunD.bindsA (ps := ["_law_call"]) F (fun _ _ _ _ _ _ us hl => match us, hl with | [_], _ => rfl) s us hl
  · skip
    exact (ssC (sTryG ml_mz XW rfl rfl rfl tk (fun E1 pn xe tkt pxt =>
  (ss1 (sExpr (actD AP AS tkt)))) (.as ⟨rfl, by decide, .inl k_BadExpression⟩ (by decide) (by decide) (by show _ ≠ 0; decide) nd rfl rfl (fun a oe pn t fs d t1 t2 z1 z2 => (ss1 (sRet (andVD (isOD XO_CountError XW rfl t1 t2 z1 z2 b_isinstance (vt 1) k_CountError) (oneVD (isXDG XW rfl t1 t2 z1 z2 b_isinstance (vt 1) b_ValueError bt_ValueError)))))) .nil)) (ss1 (sRet bD0)))
theorem sc_smallest : FnScope ["expression", "many", "counts", "m", "n", "known"] ["expression"] (defScope (top 65)) := ⟨rfl, rfl, rfl, by decide +kernel, rfl, by decide +kernel, by decide +kernel⟩
theorem ok_smallest (hW : W.ct = ct0) (hN : W.fn = fn0) (F : FnP W (top 65) "smallest" "smallest" [] [] f fd) (c_MOST_SMALL : ∃ t, mg "MOST_SMALL" = some (.int 4 t)) (b_tuple : mg "tuple" = none) (H_is_expression : Has P w mg base W 20 "is_expression" ["thing"] 1 f_is_expression [(1, [], [0], [])]) (H_letters_of_8 : Has P w mg base W 18 "letters_of" ["expression"] 1 f_letters_of_8 [(1, [], [0], [])]) (X0_BadExpression : HasX0 mg W 3 "BadExpression") : FnB P w mg base W 22 f fd ["expression"] 1 f_smallest [(1, [], [0], [])] := by
  have nd : (["expression", "many", "counts", "m", "n", "known"] : List Str).Nodup := sc_smallest.nd
  refine ⟨F.kp, okE (fnD F sc_smallest rfl fun cdv A outer s H E hr tk => ?_) rfl, alC (bnN F 1 [] [0] fun _ _ _ _ _ _ us ws h1 h2 => match us, h1, ws, h2 with | [_], _, [], _ => by kernel_rfl) alN⟩
  exact (ssC (sIf (ptW (orD (notD (tstD (callH H_is_expression 0 rfl rfl hr (by decide) rfl tk (aD (vv 0) nD) kNil))) (or1D (cmT oGt (callH H_letters_of_8 0 rfl rfl hr (by decide) rfl tk (aD (vv 0) nD) kNil) (gcD c_MOST_SMALL.choose_spec (y := (.int 4)) ⟨_, rfl⟩ fun _ _ => .int _) (nomark _)))))
  (ss1 (sRaise0 X0_BadExpression rfl rfl tk))
  ss0) (ssC (sSet nd (i := 1) rfl (by trivial) (callH H_letters_of_8 0 rfl rfl hr (by decide) rfl tk (aD (vv 0) nD) kNil) trivial) (ssC (sSet nd (i := 2) rfl (by trivial) (yD (cTuple rfl) b_tuple bt_tuple (aD (lcD (own := [("m", 3), ("n", 4)]) rfl nd (srcD rfl wallE) (blkOk (by kernel_rfl)) (fun _ _ _ _ _ => (gT rfl rfl (gsC (wipC_ok _) (gN nd rfl (by trivial) trivial (fun σ v => wipe_set σ (by decide))) (gsC (wipC_ok _) (gN nd rfl (by trivial) trivial (fun σ v => wipe_set σ (by decide))) (gs0 (wipC_ok _)))) (dgC_len (dgC_len dg0_len)))) (fun _ _ _ _ _ => yesD) (fun _ _ _ _ _ => wallE) (fun _ _ => trivial)) nD)) trivial) (ssC (sFor (passes_of rfl) rfl (srcD rfl wallE) (gN nd rfl (by trivial) trivial (fun _ _ => trivial))
  (ss1 (sIf (cmT (oIn rfl (ru5 hr)) (vv 2) (vv 5) rfl)
  (ss1 (sRet (ixD (xIdx rfl (ru1 hr)) (vv 5) (vv 2) fun _ _ => rfl)))
  ss0))) (ss1 (sRet (vv 0)))))))
theorem sc_need_expression : FnScope ["thing"] ["thing"] (defScope (top 48)) := ⟨rfl, rfl, rfl, by decide +kernel, rfl, by decide +kernel, by decide +kernel⟩
theorem ok_need_expression (hW : W.ct = ct0) (hN : W.fn = fn0) (F : FnP W (top 48) "need_expression" "need_expression" [] [] f fd) (H_is_expression : Has P w mg base W 20 "is_expression" ["thing"] 1 f_is_expression [(1, [], [0], [])]) (X0_BadExpression : HasX0 mg W 3 "BadExpression") : FnB P w mg base W 22 f fd ["thing"] 1 f_need_expression [(1, [], [0], [])] := by
  have nd : (["thing"] : List Str).Nodup := sc_need_expression.nd
  refine ⟨F.kp, okE (fnD F sc_need_expression rfl fun cdv A outer s H E hr tk => ?_) rfl, alC (bnN F 1 [] [0] fun _ _ _ _ _ _ us ws h1 h2 => match us, h1, ws, h2 with | [_], _, [], _ => by kernel_rfl) alN⟩
  exact (ss1 (sIf (notD (tstD (callH H_is_expression 0 rfl rfl hr (by decide) rfl tk (aD (vv 0) nD) kNil)))
  (ss1 (sRaise0 X0_BadExpression rfl rfl tk))
  ss0))
theorem sc_Table_is_plain : FnScope ["self"] ["self"] (defScope (clsStmt (top 31) 9)) := ⟨rfl, rfl, rfl, by decide +kernel, rfl, by decide +kernel, by decide +kernel⟩
theorem ok_Table_is_plain (hW : W.ct = ct0) (hN : W.fn = fn0) (F : FnP W (clsStmt (top 31) 9) "is_plain" "Table.is_plain" [] [] f fd)  : FnB P w mg base W 2 f fd ["self"] 1 f_Table_is_plain [(1, [], [0], [])] := by
  have nd : (["self"] : List Str).Nodup := sc_Table_is_plain.nd
  refine ⟨F.kp, okE (fnD F sc_Table_is_plain rfl fun cdv A outer s H E hr tk => ?_) rfl, alC (bnN F 1 [] [0] fun _ _ _ _ _ _ us ws h1 h2 => match us, h1, ws, h2 with | [_], _, [], _ => by kernel_rfl) alN⟩
  exact (ss1 (sRet bD0))
theorem sc_Counter_is_plain : FnScope ["self"] ["self"] (defScope (clsStmt (top 35) 20)) := ⟨rfl, rfl, rfl, by decide +kernel, rfl, by decide +kernel, by decide +kernel⟩
theorem ok_Counter_is_plain (hW : W.ct = ct0) (hN : W.fn = fn0) (F : FnP W (clsStmt (top 35) 20) "is_plain" "Counter.is_plain" [] [] f fd)  : FnB P w mg base W 2 f fd ["self"] 1 f_Counter_is_plain [(1, [], [0], [])] := by
  have nd : (["self"] : List Str).Nodup := sc_Counter_is_plain.nd
  refine ⟨F.kp, okE (fnD F sc_Counter_is_plain rfl fun cdv A outer s H E hr tk => ?_) rfl, alC (bnN F 1 [] [0] fun _ _ _ _ _ _ us ws h1 h2 => match us, h1, ws, h2 with | [_], _, [], _ => by kernel_rfl) alN⟩
  exact (ss1 (sRet bD0))
theorem sc_Table_ordered : FnScope ["self", "found", "key", "place"] ["self"] (defScope (clsStmt (top 31) 12)) := ⟨rfl, rfl, rfl, by decide +kernel, rfl, by decide +kernel, by decide +kernel⟩
theorem ok_Table_ordered (hW : W.ct = ct0) (hN : W.fn = fn0) (F : FnP W (clsStmt (top 31) 12) "ordered" "Table.ordered" [] [] f fd) (b_sorted : mg "sorted" = none) (b_int : mg "int" = none) : FnB P w mg base W 2 f fd ["self"] 1 f_Table_ordered [(1, [], [0], [])] := by
  have nd : (["self", "found", "key", "place"] : List Str).Nodup := sc_Table_ordered.nd
  refine ⟨F.kp, okE (fnD F sc_Table_ordered rfl fun cdv A outer s H E hr tk => ?_) rfl, alC (bnN F 1 [] [0] fun _ _ _ _ _ _ us ws h1 h2 => match us, h1, ws, h2 with | [_], _, [], _ => by kernel_rfl) alN⟩
  exact (ssC (sSet nd (i := 1) rfl (by trivial) (lkD (dcD (own := [("key", 2), ("place", 3)]) rfl nd (dkItems (fldD rfl (fnx hN (i := 1) rfl) (vv 0))) (blkOk (by kernel_rfl)) (fun _ _ _ _ _ => (gT rfl rfl (gsC (wipC_ok _) (gN nd rfl (by trivial) trivial (fun σ v => wipe_set σ (by decide))) (gsC (wipC_ok _) (gN nd rfl (by trivial) trivial (fun σ v => wipe_set σ (by decide))) (gs0 (wipC_ok _)))) (dgC_len (dgC_len dg0_len)))) (fun _ _ _ _ _ => yesD) (fun _ _ _ _ _ => (vv 3)) (fun _ _ _ _ _ => (vv 2)) (fun _ _ => trivial))) trivial) (ss1 (sRet (lcD (own := [("place", 3)]) rfl nd (srcD rfl (bD (cSorted rfl) b_sorted bt_sorted (aD (lkD (lcD (own := [("place", 3)]) rfl nd (dkKeys (vv 1)) (blkOk (by kernel_rfl)) (fun _ _ _ _ _ => (gN nd rfl (by trivial) trivial (fun σ v => wipe_set σ (by decide)))) (fun _ _ _ _ _ => yesD) (fun _ _ _ _ _ => (yD cInt b_int bt_int (aD (vv 3) nD))) (fun _ _ => trivial))) nD))) (blkOk (by kernel_rfl)) (fun _ _ _ _ _ => (gN nd rfl (by trivial) trivial (fun σ v => wipe_set σ (by decide)))) (fun _ _ _ _ _ => yesD) (fun _ _ _ _ _ => (ixD (xIdx rfl (ru1 hr)) (vv 1) (vv 3) fun _ _ => rfl)) (fun _ _ => trivial)))))
theorem sc_Table_pairs : FnScope ["self", "key"] ["self"] (defScope (clsStmt (top 31) 23)) := ⟨rfl, rfl, rfl, by decide +kernel, rfl, by decide +kernel, by decide +kernel⟩
theorem ok_Table_pairs (hW : W.ct = ct0) (hN : W.fn = fn0) (F : FnP W (clsStmt (top 31) 23) "pairs" "Table.pairs" [] [] f fd) (M_Table_Table_ordered : HasM P w mg base W 2 0 "ordered" ["self"] 1 f_Table_ordered [(1, [], [0], [])]) (M_Counter_Table_ordered : HasM P w mg base W 2 2 "ordered" ["self"] 1 f_Table_ordered [(1, [], [0], [])]) : FnB P w mg base W 4 f fd ["self"] 1 f_Table_pairs [(1, [], [0], [])] := by
  have nd : (["self", "key"] : List Str).Nodup := sc_Table_pairs.nd
  refine ⟨F.kp, okE (fnD F sc_Table_pairs rfl fun cdv A outer s H E hr tk => ?_) rfl, alC (bnN F 1 [] [0] fun _ _ _ _ _ _ us ws h1 h2 => match us, h1, ws, h2 with | [_], _, [], _ => by kernel_rfl) alN⟩
  exact (ss1 (sRet (lcD (own := [("key", 1)]) rfl nd (srcD rfl (altD (methD0 M_Table_Table_ordered 0 rfl rfl hr (by decide) rfl (fnn hN (by decide)) tk (vv 0) kNil) (methD0 M_Counter_Table_ordered 0 rfl rfl hr (by decide) rfl (fnn hN (by decide)) tk (vv 0) kNil))) (blkOk (by kernel_rfl)) (fun _ _ _ _ _ => (gN nd rfl (by trivial) trivial (fun σ v => wipe_set σ (by decide)))) (fun _ _ _ _ _ => yesD) (fun _ _ _ _ _ => (tupD (aD (vv 1) (aD (ixD (xIdx rfl (ru1 hr)) (fldD rfl (fnx hN (i := 0) rfl) (vv 0)) (vv 1) fun _ _ => rfl) nD)))) (fun _ _ => trivial))))
theorem sc_Counter_pairs : FnScope ["self", "key"] ["self"] (defScope (clsStmt (top 35) 35)) := ⟨rfl, rfl, rfl, by decide +kernel, rfl, by decide +kernel, by decide +kernel⟩
theorem ok_Counter_pairs (hW : W.ct = ct0) (hN : W.fn = fn0) (F : FnP W (clsStmt (top 35) 35) "pairs" "Counter.pairs" [] [] f fd) (M_Counter_Table_ordered : HasM P w mg base W 2 2 "ordered" ["self"] 1 f_Table_ordered [(1, [], [0], [])]) : FnB P w mg base W 4 f fd ["self"] 1 f_Counter_pairs [(1, [], [0], [])] := by
  have nd : (["self", "key"] : List Str).Nodup := sc_Counter_pairs.nd
  refine ⟨F.kp, okE (fnD F sc_Counter_pairs rfl fun cdv A outer s H E hr tk => ?_) rfl, alC (bnN F 1 [] [0] fun _ _ _ _ _ _ us ws h1 h2 => match us, h1, ws, h2 with | [_], _, [], _ => by kernel_rfl) alN⟩
  exact (ss1 (sRet (lcD (own := [("key", 1)]) rfl nd (srcD rfl (methD0 M_Counter_Table_ordered 0 rfl rfl hr (by decide) rfl (fnn hN (by decide)) tk (vv 0) kNil)) (blkOk (by kernel_rfl)) (fun _ _ _ _ _ => (gN nd rfl (by trivial) trivial (fun σ v => wipe_set σ (by decide)))) (fun _ _ _ _ _ => yesD) (fun _ _ _ _ _ => (tupD (aD (vv 1) (aD (ixD (xIdx rfl (ru1 hr)) (fldD rfl (fnx hN (i := 0) rfl) (vv 0)) (vv 1) fun _ _ => rfl) nD)))) (fun _ _ => trivial))))
theorem sc_is_word : FnScope ["thing", "sign"] ["thing"] (defScope (top 17)) := ⟨rfl, rfl, rfl, by decide +kernel, rfl, by decide +kernel, by decide +kernel⟩
theorem ok_is_word (hW : W.ct = ct0) (hN : W.fn = fn0) (F : FnP W (top 17) "is_word" "is_word" [] [] f fd) (b_isinstance : mg "isinstance" = none) (b_str : mg "str" = none) (b_len : mg "len" = none) (c_MOST_LETTERS_items : ∃ t, mg "MOST_LETTERS_items" = some (.int 6 t)) (b_all : mg "all" = none) (c_LETTERS_items : ∃ t, mg "LETTERS_items" = some (.str "abcdefghijklmnopqrstuvwxyz" t)) : FnB P w mg base W 2 f fd ["thing"] 1 f_is_word [(1, [], [0], [])] := by
  have nd : (["thing", "sign"] : List Str).Nodup := sc_is_word.nd
  refine ⟨F.kp, okE (fnD F sc_is_word rfl fun cdv A outer s H E hr tk => ?_) rfl, alC (bnN F 1 [] [0] fun _ _ _ _ _ _ us ws h1 h2 => match us, h1, ws, h2 with | [_], _, [], _ => by kernel_rfl) alN⟩
  exact (ss1 (sRet (andVD (bD (cIsiE rfl hW) b_isinstance bt_isinstance (aD (vv 0) (aD (tyD b_str bt_str) nD))) (andVD (chnD oLe oLe iD (bD (cLen rfl) b_len bt_len (aD (vv 0) nD)) (gcD c_MOST_LETTERS_items.choose_spec (y := (.int 6)) ⟨_, rfl⟩ fun _ _ => .int _)) (oneVD (bD (cAll rfl rfl) b_all bt_all (aD (lcD (own := [("sign", 1)]) rfl nd (srcD rfl (vv 0)) (blkOk (by kernel_rfl)) (fun _ _ _ _ _ => (gN nd rfl (by trivial) trivial (fun σ v => wipe_set σ (by decide)))) (fun _ _ _ _ _ => yesD) (fun _ _ _ _ _ => (cmD (oIn rfl (ru5 hr)) (vv 1) (gcD c_LETTERS_items.choose_spec (y := (.str "abcdefghijklmnopqrstuvwxyz")) ⟨_, rfl⟩ fun _ _ => .str _) rfl)) (fun _ _ => trivial)) nD)))))))
theorem sc_is_integer : FnScope ["thing"] ["thing"] (defScope (top 16)) := ⟨rfl, rfl, rfl, by decide +kernel, rfl, by decide +kernel, by decide +kernel⟩
theorem ok_is_integer (hW : W.ct = ct0) (hN : W.fn = fn0) (F : FnP W (top 16) "is_integer" "is_integer" [] [] f fd) (b_isinstance : mg "isinstance" = none) (b_int : mg "int" = none) (b_bool : mg "bool" = none) : FnB P w mg base W 2 f fd ["thing"] 1 f_is_integer [(1, [], [0], [])] := by
  have nd : (["thing"] : List Str).Nodup := sc_is_integer.nd
  refine ⟨F.kp, okE (fnD F sc_is_integer rfl fun cdv A outer s H E hr tk => ?_) rfl, alC (bnN F 1 [] [0] fun _ _ _ _ _ _ us ws h1 h2 => match us, h1, ws, h2 with | [_], _, [], _ => by kernel_rfl) alN⟩
  exact (ss1 (sRet (andVD (bD (cIsiE rfl hW) b_isinstance bt_isinstance (aD (vv 0) (aD (tyD b_int bt_int) nD))) (oneVD (notVD (bD (cIsiE rfl hW) b_isinstance bt_isinstance (aD (vv 0) (aD (tyD b_bool bt_bool) nD))))))))
theorem sc_is_short : FnScope ["thing"] ["thing"] (defScope (top 18)) := ⟨rfl, rfl, rfl, by decide +kernel, rfl, by decide +kernel, by decide +kernel⟩
theorem ok_is_short (hW : W.ct = ct0) (hN : W.fn = fn0) (F : FnP W (top 18) "is_short" "is_short" [] [] f fd) (b_abs : mg "abs" = none) (H_is_integer : Has P w mg base W 2 "is_integer" ["thing"] 1 f_is_integer [(1, [], [0], [])]) : FnB P w mg base W 4 f fd ["thing"] 1 f_is_short [(1, [], [0], [])] := by
  have nd : (["thing"] : List Str).Nodup := sc_is_short.nd
  refine ⟨F.kp, okE (fnD F sc_is_short rfl fun cdv A outer s H E hr tk => ?_) rfl, alC (bnN F 1 [] [0] fun _ _ _ _ _ _ us ws h1 h2 => match us, h1, ws, h2 with | [_], _, [], _ => by kernel_rfl) alN⟩
  exact (ss1 (sRet (andVD (callH H_is_integer 0 rfl rfl hr (by decide) rfl tk (aD (vv 0) nD) kNil) (oneVD (cmD oLt (bD cAbs b_abs bt_abs (aD (vv 0) nD)) (opD oPow iD iD) (nomark _))))))
theorem sc_is_item : FnScope ["thing"] ["thing"] (defScope (top 19)) := ⟨rfl, rfl, rfl, by decide +kernel, rfl, by decide +kernel, by decide +kernel⟩
theorem ok_is_item (hW : W.ct = ct0) (hN : W.fn = fn0) (F : FnP W (top 19) "is_item" "is_item" [] [] f fd) (H_is_word : Has P w mg base W 2 "is_word" ["thing"] 1 f_is_word [(1, [], [0], [])]) (H_is_short : Has P w mg base W 4 "is_short" ["thing"] 1 f_is_short [(1, [], [0], [])]) : FnB P w mg base W 6 f fd ["thing"] 1 f_is_item [(1, [], [0], [])] := by
  have nd : (["thing"] : List Str).Nodup := sc_is_item.nd
  refine ⟨F.kp, okE (fnD F sc_is_item rfl fun cdv A outer s H E hr tk => ?_) rfl, alC (bnN F 1 [] [0] fun _ _ _ _ _ _ us ws h1 h2 => match us, h1, ws, h2 with | [_], _, [], _ => by kernel_rfl) alN⟩
  exact (ss1 (sRet (orVD (callH H_is_word 0 rfl rfl hr (by decide) rfl tk (aD (vv 0) nD) kNil) (oneVD (callH H_is_short 0 rfl rfl hr (by decide) rfl tk (aD (vv 0) nD) kNil)))))
theorem sc_are_pairs : FnScope ["thing", "pair"] ["thing"] (defScope (top 29)) := ⟨rfl, rfl, rfl, by decide +kernel, rfl, by decide +kernel, by decide +kernel⟩
theorem ok_are_pairs (hW : W.ct = ct0) (hN : W.fn = fn0) (F : FnP W (top 29) "are_pairs" "are_pairs" [] [] f fd) (b_list : mg "list" = none) (b_tuple : mg "tuple" = none) (b_isinstance : mg "isinstance" = none) (b_all : mg "all" = none) (b_len : mg "len" = none) (H_is_item : Has P w mg base W 6 "is_item" ["thing"] 1 f_is_item [(1, [], [0], [])]) : FnB P w mg base W 8 f fd ["thing"] 1 f_are_pairs [(1, [], [0], [])] := by
  have nd : (["thing", "pair"] : List Str).Nodup := sc_are_pairs.nd
  refine ⟨F.kp, okE (fnD F sc_are_pairs rfl fun cdv A outer s H E hr tk => ?_) rfl, alC (bnN F 1 [] [0] fun _ _ _ _ _ _ us ws h1 h2 => match us, h1, ws, h2 with | [_], _, [], _ => by kernel_rfl) alN⟩
  exact (ssC (sIf (notD (tstD (isLTD rfl hW b_isinstance (vv 0) b_list bt_list b_tuple bt_tuple)))
  (ss1 (sRet bD0))
  ss0) (ss1 (sRet (bD (cAll rfl rfl) b_all bt_all (aD (lcD (own := [("pair", 1)]) rfl nd (srcD rfl (vv 0)) (blkOk (by kernel_rfl)) (fun _ _ _ _ _ => (gN nd rfl (by trivial) trivial (fun σ v => wipe_set σ (by decide)))) (fun _ _ _ _ _ => yesD) (fun _ _ _ _ _ => (andVD (bD (cIsiE rfl hW) b_isinstance bt_isinstance (aD (vv 1) (aD (tyD b_tuple bt_tuple) nD))) (andVD (cmD (oEq rfl (ru hr)) (bD (cLen rfl) b_len bt_len (aD (vv 1) nD)) iD (nomark _)) (andVD (callH H_is_item 0 rfl rfl hr (by decide) rfl tkE0 (aD (ixD (xIdx rfl (ru1 hr)) (vv 1) iD fun _ _ => rfl) nD) kNil) (oneVD (callH H_is_item 0 rfl rfl hr (by decide) rfl tkE0 (aD (ixD (xIdx rfl (ru1 hr)) (vv 1) iD fun _ _ => rfl) nD) kNil)))))) (fun _ _ => trivial)) nD)))))
theorem sc_pairs_of : FnScope ["thing"] ["thing"] (defScope (top 30)) := ⟨rfl, rfl, rfl, by decide +kernel, rfl, by decide +kernel, by decide +kernel⟩
theorem ok_pairs_of (hW : W.ct = ct0) (hN : W.fn = fn0) (F : FnP W (top 30) "pairs_of" "pairs_of" [] [] f fd) (b_isinstance : mg "isinstance" = none) (k_Table : mg "Table" = some (.ref (W.cl 0))) (b_dict : mg "dict" = none) (b_list : mg "list" = none) (M_Table_Table_pairs : HasM P w mg base W 4 0 "pairs" ["self"] 1 f_Table_pairs [(1, [], [0], [])]) (M_Counter_Counter_pairs : HasM P w mg base W 4 2 "pairs" ["self"] 1 f_Counter_pairs [(1, [], [0], [])]) (H_are_pairs : Has P w mg base W 8 "are_pairs" ["thing"] 1 f_are_pairs [(1, [], [0], [])]) : FnB P w mg base W 10 f fd ["thing"] 1 f_pairs_of [(1, [], [0], [])] := by
  have nd : (["thing"] : List Str).Nodup := sc_pairs_of.nd
  refine ⟨F.kp, okE (fnD F sc_pairs_of rfl fun cdv A outer s H E hr tk => ?_) rfl, alC (bnN F 1 [] [0] fun _ _ _ _ _ _ us ws h1 h2 => match us, h1, ws, h2 with | [_], _, [], _ => by kernel_rfl) alN⟩
  exact (ssC (sIf (tstD (bD (cIsiE rfl hW) b_isinstance bt_isinstance (aD (vv 0) (aD (clD rfl k_Table) nD))))
  (ss1 (sRet (altD (methD0 M_Table_Table_pairs 0 rfl rfl hr (by decide) rfl (fnn hN (by decide)) tk (vv 0) kNil) (methD0 M_Counter_Counter_pairs 0 rfl rfl hr (by decide) rfl (fnn hN (by decide)) tk (vv 0) kNil))))
  ss0) (ssC (sIf (tstD (bD (cIsiE rfl hW) b_isinstance bt_isinstance (aD (vv 0) (aD (tyD b_dict bt_dict) nD))))
  (ss1 (sRet (liD rfl b_list bt_list (vv 0))))
  ss0) (ssC (sIf (notD (tstD (callH H_are_pairs 0 rfl rfl hr (by decide) rfl tk (aD (vv 0) nD) kNil)))
  (ss1 wallS)
  ss0) (ss1 (sRet (yD (cList rfl rfl) b_list bt_list (aD (vv 0) nD)))))))
theorem sc_Table_xinit : FnScope ["self", "pairs", "some", "key", "worth", "place"] ["self", "pairs"] (defScope (clsStmt (top 31) 0)) := ⟨rfl, rfl, rfl, by decide +kernel, rfl, by decide +kernel, by decide +kernel⟩
theorem ok_Table_xinit {e0 : Addr} (he0 : ∀ H, SqT W.K H e0 []) (hW : W.ct = ct0) (hN : W.fn = fn0) (F : FnP W (clsStmt (top 31) 0) "__init__" "Table.__init__" [.ref e0] [] f fd) (b_list : mg "list" = none) (b_enumerate : mg "enumerate" = none) (b_len : mg "len" = none) (M_Table_Table_is_plain : HasM P w mg base W 2 0 "is_plain" ["self"] 1 f_Table_is_plain [(1, [], [0], [])]) (M_Counter_Counter_is_plain : HasM P w mg base W 2 2 "is_plain" ["self"] 1 f_Counter_is_plain [(1, [], [0], [])]) (H_pairs_of : Has P w mg base W 10 "pairs_of" ["thing"] 1 f_pairs_of [(1, [], [0], [])]) : FnB P w mg base W 12 f fd ["self", "pairs"] 2 f_Table_xinit [(2, [], [0, 1], [(.tup [])])] := by
  have nd : (["self", "pairs", "some", "key", "worth", "place"] : List Str).Nodup := sc_Table_xinit.nd
  refine ⟨F.kp, okE (fnD F sc_Table_xinit rfl fun cdv A outer s H E hr tk => ?_) rfl, alC (bnP F 2 [] [0, 1] (by simp) (fun io H => .cons (.tup (he0 H) .nil) (.nil)) fun _ _ _ _ _ _ _ us its ws h1 h2 h3 => match us, h1, its, h2, ws, h3 with | [_, _], _, [_], _, [], _ => ⟨_, rfl, rfl⟩) alN⟩
  exact (ssC (sSet nd (i := 2) rfl (by trivial) (ifD (tstD (altD (methD0 M_Table_Table_is_plain 0 rfl rfl hr (by decide) rfl (fnn hN (by decide)) tk (vv 0) kNil) (methD0 M_Counter_Counter_is_plain 0 rfl rfl hr (by decide) rfl (fnn hN (by decide)) tk (vv 0) kNil))) (callH H_pairs_of 0 rfl rfl hr (by decide) rfl tk (aD (vv 1) nD) kNil) (yD (cList rfl rfl) b_list bt_list (aD (vv 1) nD))) trivial) (ssC (sSetF rfl (fnx hN (i := 0) rfl) (vv 0) (dcD (own := [("key", 3), ("worth", 4)]) rfl nd (srcD rfl (vv 2)) (blkOk (by kernel_rfl)) (fun _ _ _ _ _ => (gT rfl rfl (gsC (wipC_ok _) (gN nd rfl (by trivial) trivial (fun σ v => wipe_set σ (by decide))) (gsC (wipC_ok _) (gN nd rfl (by trivial) trivial (fun σ v => wipe_set σ (by decide))) (gs0 (wipC_ok _)))) (dgC_len (dgC_len dg0_len)))) (fun _ _ _ _ _ => yesD) (fun _ _ _ _ _ => (vv 3)) (fun _ _ _ _ _ => (vv 4)) (fun _ _ => trivial))) (ssC (sSetF rfl (fnx hN (i := 1) rfl) (vv 0) (lkD (dcD (own := [("place", 5), ("key", 3)]) rfl nd (enkD rfl (fldD rfl (fnx hN (i := 0) rfl) (vv 0)) b_enumerate) (blkOk (by kernel_rfl)) (fun _ _ _ _ _ => (gT rfl rfl (gsC (wipC_ok _) (gN nd rfl (by trivial) trivial (fun σ v => wipe_set σ (by decide))) (gsC (wipC_ok _) (gN nd rfl (by trivial) trivial (fun σ v => wipe_set σ (by decide))) (gs0 (wipC_ok _)))) (dgC_len (dgC_len dg0_len)))) (fun _ _ _ _ _ => yesD) (fun _ _ _ _ _ => (vv 3)) (fun _ _ _ _ _ => (vv 5)) (fun _ _ => trivial)))) (ssC (sSetF rfl (fnx hN (i := 2) rfl) (vv 0) iD) (ss1 (sSetF rfl (fnx hN (i := 3) rfl) (vv 0) (bD (cLen rfl) b_len bt_len (aD (fldD rfl (fnx hN (i := 0) rfl) (vv 0)) nD))))))))
theorem sc_is_pair : FnScope ["thing"] ["thing"] (defScope (top 33)) := ⟨rfl, rfl, rfl, by decide +kernel, rfl, by decide +kernel, by decide +kernel⟩
theorem ok_is_pair (hW : W.ct = ct0) (hN : W.fn = fn0) (F : FnP W (top 33) "is_pair" "is_pair" [] [] f fd) (b_isinstance : mg "isinstance" = none) (b_tuple : mg "tuple" = none) (b_len : mg "len" = none) (H_is_item : Has P w mg base W 6 "is_item" ["thing"] 1 f_is_item [(1, [], [0], [])]) (H_is_integer : Has P w mg base W 2 "is_integer" ["thing"] 1 f_is_integer [(1, [], [0], [])]) : FnB P w mg base W 8 f fd ["thing"] 1 f_is_pair [(1, [], [0], [])] := by
  have nd : (["thing"] : List Str).Nodup := sc_is_pair.nd
  refine ⟨F.kp, okE (fnD F sc_is_pair rfl fun cdv A outer s H E hr tk => ?_) rfl, alC (bnN F 1 [] [0] fun _ _ _ _ _ _ us ws h1 h2 => match us, h1, ws, h2 with | [_], _, [], _ => by kernel_rfl) alN⟩
  exact (ss1 (sRet (andVD (bD (cIsiE rfl hW) b_isinstance bt_isinstance (aD (vv 0) (aD (tyD b_tuple bt_tuple) nD))) (andVD (cmD (oEq rfl (ru hr)) (bD (cLen rfl) b_len bt_len (aD (vv 0) nD)) iD (nomark _)) (andVD (callH H_is_item 0 rfl rfl hr (by decide) rfl tk (aD (ixD (xIdx rfl (ru1 hr)) (vv 0) iD fun _ _ => rfl) nD) kNil) (oneVD (callH H_is_integer 0 rfl rfl hr (by decide) rfl tk (aD (ixD (xIdx rfl (ru1 hr)) (vv 0) iD fun _ _ => rfl) nD) kNil)))))))
theorem sc_count_pairs : FnScope ["thing", "found", "pair"] ["thing"] (defScope (top 34)) := ⟨rfl, rfl, rfl, by decide +kernel, rfl, by decide +kernel, by decide +kernel⟩
theorem ok_count_pairs (hW : W.ct = ct0) (hN : W.fn = fn0) (F : FnP W (top 34) "count_pairs" "count_pairs" [] [] f fd) (b_isinstance : mg "isinstance" = none) (k_Table : mg "Table" = some (.ref (W.cl 0))) (b_list : mg "list" = none) (b_tuple : mg "tuple" = none) (b_all : mg "all" = none) (M_Counter_Counter_pairs : HasM P w mg base W 4 2 "pairs" ["self"] 1 f_Counter_pairs [(1, [], [0], [])]) (H_is_pair : Has P w mg base W 8 "is_pair" ["thing"] 1 f_is_pair [(1, [], [0], [])]) : FnB P w mg base W 10 f fd ["thing"] 1 f_count_pairs [(1, [], [0], [])] := by
  have nd : (["thing", "found", "pair"] : List Str).Nodup := sc_count_pairs.nd
  refine ⟨F.kp, okE (fnD F sc_count_pairs rfl fun cdv A outer s H E hr tk => ?_) rfl, alC (bnN F 1 [] [0] fun _ _ _ _ _ _ us ws h1 h2 => match us, h1, ws, h2 with | [_], _, [], _ => by kernel_rfl) alN⟩
  exact (ssC (sSet nd (i := 1) rfl (by trivial) (ifD (tstD (bD (cIsiE rfl hW) b_isinstance bt_isinstance (aD (vv 0) (aD (clD rfl k_Table) nD)))) (methD0 M_Counter_Counter_pairs 0 rfl rfl hr (by decide) rfl (fnn hN (by decide)) tk (vv 0) kNil) (vv 0)) trivial) (ssC (sIf (ptW (orD (notD (tstD (isLTD rfl hW b_isinstance (vv 1) b_list bt_list b_tuple bt_tuple))) (or1D (notD (tstD (bD (cAll rfl rfl) b_all bt_all (aD (lcD (own := [("pair", 2)]) rfl nd (srcD rfl (vv 1)) (blkOk (by kernel_rfl)) (fun _ _ _ _ _ => (gN nd rfl (by trivial) trivial (fun σ v => wipe_set σ (by decide)))) (fun _ _ _ _ _ => yesD) (fun _ _ _ _ _ => (callH H_is_pair 0 rfl rfl hr (by decide) rfl tkE0 (aD (vv 2) nD) kNil)) (fun _ _ => trivial)) nD)))))))
  (ss1 wallS)
  ss0) (ss1 (sRet (yD (cList rfl rfl) b_list bt_list (aD (vv 1) nD))))))
theorem sc_Counter_xinit : FnScope ["self", "pairs"] ["self", "pairs"] (defScope (clsStmt (top 35) 0)) := ⟨rfl, rfl, rfl, by decide +kernel, rfl, by decide +kernel, by decide +kernel⟩
theorem ok_Counter_xinit {e0 : Addr} (he0 : ∀ H, SqT W.K H e0 []) (hW : W.ct = ct0) (hN : W.fn = fn0) (F : FnP W (clsStmt (top 35) 0) "__init__" "Counter.__init__" [.ref e0] [] f fd) (k_Table : mg "Table" = some (.ref (W.cl 0))) (A_Table_Table_xinit : HasA P w mg base W 12 0 "__init__" ["self", "pairs"] 2 f_Table_xinit [(2, [], [0, 1], [(.tup [])])]) (H_count_pairs : Has P w mg base W 10 "count_pairs" ["thing"] 1 f_count_pairs [(1, [], [0], [])]) : FnB P w mg base W 14 f fd ["self", "pairs"] 2 f_Counter_xinit [(2, [], [0, 1], [(.tup [])]), (1, [], [0, 1], [(.tup [])])] := by
  have nd : (["self", "pairs"] : List Str).Nodup := sc_Counter_xinit.nd
  refine ⟨F.kp, okE (fnD F sc_Counter_xinit rfl fun cdv A outer s H E hr tk => ?_) rfl, alC (bnP F 2 [] [0, 1] (by simp) (fun io H => .cons (.tup (he0 H) .nil) (.nil)) fun _ _ _ _ _ _ _ us its ws h1 h2 h3 => match us, h1, its, h2, ws, h3 with | [_, _], _, [_], _, [], _ => ⟨_, rfl, rfl⟩) (alC (bnP F 1 [] [0, 1] (by simp) (fun io H => .cons (.tup (he0 H) .nil) (.nil)) fun _ _ _ _ _ _ _ us its ws h1 h2 h3 => match us, h1, its, h2, ws, h3 with | [_], _, [_], _, [], _ => ⟨_, rfl, rfl⟩) alN)⟩
  exact (ss1 (sExpr (clsD A_Table_Table_xinit 0 rfl rfl hr (by decide) rfl tk (clD rfl k_Table) (aD (vv 0) (aD (callH H_count_pairs 0 rfl rfl hr (by decide) rfl tk (aD (vv 1) nD) kNil) nD)) kNil)))
theorem sc_Counter_copy : FnScope ["self"] ["self"] (defScope (clsStmt (top 35) 34)) := ⟨rfl, rfl, rfl, by decide +kernel, rfl, by decide +kernel, by decide +kernel⟩
theorem ok_Counter_copy (hW : W.ct = ct0) (hN : W.fn = fn0) (F : FnP W (clsStmt (top 35) 34) "copy" "Counter.copy" [] [] f fd) (C_Counter : HasC P w mg base W 14 2 "Counter" ["self", "pairs"] 2 f_Counter_xinit [(2, [], [0, 1], [(.tup [])]), (1, [], [0, 1], [(.tup [])])]) (M_Counter_Counter_pairs : HasM P w mg base W 4 2 "pairs" ["self"] 1 f_Counter_pairs [(1, [], [0], [])]) : FnB P w mg base W 16 f fd ["self"] 1 f_Counter_copy [(1, [], [0], [])] := by
  have nd : (["self"] : List Str).Nodup := sc_Counter_copy.nd
  refine ⟨F.kp, okE (fnD F sc_Counter_copy rfl fun cdv A outer s H E hr tk => ?_) rfl, alC (bnN F 1 [] [0] fun _ _ _ _ _ _ us ws h1 h2 => match us, h1, ws, h2 with | [_], _, [], _ => by kernel_rfl) alN⟩
  exact (ss1 (sRet (makeC C_Counter 0 rfl rfl hr (by decide) rfl tk (aD (methD0 M_Counter_Counter_pairs 0 rfl rfl hr (by decide) rfl (fnn hN (by decide)) tk (vv 0) kNil) nD) kNil)))
theorem sc_value : FnScope ["expression", "c", "d"] ["expression", "c", "d"] (defScope (top 49)) := ⟨rfl, rfl, rfl, by decide +kernel, rfl, by decide +kernel, by decide +kernel⟩
theorem ok_value (hW : W.ct = ct0) (hN : W.fn = fn0) (F : FnP W (top 49) "value" "value" [] [] f fd) (H_need_expression : Has P w mg base W 22 "need_expression" ["thing"] 1 f_need_expression [(1, [], [0], [])]) (M_Counter_Counter_copy : HasM P w mg base W 16 2 "copy" ["self"] 1 f_Counter_copy [(1, [], [0], [])]) : FnB P w mg base W 24 f fd ["expression", "c", "d"] 3 f_value [(3, [], [0, 1, 2], [])] := by
  have nd : (["expression", "c", "d"] : List Str).Nodup := sc_value.nd
  refine ⟨F.kp, okE (fnD F sc_value rfl fun cdv A outer s H E hr tk => ?_) rfl, alC (bnN F 3 [] [0, 1, 2] fun _ _ _ _ _ _ us ws h1 h2 => match us, h1, ws, h2 with | [_, _, _], _, [], _ => by kernel_rfl) alN⟩
  exact (ssC (sExpr (callH H_need_expression 0 rfl rfl hr (by decide) rfl tk (aD (vv 0) nD) kNil)) (ss1 (sRet (methD0 M_Counter_Counter_copy 0 rfl rfl hr (by decide) rfl (fnn hN (by decide)) tk wallE kNil))))
theorem sc_unequal : FnScope ["one", "other", "at_least", "size", "m", "n"] ["one", "other", "at_least"] (defScope (top 54)) := ⟨rfl, rfl, rfl, by decide +kernel, rfl, by decide +kernel, by decide +kernel⟩
theorem ok_unequal (hW : W.ct = ct0) (hN : W.fn = fn0) (F : FnP W (top 54) "unequal" "unequal" [] [("at_least", .non)] f fd) (b_range : mg "range" = none) (H_need_expression : Has P w mg base W 22 "need_expression" ["thing"] 1 f_need_expression [(1, [], [0], [])]) : FnB P w mg base W 24 f fd ["one", "other", "at_least"] 3 f_unequal [(2, [], [0, 1, 2], [.non]), (2, ["at_least"], [0, 1, 2], [])] := by
  have nd : (["one", "other", "at_least", "size", "m", "n"] : List Str).Nodup := sc_unequal.nd
  refine ⟨F.kp, okE (fnD F sc_unequal rfl fun cdv A outer s H E hr tk => ?_) rfl, alC (bnK F 2 [] [("at_least", .non)] [0, 1, 2] (by simp) (by simp) (fun io H => .cons (.non) (.nil)) fun _ _ _ _ _ _ us mv ws h1 h2 h3 => match us, h1, mv, h2, ws, h3 with | [_, _], _, [_], _, [], _ => ⟨_, _, _, _, _, _, rfl, rfl, rfl⟩) (alC (bnN F 2 ["at_least"] [0, 1, 2] fun _ _ _ _ _ _ us ws h1 h2 => match us, h1, ws, h2 with | [_, _], _, [_], _ => by kernel_rfl) alN)⟩
  exact (ssC (sExpr (callH H_need_expression 0 rfl rfl hr (by decide) rfl tk (aD (vv 0) nD) kNil)) (ssC (sExpr (callH H_need_expression 0 rfl rfl hr (by decide) rfl tk (aD (vv 1) nD) kNil)) (ssC (sFor (passes_of rfl) rfl (rg1D rfl b_range (aD (opD (oAdd rfl) wallE iD) nD)) (gN nd rfl (by trivial) trivial (fun _ _ => trivial))
  (ss1 (sFor (passes_of rfl) rfl (srcD rfl wallE) (gT rfl rfl (gsC anyC_ok (gN nd rfl (by trivial) trivial (fun _ _ => trivial)) (gsC anyC_ok (gN nd rfl (by trivial) trivial (fun _ _ => trivial)) (gs0 anyC_ok))) (dgC_len (dgC_len dg0_len)))
  (ss1 (sIf (cmT (oNe rfl (ru hr)) wallE wallE (nomark _))
  (ss1 (sRet (tupD (aD (vv 4) (aD (vv 5) nD)))))
  ss0))))) (ss1 (sRet nD0)))))
theorem sc_disordered : FnScope ["one", "other", "at_least", "some", "first", "second", "are_turned", "pairs"] ["one", "other", "at_least"] (defScope (top 60)) := ⟨rfl, rfl, rfl, by decide +kernel, rfl, by decide +kernel, by decide +kernel⟩
theorem ok_disordered (hW : W.ct = ct0) (hN : W.fn = fn0) (F : FnP W (top 60) "disordered" "disordered" [] [("at_least", .non)] f fd) (H_unequal : Has P w mg base W 24 "unequal" ["one", "other", "at_least"] 3 f_unequal [(2, [], [0, 1, 2], [.non]), (2, ["at_least"], [0, 1, 2], [])]) : FnB P w mg base W 26 f fd ["one", "other", "at_least"] 3 f_disordered [(2, [], [0, 1, 2], [.non])] := by
  have nd : (["one", "other", "at_least", "some", "first", "second", "are_turned", "pairs"] : List Str).Nodup := sc_disordered.nd
  refine ⟨F.kp, okE (fnD F sc_disordered rfl fun cdv A outer s H E hr tk => ?_) rfl, alC (bnK F 2 [] [("at_least", .non)] [0, 1, 2] (by simp) (by simp) (fun io H => .cons (.non) (.nil)) fun _ _ _ _ _ _ us mv ws h1 h2 h3 => match us, h1, mv, h2, ws, h3 with | [_, _], _, [_], _, [], _ => ⟨_, _, _, _, _, _, rfl, rfl, rfl⟩) alN⟩
  exact (ssC (sIf (cmT oIsNot (callH H_unequal 1 rfl rfl hr (by decide) rfl tk (aD (vv 0) (aD (vv 1) nD)) (kCons (vv 2) kNil)) nD0 (nomark _))
  (ss1 wallS)
  ss0) (ssC (sSet nd (i := 3) rfl (by trivial) wallE trivial) (ssC (sFor (passes_of rfl) rfl (srcD rfl (vv 3)) (gN nd rfl (by trivial) trivial (fun _ _ => trivial))
  (ss1 (sFor (passes_of rfl) rfl (srcD rfl (vv 3)) (gN nd rfl (by trivial) trivial (fun _ _ => trivial))
  (ss1 (sFor (passes_of rfl) rfl (srcD rfl (tupD (aD bD0 (aD bD0 nD)))) (gN nd rfl (by trivial) trivial (fun _ _ => trivial))
  (ssC (sSet nd (i := 7) rfl (by trivial) wallE trivial) (ss1 (sIf (cmT (oNe rfl (ru hr)) wallE wallE (nomark _))
  (ss1 (sRet (vv 7)))
  ss0)))))))) (ss1 (sRet nD0)))))
theorem sc__law_is_right : FnScope ["_law_thing", "_law_is_due", "_law_calls", "_law_call"] ["_law_thing"] (defScope (top 76)) := ⟨rfl, rfl, rfl, by decide +kernel, rfl, by decide +kernel, by decide +kernel⟩
theorem ok__law_is_right {cL pL : Addr} (TB : LamX.TabB base mg cL pL) (hcd : fd.code = .ref cL) (hmT : (pL, (("_law_is_right" : Str) ++ (".<locals>." : Str) ++ ("<lambda>" : Str))) ∈ W.T) (hu : ∀ p ∈ W.T, p.1 = pL → p.2 = (("_law_is_right" : Str) ++ (".<locals>." : Str) ++ ("<lambda>" : Str))) (hW : W.ct = ct0) (hN : W.fn = fn0) (F : FnP W (top 76) "_law_is_right" "_law_is_right" [] [] f fd) (b_repr : mg "repr" = none) (b_all : mg "all" = none) (H__law_has_form_12 : Has P w mg base W 26 "_law_has_form" ["_law_thing"] 1 f__law_has_form_12 [(1, [], [0], [])]) (H__law_letters_12 : Has P w mg base W 26 "_law_letters" ["_law_thing"] 1 f__law_letters_12 [(1, [], [0], [])]) (H__law_depth_12 : Has P w mg base W 26 "_law_depth" ["_law_thing"] 1 f__law_depth_12 [(1, [], [0], [])]) (H_is_expression : Has P w mg base W 20 "is_expression" ["thing"] 1 f_is_expression [(1, [], [0], [])]) (L__law_error : HasL P w mg base W 2 "_law_error" false f__law_error) (H_smallest : Has P w mg base W 22 "smallest" ["expression"] 1 f_smallest [(1, [], [0], [])]) (H_value : Has P w mg base W 24 "value" ["expression", "c", "d"] 3 f_value [(3, [], [0, 1, 2], [])]) (C_Counter : HasC P w mg base W 14 2 "Counter" ["self", "pairs"] 2 f_Counter_xinit [(2, [], [0, 1], [(.tup [])]), (1, [], [0, 1], [(.tup [])])]) (H_unequal : Has P w mg base W 24 "unequal" ["one", "other", "at_least"] 3 f_unequal [(2, [], [0, 1, 2], [.non]), (2, ["at_least"], [0, 1, 2], [])]) (H_disordered : Has P w mg base W 26 "disordered" ["one", "other", "at_least"] 3 f_disordered [(2, [], [0, 1, 2], [.non])]) : FnBG P w mg base W 31 f fd ["_law_thing"] 1 f__law_is_right [(1, [], [0], [])] := by
  have nd : (["_law_thing", "_law_is_due", "_law_calls", "_law_call"] : List Str).Nodup := sc__law_is_right.nd
  refine ⟨F.kp, fnDLG F sc__law_is_right rfl hcd fun A outer s H E hgd hr tk => ?_, alC (bnN F 1 [] [0] fun _ _ _ _ _ _ us ws h1 h2 => match us, h1, ws, h2 with | [_], _, [], _ => by kernel_rfl) alN⟩
  exact (ssC (sSet nd (i := 1) rfl (by trivial) (andVD (callH H__law_has_form_12 0 rfl rfl hr (by decide) rfl tk (aD (vv 0) nD) kNil) (andVD (cmD oLe (callH H__law_letters_12 0 rfl rfl hr (by decide) rfl tk (aD (vv 0) nD) kNil) iD (nomark _)) (oneVD (cmD oLe (callH H__law_depth_12 0 rfl rfl hr (by decide) rfl tk (aD (vv 0) nD) kNil) iD (nomark _))))) trivial) (ssC (sIf (cmT (oNe rfl (ru hr)) (bD (cRepr rfl hgd (ru5 hr)) b_repr bt_repr (aD (callH H_is_expression 0 rfl rfl hr (by decide) rfl tk (aD (vv 0) nD) kNil) nD)) (bD (cRepr rfl hgd (ru5 hr)) b_repr bt_repr (aD (vv 1) nD)) (nomark _))
  (ss1 (sRet bD0))
  ss0) (ssC (sIf (tstD (vv 1))
  (ss1 (sRet (orVD (cmD oLe (callH H__law_letters_12 0 rfl rfl hr (by decide) rfl tk (aD (vv 0) nD) kNil) iD (nomark _)) (oneVD (lamD (kb := 23) L__law_error (fun z => by cases z) rfl rfl tk TB rfl hmT hu hr (by decide) (by decide) (LamX.lamS_by (by rfl)) rfl (fun _ _ _ _ _ => rfl) (fun A2 o2 s2 H2 E2 f2 c2 hr tkL => (callH H_smallest 0 rfl rfl hr (by decide) rfl tkL (aD (vv 0) nD) kNil)))))))
  ss0) (lamsD (ps_set nd (i := 2) rfl (by trivial) (pe_lst (pa_cons (pe_fn (d := e__law_is_right_1) (LamX.lamS_by (by rfl)) rfl TB rfl hmT hu) pa_nil))) (lamAppD (ps_expr (pe_bm PySem.F.plainAttrs_list PySem.F.slot_list_append rfl mt_append (vt 2) (pa_cons (pe_fn (d := e__law_is_right_2) (LamX.lamS_by (by rfl)) rfl TB rfl hmT hu) pa_nil))) (lamAppD (ps_expr (pe_bm PySem.F.plainAttrs_list PySem.F.slot_list_append rfl mt_append (vt 2) (pa_cons (pe_fn (d := e__law_is_right_3) (LamX.lamS_by (by rfl)) rfl TB rfl hmT hu) pa_nil))) (lamAppD (ps_expr (pe_bm PySem.F.plainAttrs_list PySem.F.slot_list_append rfl mt_append (vt 2) (pa_cons (pe_fn (d := e__law_is_right_4) (LamX.lamS_by (by rfl)) rfl TB rfl hmT hu) pa_nil))) (lamAppD (ps_expr (pe_bm PySem.F.plainAttrs_list PySem.F.slot_list_append rfl mt_append (vt 2) (pa_cons (pe_fn (d := e__law_is_right_5) (LamX.lamS_by (by rfl)) rfl TB rfl hmT hu) pa_nil))) (lamEndD
  (ss1 (sRet (bD (cAll rfl rfl) b_all bt_all (aD (fcD rfl nd rfl (vt 2) (blkOk (by kernel_rfl)) (fun _ _ _ _ _ => pg_name nd (i := 3) rfl (by trivial)) (.cons (fun pn2 σ2 s2 H2 C2 cl2 fp2 I2 f2 => yesD) (fun pn2 σ2 s2 H2 C2 cl2 fp2 I2 f2 => (fnCallD (kb := 25) L__law_error (fun z => by cases z) rfl hr (by decide) (by decide) ⟨LamX.lamS_by (by rfl), rfl, fun _ _ _ _ _ => rfl, fun A2 o2 s2 H2 E2 f2 c2 hr tkL => (callH H_value 0 rfl rfl hr (by decide) rfl tkL (aD (vv 0) (aD (makeC0 C_Counter 1 rfl rfl hr (by decide) rfl tkL kNil) (aD (makeC0 C_Counter 1 rfl rfl hr (by decide) rfl tkL kNil) nD))) kNil)⟩ I2 f2 (vt 3) rfl rfl rfl rfl))
  (.cons (fun pn2 σ2 s2 H2 C2 cl2 fp2 I2 f2 => yesD) (fun pn2 σ2 s2 H2 C2 cl2 fp2 I2 f2 => (fnCallD (kb := 25) L__law_error (fun z => by cases z) rfl hr (by decide) (by decide) ⟨LamX.lamS_by (by rfl), rfl, fun _ _ _ _ _ => rfl, fun A2 o2 s2 H2 E2 f2 c2 hr tkL => (callH H_unequal 0 rfl rfl hr (by decide) rfl tkL (aD (vv 0) (aD nD0 nD)) kNil)⟩ I2 f2 (vt 3) rfl rfl rfl rfl))
  (.cons (fun pn2 σ2 s2 H2 C2 cl2 fp2 I2 f2 => yesD) (fun pn2 σ2 s2 H2 C2 cl2 fp2 I2 f2 => (fnCallD (kb := 25) L__law_error (fun z => by cases z) rfl hr (by decide) (by decide) ⟨LamX.lamS_by (by rfl), rfl, fun _ _ _ _ _ => rfl, fun A2 o2 s2 H2 E2 f2 c2 hr tkL => (callH H_unequal 0 rfl rfl hr (by decide) rfl tkL (aD sD (aD (vv 0) nD)) kNil)⟩ I2 f2 (vt 3) rfl rfl rfl rfl))
  (.cons (fun pn2 σ2 s2 H2 C2 cl2 fp2 I2 f2 => yesD) (fun pn2 σ2 s2 H2 C2 cl2 fp2 I2 f2 => (fnCallD (kb := 27) L__law_error (fun z => by cases z) rfl hr (by decide) (by decide) ⟨LamX.lamS_by (by rfl), rfl, fun _ _ _ _ _ => rfl, fun A2 o2 s2 H2 E2 f2 c2 hr tkL => (callH H_disordered 0 rfl rfl hr (by decide) rfl tkL (aD sD (aD (vv 0) nD)) kNil)⟩ I2 f2 (vt 3) rfl rfl rfl rfl))
  (.cons (fun pn2 σ2 s2 H2 C2 cl2 fp2 I2 f2 => yesD) (fun pn2 σ2 s2 H2 C2 cl2 fp2 I2 f2 => (fnCallD (kb := 23) L__law_error (fun z => by cases z) rfl hr (by decide) (by decide) ⟨LamX.lamS_by (by rfl), rfl, fun _ _ _ _ _ => rfl, fun A2 o2 s2 H2 E2 f2 c2 hr tkL => (callH H_smallest 0 rfl rfl hr (by decide) rfl tkL (aD (vv 0) nD) kNil)⟩ I2 f2 (vt 3) rfl rfl rfl rfl))
  .nil)))))) nD))))) (by decide)) (by decide)) (by decide)) (by decide))))))
theorem sc__law_source : FnScope ["_law_script", "_law_place", "_law_cell", "_law_far"] ["_law_script", "_law_place"] (defScope (top 67)) := ⟨rfl, rfl, rfl, by decide +kernel, rfl, by decide +kernel, by decide +kernel⟩
theorem ok__law_source (hW : W.ct = ct0) (hN : W.fn = fn0) (F : FnP W (top 67) "_law_source" "_law_source" [] [] f fd) (b_len : mg "len" = none) (b_abs : mg "abs" = none) : FnB P w mg base W 2 f fd ["_law_script", "_law_place"] 2 f__law_source [(2, [], [0, 1], [])] := by
  have nd : (["_law_script", "_law_place", "_law_cell", "_law_far"] : List Str).Nodup := sc__law_source.nd
  refine ⟨F.kp, okE (fnD F sc__law_source rfl fun cdv A outer s H E hr tk => ?_) rfl, alC (bnN F 2 [] [0, 1] fun _ _ _ _ _ _ us ws h1 h2 => match us, h1, ws, h2 with | [_, _], _, [], _ => by kernel_rfl) alN⟩
  exact (ssC (sSet nd (i := 2) rfl (by trivial) (ifD (cmT oLt (vv 1) (bD (cLen rfl) b_len bt_len (aD (vv 0) nD)) (nomark _)) (ixD (xIdx rfl (ru1 hr)) (vv 0) (vv 1) fun _ _ => rfl) iD) trivial) (ssC (sSet nd (i := 3) rfl (by trivial) (ifD (cmT oGe (bD cAbs b_abs bt_abs (aD (vv 2) nD)) (opD oPow iD iD) (nomark _)) (bD cAbs b_abs bt_abs (aD (vv 2) nD)) iD) trivial) (ss1 (sRet (lstD (aD (vv 3) (aD (opD (oAdd rfl) (opD (oAdd rfl) (opD (oAdd rfl) (opD oMod (vv 2) iD) (opD (oMul rfl) (opD (oMul rfl) iD (vv 1)) (vv 1))) (opD (oMul rfl) iD (vv 1))) iD) (aD iD nD))))))))
theorem sc__law_draw : FnScope ["_law_source_here", "_law_often", "_law_digit", "_law_primes", "_law_turn", "_law_mixed", "_law_found"] ["_law_source_here", "_law_often"] (defScope (top 68)) := ⟨rfl, rfl, rfl, by decide +kernel, rfl, by decide +kernel, by decide +kernel⟩
theorem ok__law_draw (hW : W.ct = ct0) (hN : W.fn = fn0) (F : FnP W (top 68) "_law_draw" "_law_draw" [] [] f fd)  : FnB P w mg base W 2 f fd ["_law_source_here", "_law_often"] 2 f__law_draw [(2, [], [0, 1], [])] := by
  have nd : (["_law_source_here", "_law_often", "_law_digit", "_law_primes", "_law_turn", "_law_mixed", "_law_found"] : List Str).Nodup := sc__law_draw.nd
  refine ⟨F.kp, okE (fnD F sc__law_draw rfl fun cdv A outer s H E hr tk => ?_) rfl, alC (bnN F 2 [] [0, 1] fun _ _ _ _ _ _ us ws h1 h2 => match us, h1, ws, h2 with | [_, _], _, [], _ => by kernel_rfl) alN⟩
  exact (ssC (sIf (cmT oGt (ixD (xIdx rfl (ru1 hr)) (vv 0) iD fun _ _ => rfl) iD (nomark _))
  (ssC (sSet nd (i := 2) rfl (by trivial) (opD oMod (ixD (xIdx rfl (ru1 hr)) (vv 0) iD fun _ _ => rfl) (vv 1)) trivial) (ssC (sPut hr (vv 0) iD (opD oFdiv (ixD (xIdx rfl (ru1 hr)) (vv 0) iD fun _ _ => rfl) (vv 1))) (ss1 (sRet (vv 2)))))
  ss0) (ssC (sSet nd (i := 3) rfl (by trivial) (tupD (aD iD (aD iD (aD iD (aD iD (aD iD (aD iD (aD iD (aD iD nD))))))))) trivial) (ssC (sPut hr (vv 0) iD (opD (oAdd rfl) (ixD (xIdx rfl (ru1 hr)) (vv 0) iD fun _ _ => rfl) iD)) (ssC (sSet nd (i := 4) rfl (by trivial) (ixD (xIdx rfl (ru1 hr)) (vv 0) iD fun _ _ => rfl) trivial) (ssC (sSet nd (i := 5) rfl (by trivial) (opD (oAdd rfl) (opD (oAdd rfl) (opD (oMul rfl) (ixD (xIdx rfl (ru1 hr)) (vv 0) iD fun _ _ => rfl) (opD (oAdd rfl) (opD (oMul rfl) iD (vv 4)) iD)) (opD (oMul rfl) (opD (oMul rfl) iD (vv 4)) (vv 4))) iD) trivial) (ssC (sSet nd (i := 6) rfl (by trivial) (opD oMod (opD oPow (vv 5) iD) (ixD (xIdx rfl (ru1 hr)) (vv 3) (opD oMod (vv 4) iD) fun _ _ => rfl)) trivial) (ss1 (sRet (opD oMod (opD oFdiv (opD oMod (opD (oMul rfl) (vv 6) (opD (oAdd rfl) (opD oFdiv (vv 6) iD) iD)) (ixD (xIdx rfl (ru1 hr)) (vv 3) (opD oMod (opD (oAdd rfl) (vv 4) iD) iD) fun _ _ => rfl)) iD) (vv 1))))))))))
theorem sc__law_choice : FnScope ["_law_source_here", "_law_some"] ["_law_source_here", "_law_some"] (defScope (top 69)) := ⟨rfl, rfl, rfl, by decide +kernel, rfl, by decide +kernel, by decide +kernel⟩
theorem ok__law_choice (hW : W.ct = ct0) (hN : W.fn = fn0) (F : FnP W (top 69) "_law_choice" "_law_choice" [] [] f fd) (b_len : mg "len" = none) (H__law_draw : Has P w mg base W 2 "_law_draw" ["_law_source_here", "_law_often"] 2 f__law_draw [(2, [], [0, 1], [])]) : FnB P w mg base W 4 f fd ["_law_source_here", "_law_some"] 2 f__law_choice [(2, [], [0, 1], [])] := by
  have nd : (["_law_source_here", "_law_some"] : List Str).Nodup := sc__law_choice.nd
  refine ⟨F.kp, okE (fnD F sc__law_choice rfl fun cdv A outer s H E hr tk => ?_) rfl, alC (bnN F 2 [] [0, 1] fun _ _ _ _ _ _ us ws h1 h2 => match us, h1, ws, h2 with | [_, _], _, [], _ => by kernel_rfl) alN⟩
  exact (ss1 (sRet (ixD (xIdx rfl (ru1 hr)) (vv 1) (callH H__law_draw 0 rfl rfl hr (by decide) rfl tk (aD (vv 0) (aD (bD (cLen rfl) b_len bt_len (aD (vv 1) nD)) nD)) kNil) fun _ _ => rfl)))
theorem sc__law_expression_0 : FnScope ["_law_source_here", "_law_letters_here", "_law_depth_here", "_law_left", "_law_one"] ["_law_source_here", "_law_letters_here", "_law_depth_here"] (defScope (top 70)) := ⟨rfl, rfl, rfl, by decide +kernel, rfl, by decide +kernel, by decide +kernel⟩
theorem ok__law_expression_0 (hW : W.ct = ct0) (hN : W.fn = fn0) (F : FnP W (top 70) "_law_expression" "_law_expression" [] [] f fd) (H__law_draw : Has P w mg base W 2 "_law_draw" ["_law_source_here", "_law_often"] 2 f__law_draw [(2, [], [0, 1], [])]) (H__law_choice : Has P w mg base W 4 "_law_choice" ["_law_source_here", "_law_some"] 2 f__law_choice [(2, [], [0, 1], [])]) : FnB P w mg base W 6 f fd ["_law_source_here", "_law_letters_here", "_law_depth_here"] 3 f__law_expression_0 [(3, [], [0, 1, 2], [])] := by
  have nd : (["_law_source_here", "_law_letters_here", "_law_depth_here", "_law_left", "_law_one"] : List Str).Nodup := sc__law_expression_0.nd
  refine ⟨F.kp, okE (fnD F sc__law_expression_0 rfl fun cdv A outer s H E hr tk => ?_) rfl, alC (bnN F 3 [] [0, 1, 2] fun _ _ _ _ _ _ us ws h1 h2 => match us, h1, ws, h2 with | [_, _, _], _, [], _ => by kernel_rfl) alN⟩
  exact (ssC (sIf (ptW (orD (cmT (oEq rfl (ru hr)) (vv 2) iD (nomark _)) (or1D (ptW (andD (cmT (oEq rfl (ru hr)) (vv 1) iD (nomark _)) (and1D (cmT oGt (callH H__law_draw 0 rfl rfl hr (by decide) rfl tk (aD (vv 0) (aD iD nD)) kNil) iD (nomark _))))))))
  (ss1 (sRet (callH H__law_choice 0 rfl rfl hr (by decide) rfl tk (aD (vv 0) (aD (lstD (aD sD (aD sD nD))) nD)) kNil)))
  ss0) (ssC (sIf (ptW (orD (cmT (oEq rfl (ru hr)) (vv 1) iD (nomark _)) (or1D (cmT (oEq rfl (ru hr)) (callH H__law_draw 0 rfl rfl hr (by decide) rfl tk (aD (vv 0) (aD iD nD)) kNil) iD (nomark _)))))
  (ss1 (sRet (tupD (aD (callH H__law_choice 0 rfl rfl hr (by decide) rfl tk (aD (vv 0) (aD (lstD (aD sD (aD sD nD))) nD)) kNil) (aD wallE nD)))))
  ss0) (ssC (sSet nd (i := 3) rfl (by trivial) (opD (oAdd rfl) iD (callH H__law_draw 0 rfl rfl hr (by decide) rfl tk (aD (vv 0) (aD (opD oSub (vv 1) iD) nD)) kNil)) trivial) (ssC (sSet nd (i := 4) rfl (by trivial) wallE trivial) (ss1 (sRet (tupD (aD (callH H__law_choice 0 rfl rfl hr (by decide) rfl tk (aD (vv 0) (aD (lstD (aD sD (aD sD (aD sD (aD sD nD))))) nD)) kNil) (aD (vv 4) (aD wallE nD))))))))))
theorem ok__law_expression_P {FR : DF} {lv : Nat} (hlv : 4 ≤ lv) (hW : W.ct = ct0) (hN : W.fn = fn0) (F : FnP W (top 70) "_law_expression" "_law_expression" [] [] f fd) (H__law_draw : Has P w mg base W 2 "_law_draw" ["_law_source_here", "_law_often"] 2 f__law_draw [(2, [], [0, 1], [])]) (H__law_choice : Has P w mg base W 4 "_law_choice" ["_law_source_here", "_law_some"] 2 f__law_choice [(2, [], [0, 1], [])]) (H__law_expression_0 : Has P w mg base W lv "_law_expression" ["_law_source_here", "_law_letters_here", "_law_depth_here"] 3 FR [(3, [], [0, 1, 2], [])]) : FnB P w mg base W (lv + 2) f fd ["_law_source_here", "_law_letters_here", "_law_depth_here"] 3 (f__law_expression_P FR) [(3, [], [0, 1, 2], [])] := by
  have nd : (["_law_source_here", "_law_letters_here", "_law_depth_here", "_law_left", "_law_one"] : List Str).Nodup := sc__law_expression_0.nd
  refine ⟨F.kp, okE (fnD F sc__law_expression_0 rfl fun cdv A outer s H E hr tk => ?_) rfl, alC (bnN F 3 [] [0, 1, 2] fun _ _ _ _ _ _ us ws h1 h2 => match us, h1, ws, h2 with | [_, _, _], _, [], _ => by kernel_rfl) alN⟩
  exact (ssC (sIf (ptW (orD (cmT (oEq rfl (ru hr)) (vv 2) iD (nomark _)) (or1D (ptW (andD (cmT (oEq rfl (ru hr)) (vv 1) iD (nomark _)) (and1D (cmT oGt (callH H__law_draw 0 rfl rfl hr (by omega) rfl tk (aD (vv 0) (aD iD nD)) kNil) iD (nomark _))))))))
  (ss1 (sRet (callH H__law_choice 0 rfl rfl hr (by omega) rfl tk (aD (vv 0) (aD (lstD (aD sD (aD sD nD))) nD)) kNil)))
  ss0) (ssC (sIf (ptW (orD (cmT (oEq rfl (ru hr)) (vv 1) iD (nomark _)) (or1D (cmT (oEq rfl (ru hr)) (callH H__law_draw 0 rfl rfl hr (by omega) rfl tk (aD (vv 0) (aD iD nD)) kNil) iD (nomark _)))))
  (ss1 (sRet (tupD (aD (callH H__law_choice 0 rfl rfl hr (by omega) rfl tk (aD (vv 0) (aD (lstD (aD sD (aD sD nD))) nD)) kNil) (aD (callH H__law_expression_0 0 rfl rfl hr (by omega) rfl tk (aD (vv 0) (aD (vv 1) (aD (opD oSub (vv 2) iD) nD))) kNil) nD)))))
  ss0) (ssC (sSet nd (i := 3) rfl (by trivial) (opD (oAdd rfl) iD (callH H__law_draw 0 rfl rfl hr (by omega) rfl tk (aD (vv 0) (aD (opD oSub (vv 1) iD) nD)) kNil)) trivial) (ssC (sSet nd (i := 4) rfl (by trivial) (callH H__law_expression_0 0 rfl rfl hr (by omega) rfl tk (aD (vv 0) (aD (vv 3) (aD (opD oSub (vv 2) iD) nD))) kNil) trivial) (ss1 (sRet (tupD (aD (callH H__law_choice 0 rfl rfl hr (by omega) rfl tk (aD (vv 0) (aD (lstD (aD sD (aD sD (aD sD (aD sD nD))))) nD)) kNil) (aD (vv 4) (aD (callH H__law_expression_0 0 rfl rfl hr (by omega) rfl tk (aD (vv 0) (aD (opD oSub (vv 1) (vv 3)) (aD (opD oSub (vv 2) iD) nD))) kNil) nD))))))))))
theorem sc__law_spoilt_0 : FnScope ["_law_source_here", "_law_thing", "_law_odd", "_law_place", "_law_way"] ["_law_source_here", "_law_thing"] (defScope (top 74)) := ⟨rfl, rfl, rfl, by decide +kernel, rfl, by decide +kernel, by decide +kernel⟩
theorem ok__law_spoilt_0 (hW : W.ct = ct0) (hN : W.fn = fn0) (F : FnP W (top 74) "_law_spoilt" "_law_spoilt" [] [] f fd) (b_isinstance : mg "isinstance" = none) (b_tuple : mg "tuple" = none) (b_len : mg "len" = none) (H__law_draw : Has P w mg base W 2 "_law_draw" ["_law_source_here", "_law_often"] 2 f__law_draw [(2, [], [0, 1], [])]) (H__law_choice : Has P w mg base W 4 "_law_choice" ["_law_source_here", "_law_some"] 2 f__law_choice [(2, [], [0, 1], [])]) : FnB P w mg base W 6 f fd ["_law_source_here", "_law_thing"] 2 f__law_spoilt_0 [(2, [], [0, 1], [])] := by
  have nd : (["_law_source_here", "_law_thing", "_law_odd", "_law_place", "_law_way"] : List Str).Nodup := sc__law_spoilt_0.nd
  refine ⟨F.kp, okE (fnD F sc__law_spoilt_0 rfl fun cdv A outer s H E hr tk => ?_) rfl, alC (bnN F 2 [] [0, 1] fun _ _ _ _ _ _ us ws h1 h2 => match us, h1, ws, h2 with | [_, _], _, [], _ => by kernel_rfl) alN⟩
  exact (ssC (sSet nd (i := 2) rfl (by trivial) (lstD (aD nD0 (aD bD0 (aD iD (aD sD (aD sD (aD sD (aD sD (aD sD (aD (tupD nD) (aD (tupD (aD sD nD)) (aD (lstD (aD sD (aD sD (aD sD nD)))) (aD (tupD (aD sD nD)) (aD (tupD (aD sD (aD sD nD))) (aD sD nD))))))))))))))) trivial) (ssC (sExpr (mD rfl PySem.F.plainAttrs_list PySem.F.slot_list_append meAppend (vv 2) (aD (tupD (aD sD (aD sD (aD sD nD)))) nD))) (ssC (sIf (ptW (orD (notD (tstD (bD (cIsiE rfl hW) b_isinstance bt_isinstance (aD (vv 1) (aD (tyD b_tuple bt_tuple) nD))))) (orD (cmT (oEq rfl (ru hr)) (vv 1) (tupD nD) (nomark _)) (or1D (cmT (oEq rfl (ru hr)) (callH H__law_draw 0 rfl rfl hr (by decide) rfl tk (aD (vv 0) (aD iD nD)) kNil) iD (nomark _))))))
  (ss1 (sRet (callH H__law_choice 0 rfl rfl hr (by decide) rfl tk (aD (vv 0) (aD (vv 2) nD)) kNil)))
  ss0) (ssC (sPar2 rfl nd rfl rfl (by decide) rfl rfl (aD (callH H__law_draw 0 rfl rfl hr (by decide) rfl tk (aD (vv 0) (aD (bD (cLen rfl) b_len bt_len (aD (vv 1) nD)) nD)) kNil) (aD (callH H__law_draw 0 rfl rfl hr (by decide) rfl tk (aD (vv 0) (aD iD nD)) kNil) nD)) trivial trivial) (ssC (sIf (cmT (oEq rfl (ru hr)) (vv 4) iD (nomark _))
  (ss1 (sRet (opD (oAdd rfl) (slcD rfl (vv 1) noP (prtD (vv 3))) (slcD rfl (vv 1) (prtD (opD (oAdd rfl) (vv 3) iD)) noP))))
  ss0) (ssC (sIf (cmT (oEq rfl (ru hr)) (vv 4) iD (nomark _))
  (ss1 (sRet (opD (oAdd rfl) (opD (oAdd rfl) (slcD rfl (vv 1) noP (prtD (vv 3))) (tupD (aD (callH H__law_choice 0 rfl rfl hr (by decide) rfl tk (aD (vv 0) (aD (vv 2) nD)) kNil) nD))) (slcD rfl (vv 1) (prtD (vv 3)) noP))))
  ss0) (ss1 (sRet (opD (oAdd rfl) (opD (oAdd rfl) (slcD rfl (vv 1) noP (prtD (vv 3))) (tupD (aD wallE nD))) (slcD rfl (vv 1) (prtD (opD (oAdd rfl) (vv 3) iD)) noP))))))))))
theorem ok__law_spoilt_P {FR : DF} {lv : Nat} (hlv : 4 ≤ lv) (hW : W.ct = ct0) (hN : W.fn = fn0) (F : FnP W (top 74) "_law_spoilt" "_law_spoilt" [] [] f fd) (b_isinstance : mg "isinstance" = none) (b_tuple : mg "tuple" = none) (b_len : mg "len" = none) (H__law_draw : Has P w mg base W 2 "_law_draw" ["_law_source_here", "_law_often"] 2 f__law_draw [(2, [], [0, 1], [])]) (H__law_choice : Has P w mg base W 4 "_law_choice" ["_law_source_here", "_law_some"] 2 f__law_choice [(2, [], [0, 1], [])]) (H__law_spoilt_0 : Has P w mg base W lv "_law_spoilt" ["_law_source_here", "_law_thing"] 2 FR [(2, [], [0, 1], [])]) : FnB P w mg base W (lv + 2) f fd ["_law_source_here", "_law_thing"] 2 (f__law_spoilt_P FR) [(2, [], [0, 1], [])] := by
  have nd : (["_law_source_here", "_law_thing", "_law_odd", "_law_place", "_law_way"] : List Str).Nodup := sc__law_spoilt_0.nd
  refine ⟨F.kp, okE (fnD F sc__law_spoilt_0 rfl fun cdv A outer s H E hr tk => ?_) rfl, alC (bnN F 2 [] [0, 1] fun _ _ _ _ _ _ us ws h1 h2 => match us, h1, ws, h2 with | [_, _], _, [], _ => by kernel_rfl) alN⟩
  exact (ssC (sSet nd (i := 2) rfl (by trivial) (lstD (aD nD0 (aD bD0 (aD iD (aD sD (aD sD (aD sD (aD sD (aD sD (aD (tupD nD) (aD (tupD (aD sD nD)) (aD (lstD (aD sD (aD sD (aD sD nD)))) (aD (tupD (aD sD nD)) (aD (tupD (aD sD (aD sD nD))) (aD sD nD))))))))))))))) trivial) (ssC (sExpr (mD rfl PySem.F.plainAttrs_list PySem.F.slot_list_append meAppend (vv 2) (aD (tupD (aD sD (aD sD (aD sD nD)))) nD))) (ssC (sIf (ptW (orD (notD (tstD (bD (cIsiE rfl hW) b_isinstance bt_isinstance (aD (vv 1) (aD (tyD b_tuple bt_tuple) nD))))) (orD (cmT (oEq rfl (ru hr)) (vv 1) (tupD nD) (nomark _)) (or1D (cmT (oEq rfl (ru hr)) (callH H__law_draw 0 rfl rfl hr (by omega) rfl tk (aD (vv 0) (aD iD nD)) kNil) iD (nomark _))))))
  (ss1 (sRet (callH H__law_choice 0 rfl rfl hr (by omega) rfl tk (aD (vv 0) (aD (vv 2) nD)) kNil)))
  ss0) (ssC (sPar2 rfl nd rfl rfl (by decide) rfl rfl (aD (callH H__law_draw 0 rfl rfl hr (by omega) rfl tk (aD (vv 0) (aD (bD (cLen rfl) b_len bt_len (aD (vv 1) nD)) nD)) kNil) (aD (callH H__law_draw 0 rfl rfl hr (by omega) rfl tk (aD (vv 0) (aD iD nD)) kNil) nD)) trivial trivial) (ssC (sIf (cmT (oEq rfl (ru hr)) (vv 4) iD (nomark _))
  (ss1 (sRet (opD (oAdd rfl) (slcD rfl (vv 1) noP (prtD (vv 3))) (slcD rfl (vv 1) (prtD (opD (oAdd rfl) (vv 3) iD)) noP))))
  ss0) (ssC (sIf (cmT (oEq rfl (ru hr)) (vv 4) iD (nomark _))
  (ss1 (sRet (opD (oAdd rfl) (opD (oAdd rfl) (slcD rfl (vv 1) noP (prtD (vv 3))) (tupD (aD (callH H__law_choice 0 rfl rfl hr (by omega) rfl tk (aD (vv 0) (aD (vv 2) nD)) kNil) nD))) (slcD rfl (vv 1) (prtD (vv 3)) noP))))
  ss0) (ss1 (sRet (opD (oAdd rfl) (opD (oAdd rfl) (slcD rfl (vv 1) noP (prtD (vv 3))) (tupD (aD (callH H__law_spoilt_0 0 rfl rfl hr (by omega) rfl tk (aD (vv 0) (aD (ixD (xIdx rfl (ru1 hr)) (vv 1) (vv 3) fun _ _ => rfl) nD)) kNil) nD))) (slcD rfl (vv 1) (prtD (opD (oAdd rfl) (vv 3) iD)) noP))))))))))
theorem sc_law : FnScope ["_law_script", "_law_long", "_law_deep", "_law_turn", "_law_other", "_law_place", "_law_source_here", "_law_thing"] ["_law_script"] (defScope (top 77)) := ⟨rfl, rfl, rfl, by decide +kernel, rfl, by decide +kernel, by decide +kernel⟩
theorem ok_law (hW : W.ct = ct0) (hN : W.fn = fn0) (F : FnP W (top 77) "law" "law" [] [] f fd) (b_range : mg "range" = none) (b_max : mg "max" = none) (b_min : mg "min" = none) (b_len : mg "len" = none) (b_list : mg "list" = none) (H__law_is_right : HasG P w mg base W 31 "_law_is_right" ["_law_thing"] 1 f__law_is_right [(1, [], [0], [])]) (H__law_source : Has P w mg base W 2 "_law_source" ["_law_script", "_law_place"] 2 f__law_source [(2, [], [0, 1], [])]) (H__law_expression_8 : Has P w mg base W 22 "_law_expression" ["_law_source_here", "_law_letters_here", "_law_depth_here"] 3 f__law_expression_8 [(3, [], [0, 1, 2], [])]) (H__law_draw : Has P w mg base W 2 "_law_draw" ["_law_source_here", "_law_often"] 2 f__law_draw [(2, [], [0, 1], [])]) (H__law_spoilt_12 : Has P w mg base W 30 "_law_spoilt" ["_law_source_here", "_law_thing"] 2 f__law_spoilt_12 [(2, [], [0, 1], [])]) : FnG P w W.K mg base (L2.CX P w) 33 f fd ["_law_script"] (spD W 1 f_law) := by
  have nd : (["_law_script", "_law_long", "_law_deep", "_law_turn", "_law_other", "_law_place", "_law_source_here", "_law_thing"] : List Str).Nodup := sc_law.nd
  refine okGE (fnDG F sc_law rfl fun cdv A outer s H E hgd hr tk => ?_) rfl
  exact (ssC (sAsg (tupD (aD sD (aD sD nD))) (gT rfl rfl (gsC anyC_ok (gN nd rfl (by trivial) trivial (fun _ _ => trivial)) (gsC anyC_ok (gN nd rfl (by trivial) trivial (fun _ _ => trivial)) (gs0 anyC_ok))) (dgC_len (dgC_len dg0_len)))) (ssC (sFor (passes_of rfl) rfl (rg1D rfl b_range (aD iD nD)) (gN nd rfl (by trivial) trivial (fun _ _ => trivial))
  (ssC (sSet nd (i := 1) rfl (by trivial) (tupD (aD sD (aD (vv 1) (aD sD nD)))) trivial) (ssC (sSet nd (i := 2) rfl (by trivial) (ifD (cmT (oEq rfl (ru hr)) (opD oMod (vv 3) iD) iD (nomark _)) (tupD (aD sD (aD (vv 2) nD))) (tupD (aD sD (aD (vv 2) (aD sD nD))))) trivial) (ssC (sSet nd (i := 4) rfl (by trivial) (ifD (cmT oGt (vv 3) iD (nomark _)) (tupD (aD sD (aD (vv 1) nD))) (vv 2)) trivial) (ss1 (sIf (ptW (orD (notD (tstD (callHG H__law_is_right hgd 0 rfl rfl hr (by decide) rfl tk (aD (vv 1) nD) kNil))) (orD (notD (tstD (callHG H__law_is_right hgd 0 rfl rfl hr (by decide) rfl tk (aD (vv 2) nD) kNil))) (or1D (notD (tstD (callHG H__law_is_right hgd 0 rfl rfl hr (by decide) rfl tk (aD (vv 4) nD) kNil)))))))
  (ss1 (sRet bD0))
  ss0)))))) (ssC (sFor (passes_of rfl) rfl (rg1D rfl b_range (aD (bD (cMax rfl) b_max bt_max (aD iD (aD (bD (cMin rfl) b_min bt_min (aD iD (aD (bD (cLen rfl) b_len bt_len (aD (vv 0) nD)) nD))) nD))) nD)) (gN nd rfl (by trivial) trivial (fun _ _ => trivial))
  (ssC (sSet nd (i := 6) rfl (by trivial) (callH H__law_source 0 rfl rfl hr (by decide) rfl tk (aD (vv 0) (aD (vv 5) nD)) kNil) trivial) (ss1 (sFor (passes_of rfl) rfl (rg1D rfl b_range (aD iD nD)) (gN nd rfl (by trivial) trivial (fun _ _ => trivial))
  (ssC (sSet nd (i := 7) rfl (by trivial) (callH H__law_expression_8 0 rfl rfl hr (by decide) rfl tk (aD (vv 6) (aD (opD (oAdd rfl) iD (callH H__law_draw 0 rfl rfl hr (by decide) rfl tk (aD (vv 6) (aD iD nD)) kNil)) (aD iD nD))) kNil) trivial) (ssC (sIf (ptW (orD (notD (tstD (callHG H__law_is_right hgd 0 rfl rfl hr (by decide) rfl tk (aD (vv 7) nD) kNil))) (or1D (notD (tstD (callHG H__law_is_right hgd 0 rfl rfl hr (by decide) rfl tk (aD (callH H__law_spoilt_12 0 rfl rfl hr (by decide) rfl tk (aD (vv 6) (aD (vv 7) nD)) kNil) nD) kNil))))))
  (ss1 (sRet bD0))
  ss0) (ss1 (sIf (ptW (orD (notD (tstD (callHG H__law_is_right hgd 0 rfl rfl hr (by decide) rfl tk (aD (tupD (aD sD (aD (vv 7) (aD (vv 7) nD)))) nD) kNil))) (or1D (notD (tstD (callHG H__law_is_right hgd 0 rfl rfl hr (by decide) rfl tk (aD (yD (cListS rfl rfl) b_list bt_list (aD (vv 7) nD)) nD) kNil))))))
  (ss1 (sRet bD0))
  ss0)))))))) (ss1 (sRet bD0)))))
end
theorem facts : FactsP := by
  intro P w K h mg f X G hfa c hl
  obtain ⟨fd__law_has_form_0, F__law_has_form_0⟩ := c.def_ 0 (d := d__law_has_form_0) rfl
  obtain ⟨fd__law_letters_0, F__law_letters_0⟩ := c.def_ 1 (d := d__law_letters_0) rfl
  obtain ⟨fd__law_depth_0, F__law_depth_0⟩ := c.def_ 2 (d := d__law_depth_0) rfl
  obtain ⟨fd_has_form_0, F_has_form_0⟩ := c.def_ 3 (d := d_has_form_0) rfl
  obtain ⟨fd_letters_of_0, F_letters_of_0⟩ := c.def_ 4 (d := d_letters_of_0) rfl
  obtain ⟨fd_is_expression, F_is_expression⟩ := c.def_ 5 (d := d_is_expression) rfl
  obtain ⟨fd__law_error, F__law_error⟩ := c.def_ 6 (d := d__law_error) rfl
  obtain ⟨fd_smallest, F_smallest⟩ := c.def_ 7 (d := d_smallest) rfl
  obtain ⟨fd_need_expression, F_need_expression⟩ := c.def_ 8 (d := d_need_expression) rfl
  obtain ⟨fd_Table_is_plain, F_Table_is_plain⟩ := c.def_ 9 (d := d_Table_is_plain) rfl
  obtain ⟨fd_Counter_is_plain, F_Counter_is_plain⟩ := c.def_ 10 (d := d_Counter_is_plain) rfl
  obtain ⟨fd_Table_ordered, F_Table_ordered⟩ := c.def_ 11 (d := d_Table_ordered) rfl
  obtain ⟨fd_Table_pairs, F_Table_pairs⟩ := c.def_ 12 (d := d_Table_pairs) rfl
  obtain ⟨fd_Counter_pairs, F_Counter_pairs⟩ := c.def_ 13 (d := d_Counter_pairs) rfl
  obtain ⟨fd_is_word, F_is_word⟩ := c.def_ 14 (d := d_is_word) rfl
  obtain ⟨fd_is_integer, F_is_integer⟩ := c.def_ 15 (d := d_is_integer) rfl
  obtain ⟨fd_is_short, F_is_short⟩ := c.def_ 16 (d := d_is_short) rfl
  obtain ⟨fd_is_item, F_is_item⟩ := c.def_ 17 (d := d_is_item) rfl
  obtain ⟨fd_are_pairs, F_are_pairs⟩ := c.def_ 18 (d := d_are_pairs) rfl
  obtain ⟨fd_pairs_of, F_pairs_of⟩ := c.def_ 19 (d := d_pairs_of) rfl
  obtain ⟨fd_Table_xinit, F_Table_xinit⟩ := c.def_ 20 (d := d_Table_xinit) rfl
  obtain ⟨fd_is_pair, F_is_pair⟩ := c.def_ 21 (d := d_is_pair) rfl
  obtain ⟨fd_count_pairs, F_count_pairs⟩ := c.def_ 22 (d := d_count_pairs) rfl
  obtain ⟨fd_Counter_xinit, F_Counter_xinit⟩ := c.def_ 23 (d := d_Counter_xinit) rfl
  obtain ⟨fd_Counter_copy, F_Counter_copy⟩ := c.def_ 24 (d := d_Counter_copy) rfl
  obtain ⟨fd_value, F_value⟩ := c.def_ 25 (d := d_value) rfl
  obtain ⟨fd_unequal, F_unequal⟩ := c.def_ 26 (d := d_unequal) rfl
  obtain ⟨fd_disordered, F_disordered⟩ := c.def_ 27 (d := d_disordered) rfl
  obtain ⟨fd__law_is_right, F__law_is_right⟩ := c.def_ 28 (d := d__law_is_right) rfl
  obtain ⟨fd__law_source, F__law_source⟩ := c.def_ 29 (d := d__law_source) rfl
  obtain ⟨fd__law_draw, F__law_draw⟩ := c.def_ 30 (d := d__law_draw) rfl
  obtain ⟨fd__law_choice, F__law_choice⟩ := c.def_ 31 (d := d__law_choice) rfl
  obtain ⟨fd__law_expression_0, F__law_expression_0⟩ := c.def_ 32 (d := d__law_expression_0) rfl
  obtain ⟨fd__law_spoilt_0, F__law_spoilt_0⟩ := c.def_ 33 (d := d__law_spoilt_0) rfl
  obtain ⟨fd_law, F_law⟩ := c.def_ 34 (d := d_law) rfl
  have e := hfa.symm.trans (He.glo_ok X G (c.fact 0 (f := .glo "law") rfl))
  cases e
  have bl := FunD.bindsA (ps := ["_law_script"]) F_law fun _ _ _ _ _ _ us hl => match us, hl with | [_], _ => rfl
  refine ⟨fd_law, fun s v => bl s [v] rfl, fun base _ _ hTB => ?_⟩
  obtain ⟨W, hWe⟩ : ∃ W : Wd, W = ({ (mkWX K cs0 xs0 fn0 subs0 (by decide) (c.x 2 (f := wdXB cs0 xs0 fn0 subs0) rfl) (cdB_ok (c.x 0 (f := cdB) rfl)) (ckB_ok (c.x 1 (f := ckB) rfl))) with T := [(tabF K (codF K ((pDef "_law_is_right") K)), (("_law_is_right" : Str) ++ (".<locals>." : Str) ++ ("<lambda>" : Str)))] } : Wd) := ⟨_, rfl⟩
  have hW : W.ct = ct0 := by rw [hWe] <;> rfl
  have hN : W.fn = fn0 := by rw [hWe] <;> rfl
  have hKW : W.K = K := by rw [hWe] <;> rfl
  have hWT : W.T = [(tabF K (codF K ((pDef "_law_is_right") K)), (("_law_is_right" : Str) ++ (".<locals>." : Str) ++ ("<lambda>" : Str)))] := by rw [hWe] <;> rfl
  have hc_Table : W.cl 0 = He.ga K "Table" := by rw [hWe] <;> rfl
  have hc_Deque : W.cl 1 = He.ga K "Deque" := by rw [hWe] <;> rfl
  have hc_Counter : W.cl 2 = He.ga K "Counter" := by rw [hWe] <;> rfl
  have hc_BadExpression : W.cl 3 = He.ga K "BadExpression" := by rw [hWe] <;> rfl
  have hc_CountError : W.cl 4 = He.ga K "CountError" := by rw [hWe] <;> rfl
  have hcl : W.cl = clOf K (cs0 ++ xs0) := by rw [hWe] <;> rfl
  clear hWe
  subst hKW
  have ndT : ([(tabF W.K (codF W.K ((pDef "_law_is_right") W.K)), (("_law_is_right" : Str) ++ (".<locals>." : Str) ++ ("<lambda>" : Str)))].map (·.1)).Nodup := of_decide_eq_true (show decide _ = true from (c.x 3 (f := fun K => decide (([(tabF K (codF K ((pDef "_law_is_right") K)), (("_law_is_right" : Str) ++ (".<locals>." : Str) ++ ("<lambda>" : Str)))].map (·.1)).Nodup)) rfl))
  have XW : XWd W xt0 := xwB_ok hcl (by rw [hN]; exact (c.x 4 (f := xwB (cs0 ++ xs0) fn0 xt0) rfl))
  have X0_BadExpression : HasX0 mg W 3 "BadExpression" := x0B_ok PySem.F.excBase_ValueError hc_BadExpression (He.glo_ok X G (c.fact 1 (f := .glo "BadExpression") rfl)) (c.x 5 (f := x0B "BadExpression" [.type "ValueError", .type "Exception", .type "BaseException", .type "object"] "ValueError.__new__") rfl)
  have B__law_has_form_0 := @ok__law_has_form_0 P w mg base W _ _ hW hN F__law_has_form_0 (He.free_ok X G (c.fact 2 (f := .free "isinstance") rfl)) (He.free_ok X G (c.fact 3 (f := .free "str") rfl)) (He.free_ok X G (c.fact 4 (f := .free "tuple") rfl)) (He.free_ok X G (c.fact 5 (f := .free "len") rfl)) (He.free_ok X G (c.fact 6 (f := .free "all") rfl))
  have H__law_has_form_0 : Has P w mg base W 2 "_law_has_form" ["_law_thing"] 1 f__law_has_form_0 [(1, [], [0], [])] := B__law_has_form_0.has (He.glo_ok X G (c.fact 7 (f := .glo "_law_has_form") rfl))
  have B__law_has_form_1 := ok__law_has_form_P (P := P) (w := w) (mg := mg) (base := base) (W := W) (FR := f__law_has_form_0) (lv := 2) (by decide) hW hN F__law_has_form_0 (He.free_ok X G (c.fact 2 (f := .free "isinstance") rfl)) (He.free_ok X G (c.fact 3 (f := .free "str") rfl)) (He.free_ok X G (c.fact 4 (f := .free "tuple") rfl)) (He.free_ok X G (c.fact 5 (f := .free "len") rfl)) (He.free_ok X G (c.fact 6 (f := .free "all") rfl)) H__law_has_form_0
  have H__law_has_form_1 : Has P w mg base W 4 "_law_has_form" ["_law_thing"] 1 f__law_has_form_1 [(1, [], [0], [])] := B__law_has_form_1.has (He.glo_ok X G (c.fact 7 (f := .glo "_law_has_form") rfl))
  have B__law_has_form_2 := ok__law_has_form_P (P := P) (w := w) (mg := mg) (base := base) (W := W) (FR := f__law_has_form_1) (lv := 4) (by decide) hW hN F__law_has_form_0 (He.free_ok X G (c.fact 2 (f := .free "isinstance") rfl)) (He.free_ok X G (c.fact 3 (f := .free "str") rfl)) (He.free_ok X G (c.fact 4 (f := .free "tuple") rfl)) (He.free_ok X G (c.fact 5 (f := .free "len") rfl)) (He.free_ok X G (c.fact 6 (f := .free "all") rfl)) H__law_has_form_1
  have H__law_has_form_2 : Has P w mg base W 6 "_law_has_form" ["_law_thing"] 1 f__law_has_form_2 [(1, [], [0], [])] := B__law_has_form_2.has (He.glo_ok X G (c.fact 7 (f := .glo "_law_has_form") rfl))
  have B__law_has_form_3 := ok__law_has_form_P (P := P) (w := w) (mg := mg) (base := base) (W := W) (FR := f__law_has_form_2) (lv := 6) (by decide) hW hN F__law_has_form_0 (He.free_ok X G (c.fact 2 (f := .free "isinstance") rfl)) (He.free_ok X G (c.fact 3 (f := .free "str") rfl)) (He.free_ok X G (c.fact 4 (f := .free "tuple") rfl)) (He.free_ok X G (c.fact 5 (f := .free "len") rfl)) (He.free_ok X G (c.fact 6 (f := .free "all") rfl)) H__law_has_form_2
  have H__law_has_form_3 : Has P w mg base W 8 "_law_has_form" ["_law_thing"] 1 f__law_has_form_3 [(1, [], [0], [])] := B__law_has_form_3.has (He.glo_ok X G (c.fact 7 (f := .glo "_law_has_form") rfl))
  have B__law_has_form_4 := ok__law_has_form_P (P := P) (w := w) (mg := mg) (base := base) (W := W) (FR := f__law_has_form_3) (lv := 8) (by decide) hW hN F__law_has_form_0 (He.free_ok X G (c.fact 2 (f := .free "isinstance") rfl)) (He.free_ok X G (c.fact 3 (f := .free "str") rfl)) (He.free_ok X G (c.fact 4 (f := .free "tuple") rfl)) (He.free_ok X G (c.fact 5 (f := .free "len") rfl)) (He.free_ok X G (c.fact 6 (f := .free "all") rfl)) H__law_has_form_3
  have H__law_has_form_4 : Has P w mg base W 10 "_law_has_form" ["_law_thing"] 1 f__law_has_form_4 [(1, [], [0], [])] := B__law_has_form_4.has (He.glo_ok X G (c.fact 7 (f := .glo "_law_has_form") rfl))
  have B__law_has_form_5 := ok__law_has_form_P (P := P) (w := w) (mg := mg) (base := base) (W := W) (FR := f__law_has_form_4) (lv := 10) (by decide) hW hN F__law_has_form_0 (He.free_ok X G (c.fact 2 (f := .free "isinstance") rfl)) (He.free_ok X G (c.fact 3 (f := .free "str") rfl)) (He.free_ok X G (c.fact 4 (f := .free "tuple") rfl)) (He.free_ok X G (c.fact 5 (f := .free "len") rfl)) (He.free_ok X G (c.fact 6 (f := .free "all") rfl)) H__law_has_form_4
  have H__law_has_form_5 : Has P w mg base W 12 "_law_has_form" ["_law_thing"] 1 f__law_has_form_5 [(1, [], [0], [])] := B__law_has_form_5.has (He.glo_ok X G (c.fact 7 (f := .glo "_law_has_form") rfl))
  have B__law_has_form_6 := ok__law_has_form_P (P := P) (w := w) (mg := mg) (base := base) (W := W) (FR := f__law_has_form_5) (lv := 12) (by decide) hW hN F__law_has_form_0 (He.free_ok X G (c.fact 2 (f := .free "isinstance") rfl)) (He.free_ok X G (c.fact 3 (f := .free "str") rfl)) (He.free_ok X G (c.fact 4 (f := .free "tuple") rfl)) (He.free_ok X G (c.fact 5 (f := .free "len") rfl)) (He.free_ok X G (c.fact 6 (f := .free "all") rfl)) H__law_has_form_5
  have H__law_has_form_6 : Has P w mg base W 14 "_law_has_form" ["_law_thing"] 1 f__law_has_form_6 [(1, [], [0], [])] := B__law_has_form_6.has (He.glo_ok X G (c.fact 7 (f := .glo "_law_has_form") rfl))
  have B__law_has_form_7 := ok__law_has_form_P (P := P) (w := w) (mg := mg) (base := base) (W := W) (FR := f__law_has_form_6) (lv := 14) (by decide) hW hN F__law_has_form_0 (He.free_ok X G (c.fact 2 (f := .free "isinstance") rfl)) (He.free_ok X G (c.fact 3 (f := .free "str") rfl)) (He.free_ok X G (c.fact 4 (f := .free "tuple") rfl)) (He.free_ok X G (c.fact 5 (f := .free "len") rfl)) (He.free_ok X G (c.fact 6 (f := .free "all") rfl)) H__law_has_form_6
  have H__law_has_form_7 : Has P w mg base W 16 "_law_has_form" ["_law_thing"] 1 f__law_has_form_7 [(1, [], [0], [])] := B__law_has_form_7.has (He.glo_ok X G (c.fact 7 (f := .glo "_law_has_form") rfl))
  have B__law_has_form_8 := ok__law_has_form_P (P := P) (w := w) (mg := mg) (base := base) (W := W) (FR := f__law_has_form_7) (lv := 16) (by decide) hW hN F__law_has_form_0 (He.free_ok X G (c.fact 2 (f := .free "isinstance") rfl)) (He.free_ok X G (c.fact 3 (f := .free "str") rfl)) (He.free_ok X G (c.fact 4 (f := .free "tuple") rfl)) (He.free_ok X G (c.fact 5 (f := .free "len") rfl)) (He.free_ok X G (c.fact 6 (f := .free "all") rfl)) H__law_has_form_7
  have H__law_has_form_8 : Has P w mg base W 18 "_law_has_form" ["_law_thing"] 1 f__law_has_form_8 [(1, [], [0], [])] := B__law_has_form_8.has (He.glo_ok X G (c.fact 7 (f := .glo "_law_has_form") rfl))
  have B__law_has_form_9 := ok__law_has_form_P (P := P) (w := w) (mg := mg) (base := base) (W := W) (FR := f__law_has_form_8) (lv := 18) (by decide) hW hN F__law_has_form_0 (He.free_ok X G (c.fact 2 (f := .free "isinstance") rfl)) (He.free_ok X G (c.fact 3 (f := .free "str") rfl)) (He.free_ok X G (c.fact 4 (f := .free "tuple") rfl)) (He.free_ok X G (c.fact 5 (f := .free "len") rfl)) (He.free_ok X G (c.fact 6 (f := .free "all") rfl)) H__law_has_form_8
  have H__law_has_form_9 : Has P w mg base W 20 "_law_has_form" ["_law_thing"] 1 f__law_has_form_9 [(1, [], [0], [])] := B__law_has_form_9.has (He.glo_ok X G (c.fact 7 (f := .glo "_law_has_form") rfl))
  have B__law_has_form_10 := ok__law_has_form_P (P := P) (w := w) (mg := mg) (base := base) (W := W) (FR := f__law_has_form_9) (lv := 20) (by decide) hW hN F__law_has_form_0 (He.free_ok X G (c.fact 2 (f := .free "isinstance") rfl)) (He.free_ok X G (c.fact 3 (f := .free "str") rfl)) (He.free_ok X G (c.fact 4 (f := .free "tuple") rfl)) (He.free_ok X G (c.fact 5 (f := .free "len") rfl)) (He.free_ok X G (c.fact 6 (f := .free "all") rfl)) H__law_has_form_9
  have H__law_has_form_10 : Has P w mg base W 22 "_law_has_form" ["_law_thing"] 1 f__law_has_form_10 [(1, [], [0], [])] := B__law_has_form_10.has (He.glo_ok X G (c.fact 7 (f := .glo "_law_has_form") rfl))
  have B__law_has_form_11 := ok__law_has_form_P (P := P) (w := w) (mg := mg) (base := base) (W := W) (FR := f__law_has_form_10) (lv := 22) (by decide) hW hN F__law_has_form_0 (He.free_ok X G (c.fact 2 (f := .free "isinstance") rfl)) (He.free_ok X G (c.fact 3 (f := .free "str") rfl)) (He.free_ok X G (c.fact 4 (f := .free "tuple") rfl)) (He.free_ok X G (c.fact 5 (f := .free "len") rfl)) (He.free_ok X G (c.fact 6 (f := .free "all") rfl)) H__law_has_form_10
  have H__law_has_form_11 : Has P w mg base W 24 "_law_has_form" ["_law_thing"] 1 f__law_has_form_11 [(1, [], [0], [])] := B__law_has_form_11.has (He.glo_ok X G (c.fact 7 (f := .glo "_law_has_form") rfl))
  have B__law_has_form_12 := ok__law_has_form_P (P := P) (w := w) (mg := mg) (base := base) (W := W) (FR := f__law_has_form_11) (lv := 24) (by decide) hW hN F__law_has_form_0 (He.free_ok X G (c.fact 2 (f := .free "isinstance") rfl)) (He.free_ok X G (c.fact 3 (f := .free "str") rfl)) (He.free_ok X G (c.fact 4 (f := .free "tuple") rfl)) (He.free_ok X G (c.fact 5 (f := .free "len") rfl)) (He.free_ok X G (c.fact 6 (f := .free "all") rfl)) H__law_has_form_11
  have B__law_letters_0 := @ok__law_letters_0 P w mg base W _ _ hW hN F__law_letters_0 (He.free_ok X G (c.fact 2 (f := .free "isinstance") rfl)) (He.free_ok X G (c.fact 3 (f := .free "str") rfl)) (He.free_ok X G (c.fact 8 (f := .free "sum") rfl))
  have H__law_letters_0 : Has P w mg base W 2 "_law_letters" ["_law_thing"] 1 f__law_letters_0 [(1, [], [0], [])] := B__law_letters_0.has (He.glo_ok X G (c.fact 9 (f := .glo "_law_letters") rfl))
  have B__law_letters_1 := ok__law_letters_P (P := P) (w := w) (mg := mg) (base := base) (W := W) (FR := f__law_letters_0) (lv := 2) (by decide) hW hN F__law_letters_0 (He.free_ok X G (c.fact 2 (f := .free "isinstance") rfl)) (He.free_ok X G (c.fact 3 (f := .free "str") rfl)) (He.free_ok X G (c.fact 8 (f := .free "sum") rfl)) H__law_letters_0
  have H__law_letters_1 : Has P w mg base W 4 "_law_letters" ["_law_thing"] 1 f__law_letters_1 [(1, [], [0], [])] := B__law_letters_1.has (He.glo_ok X G (c.fact 9 (f := .glo "_law_letters") rfl))
  have B__law_letters_2 := ok__law_letters_P (P := P) (w := w) (mg := mg) (base := base) (W := W) (FR := f__law_letters_1) (lv := 4) (by decide) hW hN F__law_letters_0 (He.free_ok X G (c.fact 2 (f := .free "isinstance") rfl)) (He.free_ok X G (c.fact 3 (f := .free "str") rfl)) (He.free_ok X G (c.fact 8 (f := .free "sum") rfl)) H__law_letters_1
  have H__law_letters_2 : Has P w mg base W 6 "_law_letters" ["_law_thing"] 1 f__law_letters_2 [(1, [], [0], [])] := B__law_letters_2.has (He.glo_ok X G (c.fact 9 (f := .glo "_law_letters") rfl))
  have B__law_letters_3 := ok__law_letters_P (P := P) (w := w) (mg := mg) (base := base) (W := W) (FR := f__law_letters_2) (lv := 6) (by decide) hW hN F__law_letters_0 (He.free_ok X G (c.fact 2 (f := .free "isinstance") rfl)) (He.free_ok X G (c.fact 3 (f := .free "str") rfl)) (He.free_ok X G (c.fact 8 (f := .free "sum") rfl)) H__law_letters_2
  have H__law_letters_3 : Has P w mg base W 8 "_law_letters" ["_law_thing"] 1 f__law_letters_3 [(1, [], [0], [])] := B__law_letters_3.has (He.glo_ok X G (c.fact 9 (f := .glo "_law_letters") rfl))
  have B__law_letters_4 := ok__law_letters_P (P := P) (w := w) (mg := mg) (base := base) (W := W) (FR := f__law_letters_3) (lv := 8) (by decide) hW hN F__law_letters_0 (He.free_ok X G (c.fact 2 (f := .free "isinstance") rfl)) (He.free_ok X G (c.fact 3 (f := .free "str") rfl)) (He.free_ok X G (c.fact 8 (f := .free "sum") rfl)) H__law_letters_3
  have H__law_letters_4 : Has P w mg base W 10 "_law_letters" ["_law_thing"] 1 f__law_letters_4 [(1, [], [0], [])] := B__law_letters_4.has (He.glo_ok X G (c.fact 9 (f := .glo "_law_letters") rfl))
  have B__law_letters_5 := ok__law_letters_P (P := P) (w := w) (mg := mg) (base := base) (W := W) (FR := f__law_letters_4) (lv := 10) (by decide) hW hN F__law_letters_0 (He.free_ok X G (c.fact 2 (f := .free "isinstance") rfl)) (He.free_ok X G (c.fact 3 (f := .free "str") rfl)) (He.free_ok X G (c.fact 8 (f := .free "sum") rfl)) H__law_letters_4
  have H__law_letters_5 : Has P w mg base W 12 "_law_letters" ["_law_thing"] 1 f__law_letters_5 [(1, [], [0], [])] := B__law_letters_5.has (He.glo_ok X G (c.fact 9 (f := .glo "_law_letters") rfl))
  have B__law_letters_6 := ok__law_letters_P (P := P) (w := w) (mg := mg) (base := base) (W := W) (FR := f__law_letters_5) (lv := 12) (by decide) hW hN F__law_letters_0 (He.free_ok X G (c.fact 2 (f := .free "isinstance") rfl)) (He.free_ok X G (c.fact 3 (f := .free "str") rfl)) (He.free_ok X G (c.fact 8 (f := .free "sum") rfl)) H__law_letters_5
  have H__law_letters_6 : Has P w mg base W 14 "_law_letters" ["_law_thing"] 1 f__law_letters_6 [(1, [], [0], [])] := B__law_letters_6.has (He.glo_ok X G (c.fact 9 (f := .glo "_law_letters") rfl))
  have B__law_letters_7 := ok__law_letters_P (P := P) (w := w) (mg := mg) (base := base) (W := W) (FR := f__law_letters_6) (lv := 14) (by decide) hW hN F__law_letters_0 (He.free_ok X G (c.fact 2 (f := .free "isinstance") rfl)) (He.free_ok X G (c.fact 3 (f := .free "str") rfl)) (He.free_ok X G (c.fact 8 (f := .free "sum") rfl)) H__law_letters_6
  have H__law_letters_7 : Has P w mg base W 16 "_law_letters" ["_law_thing"] 1 f__law_letters_7 [(1, [], [0], [])] := B__law_letters_7.has (He.glo_ok X G (c.fact 9 (f := .glo "_law_letters") rfl))
  have B__law_letters_8 := ok__law_letters_P (P := P) (w := w) (mg := mg) (base := base) (W := W) (FR := f__law_letters_7) (lv := 16) (by decide) hW hN F__law_letters_0 (He.free_ok X G (c.fact 2 (f := .free "isinstance") rfl)) (He.free_ok X G (c.fact 3 (f := .free "str") rfl)) (He.free_ok X G (c.fact 8 (f := .free "sum") rfl)) H__law_letters_7
  have H__law_letters_8 : Has P w mg base W 18 "_law_letters" ["_law_thing"] 1 f__law_letters_8 [(1, [], [0], [])] := B__law_letters_8.has (He.glo_ok X G (c.fact 9 (f := .glo "_law_letters") rfl))
  have B__law_letters_9 := ok__law_letters_P (P := P) (w := w) (mg := mg) (base := base) (W := W) (FR := f__law_letters_8) (lv := 18) (by decide) hW hN F__law_letters_0 (He.free_ok X G (c.fact 2 (f := .free "isinstance") rfl)) (He.free_ok X G (c.fact 3 (f := .free "str") rfl)) (He.free_ok X G (c.fact 8 (f := .free "sum") rfl)) H__law_letters_8
  have H__law_letters_9 : Has P w mg base W 20 "_law_letters" ["_law_thing"] 1 f__law_letters_9 [(1, [], [0], [])] := B__law_letters_9.has (He.glo_ok X G (c.fact 9 (f := .glo "_law_letters") rfl))
  have B__law_letters_10 := ok__law_letters_P (P := P) (w := w) (mg := mg) (base := base) (W := W) (FR := f__law_letters_9) (lv := 20) (by decide) hW hN F__law_letters_0 (He.free_ok X G (c.fact 2 (f := .free "isinstance") rfl)) (He.free_ok X G (c.fact 3 (f := .free "str") rfl)) (He.free_ok X G (c.fact 8 (f := .free "sum") rfl)) H__law_letters_9
  have H__law_letters_10 : Has P w mg base W 22 "_law_letters" ["_law_thing"] 1 f__law_letters_10 [(1, [], [0], [])] := B__law_letters_10.has (He.glo_ok X G (c.fact 9 (f := .glo "_law_letters") rfl))
  have B__law_letters_11 := ok__law_letters_P (P := P) (w := w) (mg := mg) (base := base) (W := W) (FR := f__law_letters_10) (lv := 22) (by decide) hW hN F__law_letters_0 (He.free_ok X G (c.fact 2 (f := .free "isinstance") rfl)) (He.free_ok X G (c.fact 3 (f := .free "str") rfl)) (He.free_ok X G (c.fact 8 (f := .free "sum") rfl)) H__law_letters_10
  have H__law_letters_11 : Has P w mg base W 24 "_law_letters" ["_law_thing"] 1 f__law_letters_11 [(1, [], [0], [])] := B__law_letters_11.has (He.glo_ok X G (c.fact 9 (f := .glo "_law_letters") rfl))
  have B__law_letters_12 := ok__law_letters_P (P := P) (w := w) (mg := mg) (base := base) (W := W) (FR := f__law_letters_11) (lv := 24) (by decide) hW hN F__law_letters_0 (He.free_ok X G (c.fact 2 (f := .free "isinstance") rfl)) (He.free_ok X G (c.fact 3 (f := .free "str") rfl)) (He.free_ok X G (c.fact 8 (f := .free "sum") rfl)) H__law_letters_11
  have B__law_depth_0 := @ok__law_depth_0 P w mg base W _ _ hW hN F__law_depth_0 (He.free_ok X G (c.fact 2 (f := .free "isinstance") rfl)) (He.free_ok X G (c.fact 3 (f := .free "str") rfl)) (He.free_ok X G (c.fact 10 (f := .free "max") rfl)) (He.free_ok X G (c.fact 11 (f := .free "int") rfl))
  have H__law_depth_0 : Has P w mg base W 2 "_law_depth" ["_law_thing"] 1 f__law_depth_0 [(1, [], [0], [])] := B__law_depth_0.has (He.glo_ok X G (c.fact 12 (f := .glo "_law_depth") rfl))
  have B__law_depth_1 := ok__law_depth_P (P := P) (w := w) (mg := mg) (base := base) (W := W) (FR := f__law_depth_0) (lv := 2) (by decide) hW hN F__law_depth_0 (He.free_ok X G (c.fact 2 (f := .free "isinstance") rfl)) (He.free_ok X G (c.fact 3 (f := .free "str") rfl)) (He.free_ok X G (c.fact 10 (f := .free "max") rfl)) (He.free_ok X G (c.fact 11 (f := .free "int") rfl)) H__law_depth_0
  have H__law_depth_1 : Has P w mg base W 4 "_law_depth" ["_law_thing"] 1 f__law_depth_1 [(1, [], [0], [])] := B__law_depth_1.has (He.glo_ok X G (c.fact 12 (f := .glo "_law_depth") rfl))
  have B__law_depth_2 := ok__law_depth_P (P := P) (w := w) (mg := mg) (base := base) (W := W) (FR := f__law_depth_1) (lv := 4) (by decide) hW hN F__law_depth_0 (He.free_ok X G (c.fact 2 (f := .free "isinstance") rfl)) (He.free_ok X G (c.fact 3 (f := .free "str") rfl)) (He.free_ok X G (c.fact 10 (f := .free "max") rfl)) (He.free_ok X G (c.fact 11 (f := .free "int") rfl)) H__law_depth_1
  have H__law_depth_2 : Has P w mg base W 6 "_law_depth" ["_law_thing"] 1 f__law_depth_2 [(1, [], [0], [])] := B__law_depth_2.has (He.glo_ok X G (c.fact 12 (f := .glo "_law_depth") rfl))
  have B__law_depth_3 := ok__law_depth_P (P := P) (w := w) (mg := mg) (base := base) (W := W) (FR := f__law_depth_2) (lv := 6) (by decide) hW hN F__law_depth_0 (He.free_ok X G (c.fact 2 (f := .free "isinstance") rfl)) (He.free_ok X G (c.fact 3 (f := .free "str") rfl)) (He.free_ok X G (c.fact 10 (f := .free "max") rfl)) (He.free_ok X G (c.fact 11 (f := .free "int") rfl)) H__law_depth_2
  have H__law_depth_3 : Has P w mg base W 8 "_law_depth" ["_law_thing"] 1 f__law_depth_3 [(1, [], [0], [])] := B__law_depth_3.has (He.glo_ok X G (c.fact 12 (f := .glo "_law_depth") rfl))
  have B__law_depth_4 := ok__law_depth_P (P := P) (w := w) (mg := mg) (base := base) (W := W) (FR := f__law_depth_3) (lv := 8) (by decide) hW hN F__law_depth_0 (He.free_ok X G (c.fact 2 (f := .free "isinstance") rfl)) (He.free_ok X G (c.fact 3 (f := .free "str") rfl)) (He.free_ok X G (c.fact 10 (f := .free "max") rfl)) (He.free_ok X G (c.fact 11 (f := .free "int") rfl)) H__law_depth_3
  have H__law_depth_4 : Has P w mg base W 10 "_law_depth" ["_law_thing"] 1 f__law_depth_4 [(1, [], [0], [])] := B__law_depth_4.has (He.glo_ok X G (c.fact 12 (f := .glo "_law_depth") rfl))
  have B__law_depth_5 := ok__law_depth_P (P := P) (w := w) (mg := mg) (base := base) (W := W) (FR := f__law_depth_4) (lv := 10) (by decide) hW hN F__law_depth_0 (He.free_ok X G (c.fact 2 (f := .free "isinstance") rfl)) (He.free_ok X G (c.fact 3 (f := .free "str") rfl)) (He.free_ok X G (c.fact 10 (f := .free "max") rfl)) (He.free_ok X G (c.fact 11 (f := .free "int") rfl)) H__law_depth_4
  have H__law_depth_5 : Has P w mg base W 12 "_law_depth" ["_law_thing"] 1 f__law_depth_5 [(1, [], [0], [])] := B__law_depth_5.has (He.glo_ok X G (c.fact 12 (f := .glo "_law_depth") rfl))
  have B__law_depth_6 := ok__law_depth_P (P := P) (w := w) (mg := mg) (base := base) (W := W) (FR := f__law_depth_5) (lv := 12) (by decide) hW hN F__law_depth_0 (He.free_ok X G (c.fact 2 (f := .free "isinstance") rfl)) (He.free_ok X G (c.fact 3 (f := .free "str") rfl)) (He.free_ok X G (c.fact 10 (f := .free "max") rfl)) (He.free_ok X G (c.fact 11 (f := .free "int") rfl)) H__law_depth_5
  have H__law_depth_6 : Has P w mg base W 14 "_law_depth" ["_law_thing"] 1 f__law_depth_6 [(1, [], [0], [])] := B__law_depth_6.has (He.glo_ok X G (c.fact 12 (f := .glo "_law_depth") rfl))
  have B__law_depth_7 := ok__law_depth_P (P := P) (w := w) (mg := mg) (base := base) (W := W) (FR := f__law_depth_6) (lv := 14) (by decide) hW hN F__law_depth_0 (He.free_ok X G (c.fact 2 (f := .free "isinstance") rfl)) (He.free_ok X G (c.fact 3 (f := .free "str") rfl)) (He.free_ok X G (c.fact 10 (f := .free "max") rfl)) (He.free_ok X G (c.fact 11 (f := .free "int") rfl)) H__law_depth_6
  have H__law_depth_7 : Has P w mg base W 16 "_law_depth" ["_law_thing"] 1 f__law_depth_7 [(1, [], [0], [])] := B__law_depth_7.has (He.glo_ok X G (c.fact 12 (f := .glo "_law_depth") rfl))
  have B__law_depth_8 := ok__law_depth_P (P := P) (w := w) (mg := mg) (base := base) (W := W) (FR := f__law_depth_7) (lv := 16) (by decide) hW hN F__law_depth_0 (He.free_ok X G (c.fact 2 (f := .free "isinstance") rfl)) (He.free_ok X G (c.fact 3 (f := .free "str") rfl)) (He.free_ok X G (c.fact 10 (f := .free "max") rfl)) (He.free_ok X G (c.fact 11 (f := .free "int") rfl)) H__law_depth_7
  have H__law_depth_8 : Has P w mg base W 18 "_law_depth" ["_law_thing"] 1 f__law_depth_8 [(1, [], [0], [])] := B__law_depth_8.has (He.glo_ok X G (c.fact 12 (f := .glo "_law_depth") rfl))
  have B__law_depth_9 := ok__law_depth_P (P := P) (w := w) (mg := mg) (base := base) (W := W) (FR := f__law_depth_8) (lv := 18) (by decide) hW hN F__law_depth_0 (He.free_ok X G (c.fact 2 (f := .free "isinstance") rfl)) (He.free_ok X G (c.fact 3 (f := .free "str") rfl)) (He.free_ok X G (c.fact 10 (f := .free "max") rfl)) (He.free_ok X G (c.fact 11 (f := .free "int") rfl)) H__law_depth_8
  have H__law_depth_9 : Has P w mg base W 20 "_law_depth" ["_law_thing"] 1 f__law_depth_9 [(1, [], [0], [])] := B__law_depth_9.has (He.glo_ok X G (c.fact 12 (f := .glo "_law_depth") rfl))
  have B__law_depth_10 := ok__law_depth_P (P := P) (w := w) (mg := mg) (base := base) (W := W) (FR := f__law_depth_9) (lv := 20) (by decide) hW hN F__law_depth_0 (He.free_ok X G (c.fact 2 (f := .free "isinstance") rfl)) (He.free_ok X G (c.fact 3 (f := .free "str") rfl)) (He.free_ok X G (c.fact 10 (f := .free "max") rfl)) (He.free_ok X G (c.fact 11 (f := .free "int") rfl)) H__law_depth_9
  have H__law_depth_10 : Has P w mg base W 22 "_law_depth" ["_law_thing"] 1 f__law_depth_10 [(1, [], [0], [])] := B__law_depth_10.has (He.glo_ok X G (c.fact 12 (f := .glo "_law_depth") rfl))
  have B__law_depth_11 := ok__law_depth_P (P := P) (w := w) (mg := mg) (base := base) (W := W) (FR := f__law_depth_10) (lv := 22) (by decide) hW hN F__law_depth_0 (He.free_ok X G (c.fact 2 (f := .free "isinstance") rfl)) (He.free_ok X G (c.fact 3 (f := .free "str") rfl)) (He.free_ok X G (c.fact 10 (f := .free "max") rfl)) (He.free_ok X G (c.fact 11 (f := .free "int") rfl)) H__law_depth_10
  have H__law_depth_11 : Has P w mg base W 24 "_law_depth" ["_law_thing"] 1 f__law_depth_11 [(1, [], [0], [])] := B__law_depth_11.has (He.glo_ok X G (c.fact 12 (f := .glo "_law_depth") rfl))
  have B__law_depth_12 := ok__law_depth_P (P := P) (w := w) (mg := mg) (base := base) (W := W) (FR := f__law_depth_11) (lv := 24) (by decide) hW hN F__law_depth_0 (He.free_ok X G (c.fact 2 (f := .free "isinstance") rfl)) (He.free_ok X G (c.fact 3 (f := .free "str") rfl)) (He.free_ok X G (c.fact 10 (f := .free "max") rfl)) (He.free_ok X G (c.fact 11 (f := .free "int") rfl)) H__law_depth_11
  have B_has_form_0 := @ok_has_form_0 P w mg base W _ _ hW hN F_has_form_0 (He.free_ok X G (c.fact 2 (f := .free "isinstance") rfl)) (He.free_ok X G (c.fact 3 (f := .free "str") rfl)) (tupB_ok X G (c.x 6 (f := tupB "LETTERS_expressions" [(.str "c"), (.str "d")]) rfl)) (He.free_ok X G (c.fact 4 (f := .free "tuple") rfl)) (He.free_ok X G (c.fact 5 (f := .free "len") rfl)) (tupB_ok X G (c.x 7 (f := tupB "ONE_SIDED" [(.str "+"), (.str "-")]) rfl)) (tupB_ok X G (c.x 8 (f := tupB "TWO_SIDED" [(.str "+"), (.str "-"), (.str "|"), (.str "&")]) rfl)) (He.free_ok X G (c.fact 6 (f := .free "all") rfl))
  have H_has_form_0 : Has P w mg base W 2 "has_form" ["thing", "depth"] 2 f_has_form_0 [(2, [], [0, 1], [])] := B_has_form_0.has (He.glo_ok X G (c.fact 13 (f := .glo "has_form") rfl))
  have B_has_form_1 := ok_has_form_P (P := P) (w := w) (mg := mg) (base := base) (W := W) (FR := f_has_form_0) (lv := 2) (by decide) hW hN F_has_form_0 (He.free_ok X G (c.fact 2 (f := .free "isinstance") rfl)) (He.free_ok X G (c.fact 3 (f := .free "str") rfl)) (tupB_ok X G (c.x 6 (f := tupB "LETTERS_expressions" [(.str "c"), (.str "d")]) rfl)) (He.free_ok X G (c.fact 4 (f := .free "tuple") rfl)) (He.free_ok X G (c.fact 5 (f := .free "len") rfl)) (tupB_ok X G (c.x 7 (f := tupB "ONE_SIDED" [(.str "+"), (.str "-")]) rfl)) (tupB_ok X G (c.x 8 (f := tupB "TWO_SIDED" [(.str "+"), (.str "-"), (.str "|"), (.str "&")]) rfl)) (He.free_ok X G (c.fact 6 (f := .free "all") rfl)) H_has_form_0
  have H_has_form_1 : Has P w mg base W 4 "has_form" ["thing", "depth"] 2 f_has_form_1 [(2, [], [0, 1], [])] := B_has_form_1.has (He.glo_ok X G (c.fact 13 (f := .glo "has_form") rfl))
  have B_has_form_2 := ok_has_form_P (P := P) (w := w) (mg := mg) (base := base) (W := W) (FR := f_has_form_1) (lv := 4) (by decide) hW hN F_has_form_0 (He.free_ok X G (c.fact 2 (f := .free "isinstance") rfl)) (He.free_ok X G (c.fact 3 (f := .free "str") rfl)) (tupB_ok X G (c.x 6 (f := tupB "LETTERS_expressions" [(.str "c"), (.str "d")]) rfl)) (He.free_ok X G (c.fact 4 (f := .free "tuple") rfl)) (He.free_ok X G (c.fact 5 (f := .free "len") rfl)) (tupB_ok X G (c.x 7 (f := tupB "ONE_SIDED" [(.str "+"), (.str "-")]) rfl)) (tupB_ok X G (c.x 8 (f := tupB "TWO_SIDED" [(.str "+"), (.str "-"), (.str "|"), (.str "&")]) rfl)) (He.free_ok X G (c.fact 6 (f := .free "all") rfl)) H_has_form_1
  have H_has_form_2 : Has P w mg base W 6 "has_form" ["thing", "depth"] 2 f_has_form_2 [(2, [], [0, 1], [])] := B_has_form_2.has (He.glo_ok X G (c.fact 13 (f := .glo "has_form") rfl))
  have B_has_form_3 := ok_has_form_P (P := P) (w := w) (mg := mg) (base := base) (W := W) (FR := f_has_form_2) (lv := 6) (by decide) hW hN F_has_form_0 (He.free_ok X G (c.fact 2 (f := .free "isinstance") rfl)) (He.free_ok X G (c.fact 3 (f := .free "str") rfl)) (tupB_ok X G (c.x 6 (f := tupB "LETTERS_expressions" [(.str "c"), (.str "d")]) rfl)) (He.free_ok X G (c.fact 4 (f := .free "tuple") rfl)) (He.free_ok X G (c.fact 5 (f := .free "len") rfl)) (tupB_ok X G (c.x 7 (f := tupB "ONE_SIDED" [(.str "+"), (.str "-")]) rfl)) (tupB_ok X G (c.x 8 (f := tupB "TWO_SIDED" [(.str "+"), (.str "-"), (.str "|"), (.str "&")]) rfl)) (He.free_ok X G (c.fact 6 (f := .free "all") rfl)) H_has_form_2
  have H_has_form_3 : Has P w mg base W 8 "has_form" ["thing", "depth"] 2 f_has_form_3 [(2, [], [0, 1], [])] := B_has_form_3.has (He.glo_ok X G (c.fact 13 (f := .glo "has_form") rfl))
  have B_has_form_4 := ok_has_form_P (P := P) (w := w) (mg := mg) (base := base) (W := W) (FR := f_has_form_3) (lv := 8) (by decide) hW hN F_has_form_0 (He.free_ok X G (c.fact 2 (f := .free "isinstance") rfl)) (He.free_ok X G (c.fact 3 (f := .free "str") rfl)) (tupB_ok X G (c.x 6 (f := tupB "LETTERS_expressions" [(.str "c"), (.str "d")]) rfl)) (He.free_ok X G (c.fact 4 (f := .free "tuple") rfl)) (He.free_ok X G (c.fact 5 (f := .free "len") rfl)) (tupB_ok X G (c.x 7 (f := tupB "ONE_SIDED" [(.str "+"), (.str "-")]) rfl)) (tupB_ok X G (c.x 8 (f := tupB "TWO_SIDED" [(.str "+"), (.str "-"), (.str "|"), (.str "&")]) rfl)) (He.free_ok X G (c.fact 6 (f := .free "all") rfl)) H_has_form_3
  have H_has_form_4 : Has P w mg base W 10 "has_form" ["thing", "depth"] 2 f_has_form_4 [(2, [], [0, 1], [])] := B_has_form_4.has (He.glo_ok X G (c.fact 13 (f := .glo "has_form") rfl))
  have B_has_form_5 := ok_has_form_P (P := P) (w := w) (mg := mg) (base := base) (W := W) (FR := f_has_form_4) (lv := 10) (by decide) hW hN F_has_form_0 (He.free_ok X G (c.fact 2 (f := .free "isinstance") rfl)) (He.free_ok X G (c.fact 3 (f := .free "str") rfl)) (tupB_ok X G (c.x 6 (f := tupB "LETTERS_expressions" [(.str "c"), (.str "d")]) rfl)) (He.free_ok X G (c.fact 4 (f := .free "tuple") rfl)) (He.free_ok X G (c.fact 5 (f := .free "len") rfl)) (tupB_ok X G (c.x 7 (f := tupB "ONE_SIDED" [(.str "+"), (.str "-")]) rfl)) (tupB_ok X G (c.x 8 (f := tupB "TWO_SIDED" [(.str "+"), (.str "-"), (.str "|"), (.str "&")]) rfl)) (He.free_ok X G (c.fact 6 (f := .free "all") rfl)) H_has_form_4
  have H_has_form_5 : Has P w mg base W 12 "has_form" ["thing", "depth"] 2 f_has_form_5 [(2, [], [0, 1], [])] := B_has_form_5.has (He.glo_ok X G (c.fact 13 (f := .glo "has_form") rfl))
  have B_has_form_6 := ok_has_form_P (P := P) (w := w) (mg := mg) (base := base) (W := W) (FR := f_has_form_5) (lv := 12) (by decide) hW hN F_has_form_0 (He.free_ok X G (c.fact 2 (f := .free "isinstance") rfl)) (He.free_ok X G (c.fact 3 (f := .free "str") rfl)) (tupB_ok X G (c.x 6 (f := tupB "LETTERS_expressions" [(.str "c"), (.str "d")]) rfl)) (He.free_ok X G (c.fact 4 (f := .free "tuple") rfl)) (He.free_ok X G (c.fact 5 (f := .free "len") rfl)) (tupB_ok X G (c.x 7 (f := tupB "ONE_SIDED" [(.str "+"), (.str "-")]) rfl)) (tupB_ok X G (c.x 8 (f := tupB "TWO_SIDED" [(.str "+"), (.str "-"), (.str "|"), (.str "&")]) rfl)) (He.free_ok X G (c.fact 6 (f := .free "all") rfl)) H_has_form_5
  have H_has_form_6 : Has P w mg base W 14 "has_form" ["thing", "depth"] 2 f_has_form_6 [(2, [], [0, 1], [])] := B_has_form_6.has (He.glo_ok X G (c.fact 13 (f := .glo "has_form") rfl))
  have B_has_form_7 := ok_has_form_P (P := P) (w := w) (mg := mg) (base := base) (W := W) (FR := f_has_form_6) (lv := 14) (by decide) hW hN F_has_form_0 (He.free_ok X G (c.fact 2 (f := .free "isinstance") rfl)) (He.free_ok X G (c.fact 3 (f := .free "str") rfl)) (tupB_ok X G (c.x 6 (f := tupB "LETTERS_expressions" [(.str "c"), (.str "d")]) rfl)) (He.free_ok X G (c.fact 4 (f := .free "tuple") rfl)) (He.free_ok X G (c.fact 5 (f := .free "len") rfl)) (tupB_ok X G (c.x 7 (f := tupB "ONE_SIDED" [(.str "+"), (.str "-")]) rfl)) (tupB_ok X G (c.x 8 (f := tupB "TWO_SIDED" [(.str "+"), (.str "-"), (.str "|"), (.str "&")]) rfl)) (He.free_ok X G (c.fact 6 (f := .free "all") rfl)) H_has_form_6
  have H_has_form_7 : Has P w mg base W 16 "has_form" ["thing", "depth"] 2 f_has_form_7 [(2, [], [0, 1], [])] := B_has_form_7.has (He.glo_ok X G (c.fact 13 (f := .glo "has_form") rfl))
  have B_has_form_8 := ok_has_form_P (P := P) (w := w) (mg := mg) (base := base) (W := W) (FR := f_has_form_7) (lv := 16) (by decide) hW hN F_has_form_0 (He.free_ok X G (c.fact 2 (f := .free "isinstance") rfl)) (He.free_ok X G (c.fact 3 (f := .free "str") rfl)) (tupB_ok X G (c.x 6 (f := tupB "LETTERS_expressions" [(.str "c"), (.str "d")]) rfl)) (He.free_ok X G (c.fact 4 (f := .free "tuple") rfl)) (He.free_ok X G (c.fact 5 (f := .free "len") rfl)) (tupB_ok X G (c.x 7 (f := tupB "ONE_SIDED" [(.str "+"), (.str "-")]) rfl)) (tupB_ok X G (c.x 8 (f := tupB "TWO_SIDED" [(.str "+"), (.str "-"), (.str "|"), (.str "&")]) rfl)) (He.free_ok X G (c.fact 6 (f := .free "all") rfl)) H_has_form_7
  have B_letters_of_0 := @ok_letters_of_0 P w mg base W _ _ hW hN F_letters_of_0 (He.free_ok X G (c.fact 2 (f := .free "isinstance") rfl)) (He.free_ok X G (c.fact 3 (f := .free "str") rfl)) (He.free_ok X G (c.fact 8 (f := .free "sum") rfl))
  have H_letters_of_0 : Has P w mg base W 2 "letters_of" ["expression"] 1 f_letters_of_0 [(1, [], [0], [])] := B_letters_of_0.has (He.glo_ok X G (c.fact 14 (f := .glo "letters_of") rfl))
  have B_letters_of_1 := ok_letters_of_P (P := P) (w := w) (mg := mg) (base := base) (W := W) (FR := f_letters_of_0) (lv := 2) (by decide) hW hN F_letters_of_0 (He.free_ok X G (c.fact 2 (f := .free "isinstance") rfl)) (He.free_ok X G (c.fact 3 (f := .free "str") rfl)) (He.free_ok X G (c.fact 8 (f := .free "sum") rfl)) H_letters_of_0
  have H_letters_of_1 : Has P w mg base W 4 "letters_of" ["expression"] 1 f_letters_of_1 [(1, [], [0], [])] := B_letters_of_1.has (He.glo_ok X G (c.fact 14 (f := .glo "letters_of") rfl))
  have B_letters_of_2 := ok_letters_of_P (P := P) (w := w) (mg := mg) (base := base) (W := W) (FR := f_letters_of_1) (lv := 4) (by decide) hW hN F_letters_of_0 (He.free_ok X G (c.fact 2 (f := .free "isinstance") rfl)) (He.free_ok X G (c.fact 3 (f := .free "str") rfl)) (He.free_ok X G (c.fact 8 (f := .free "sum") rfl)) H_letters_of_1
  have H_letters_of_2 : Has P w mg base W 6 "letters_of" ["expression"] 1 f_letters_of_2 [(1, [], [0], [])] := B_letters_of_2.has (He.glo_ok X G (c.fact 14 (f := .glo "letters_of") rfl))
  have B_letters_of_3 := ok_letters_of_P (P := P) (w := w) (mg := mg) (base := base) (W := W) (FR := f_letters_of_2) (lv := 6) (by decide) hW hN F_letters_of_0 (He.free_ok X G (c.fact 2 (f := .free "isinstance") rfl)) (He.free_ok X G (c.fact 3 (f := .free "str") rfl)) (He.free_ok X G (c.fact 8 (f := .free "sum") rfl)) H_letters_of_2
  have H_letters_of_3 : Has P w mg base W 8 "letters_of" ["expression"] 1 f_letters_of_3 [(1, [], [0], [])] := B_letters_of_3.has (He.glo_ok X G (c.fact 14 (f := .glo "letters_of") rfl))
  have B_letters_of_4 := ok_letters_of_P (P := P) (w := w) (mg := mg) (base := base) (W := W) (FR := f_letters_of_3) (lv := 8) (by decide) hW hN F_letters_of_0 (He.free_ok X G (c.fact 2 (f := .free "isinstance") rfl)) (He.free_ok X G (c.fact 3 (f := .free "str") rfl)) (He.free_ok X G (c.fact 8 (f := .free "sum") rfl)) H_letters_of_3
  have H_letters_of_4 : Has P w mg base W 10 "letters_of" ["expression"] 1 f_letters_of_4 [(1, [], [0], [])] := B_letters_of_4.has (He.glo_ok X G (c.fact 14 (f := .glo "letters_of") rfl))
  have B_letters_of_5 := ok_letters_of_P (P := P) (w := w) (mg := mg) (base := base) (W := W) (FR := f_letters_of_4) (lv := 10) (by decide) hW hN F_letters_of_0 (He.free_ok X G (c.fact 2 (f := .free "isinstance") rfl)) (He.free_ok X G (c.fact 3 (f := .free "str") rfl)) (He.free_ok X G (c.fact 8 (f := .free "sum") rfl)) H_letters_of_4
  have H_letters_of_5 : Has P w mg base W 12 "letters_of" ["expression"] 1 f_letters_of_5 [(1, [], [0], [])] := B_letters_of_5.has (He.glo_ok X G (c.fact 14 (f := .glo "letters_of") rfl))
  have B_letters_of_6 := ok_letters_of_P (P := P) (w := w) (mg := mg) (base := base) (W := W) (FR := f_letters_of_5) (lv := 12) (by decide) hW hN F_letters_of_0 (He.free_ok X G (c.fact 2 (f := .free "isinstance") rfl)) (He.free_ok X G (c.fact 3 (f := .free "str") rfl)) (He.free_ok X G (c.fact 8 (f := .free "sum") rfl)) H_letters_of_5
  have H_letters_of_6 : Has P w mg base W 14 "letters_of" ["expression"] 1 f_letters_of_6 [(1, [], [0], [])] := B_letters_of_6.has (He.glo_ok X G (c.fact 14 (f := .glo "letters_of") rfl))
  have B_letters_of_7 := ok_letters_of_P (P := P) (w := w) (mg := mg) (base := base) (W := W) (FR := f_letters_of_6) (lv := 14) (by decide) hW hN F_letters_of_0 (He.free_ok X G (c.fact 2 (f := .free "isinstance") rfl)) (He.free_ok X G (c.fact 3 (f := .free "str") rfl)) (He.free_ok X G (c.fact 8 (f := .free "sum") rfl)) H_letters_of_6
  have H_letters_of_7 : Has P w mg base W 16 "letters_of" ["expression"] 1 f_letters_of_7 [(1, [], [0], [])] := B_letters_of_7.has (He.glo_ok X G (c.fact 14 (f := .glo "letters_of") rfl))
  have B_letters_of_8 := ok_letters_of_P (P := P) (w := w) (mg := mg) (base := base) (W := W) (FR := f_letters_of_7) (lv := 16) (by decide) hW hN F_letters_of_0 (He.free_ok X G (c.fact 2 (f := .free "isinstance") rfl)) (He.free_ok X G (c.fact 3 (f := .free "str") rfl)) (He.free_ok X G (c.fact 8 (f := .free "sum") rfl)) H_letters_of_7
  have H_has_form_8 : Has P w mg base W 18 "has_form" ["thing", "depth"] 2 f_has_form_8 [(2, [], [0, 1], [])] := B_has_form_8.has (He.glo_ok X G (c.fact 13 (f := .glo "has_form") rfl))
  have H_letters_of_8 : Has P w mg base W 18 "letters_of" ["expression"] 1 f_letters_of_8 [(1, [], [0], [])] := B_letters_of_8.has (He.glo_ok X G (c.fact 14 (f := .glo "letters_of") rfl))
  have B_is_expression := @ok_is_expression P w mg base W _ _ hW hN F_is_expression (He.int_ok X G (c.fact 15 (f := .int "MOST_DEPTH" 8) rfl)) (He.int_ok X G (c.fact 16 (f := .int "MOST_LETTERS_expressions" 10) rfl)) H_has_form_8 H_letters_of_8
  have XO_CountError : XOk W xt0 4 := xoB_ok hcl (c.x 9 (f := xoB (cs0 ++ xs0) xt0 4) rfl)
  have L__law_error := ok__law_error (P := P) (w := w) (mg := mg) (base := base) (W := W) hW hN F__law_error (He.glo_ok X G (c.fact 19 (f := .glo "_law_error") rfl)) (by rw [hc_BadExpression]; exact (He.glo_ok X G (c.fact 1 (f := .glo "BadExpression") rfl))) (He.free_ok X G (c.fact 2 (f := .free "isinstance") rfl)) (by rw [hc_CountError]; exact (He.glo_ok X G (c.fact 17 (f := .glo "CountError") rfl))) (He.free_ok X G (c.fact 18 (f := .free "ValueError") rfl)) XW XO_CountError
  have H_is_expression : Has P w mg base W 20 "is_expression" ["thing"] 1 f_is_expression [(1, [], [0], [])] := B_is_expression.has (He.glo_ok X G (c.fact 21 (f := .glo "is_expression") rfl))
  have B_smallest := @ok_smallest P w mg base W _ _ hW hN F_smallest (He.int_ok X G (c.fact 20 (f := .int "MOST_SMALL" 4) rfl)) (He.free_ok X G (c.fact 4 (f := .free "tuple") rfl)) H_is_expression H_letters_of_8 X0_BadExpression
  have B_need_expression := @ok_need_expression P w mg base W _ _ hW hN F_need_expression H_is_expression X0_BadExpression
  have B_Table_is_plain := @ok_Table_is_plain P w mg base W _ _ hW hN F_Table_is_plain 
  have B_Counter_is_plain := @ok_Counter_is_plain P w mg base W _ _ hW hN F_Counter_is_plain 
  have B_Table_ordered := @ok_Table_ordered P w mg base W _ _ hW hN F_Table_ordered (He.free_ok X G (c.fact 22 (f := .free "sorted") rfl)) (He.free_ok X G (c.fact 11 (f := .free "int") rfl))
  have M_Table_Table_ordered : HasM P w mg base W 2 0 "ordered" ["self"] 1 f_Table_ordered [(1, [], [0], [])] := B_Table_ordered.meth (by rw [hc_Table]; exact methB_ok (c.x 10 (f := methB "Table" "ordered" (pMeth "Table" "ordered")) rfl))
  have M_Counter_Table_ordered : HasM P w mg base W 2 2 "ordered" ["self"] 1 f_Table_ordered [(1, [], [0], [])] := B_Table_ordered.meth (by rw [hc_Counter]; exact methB_ok (c.x 11 (f := methB "Counter" "ordered" (pMeth "Table" "ordered")) rfl))
  have B_Table_pairs := @ok_Table_pairs P w mg base W _ _ hW hN F_Table_pairs M_Table_Table_ordered M_Counter_Table_ordered
  have B_Counter_pairs := @ok_Counter_pairs P w mg base W _ _ hW hN F_Counter_pairs M_Counter_Table_ordered
  have B_is_word := @ok_is_word P w mg base W _ _ hW hN F_is_word (He.free_ok X G (c.fact 2 (f := .free "isinstance") rfl)) (He.free_ok X G (c.fact 3 (f := .free "str") rfl)) (He.free_ok X G (c.fact 5 (f := .free "len") rfl)) (He.int_ok X G (c.fact 23 (f := .int "MOST_LETTERS_items" 6) rfl)) (He.free_ok X G (c.fact 6 (f := .free "all") rfl)) (He.str_ok X G (c.fact 24 (f := .str "LETTERS_items" "abcdefghijklmnopqrstuvwxyz") rfl))
  have B_is_integer := @ok_is_integer P w mg base W _ _ hW hN F_is_integer (He.free_ok X G (c.fact 2 (f := .free "isinstance") rfl)) (He.free_ok X G (c.fact 11 (f := .free "int") rfl)) (He.free_ok X G (c.fact 25 (f := .free "bool") rfl))
  have H_is_integer : Has P w mg base W 2 "is_integer" ["thing"] 1 f_is_integer [(1, [], [0], [])] := B_is_integer.has (He.glo_ok X G (c.fact 27 (f := .glo "is_integer") rfl))
  have B_is_short := @ok_is_short P w mg base W _ _ hW hN F_is_short (He.free_ok X G (c.fact 26 (f := .free "abs") rfl)) H_is_integer
  have H_is_word : Has P w mg base W 2 "is_word" ["thing"] 1 f_is_word [(1, [], [0], [])] := B_is_word.has (He.glo_ok X G (c.fact 28 (f := .glo "is_word") rfl))
  have H_is_short : Has P w mg base W 4 "is_short" ["thing"] 1 f_is_short [(1, [], [0], [])] := B_is_short.has (He.glo_ok X G (c.fact 29 (f := .glo "is_short") rfl))
  have B_is_item := @ok_is_item P w mg base W _ _ hW hN F_is_item H_is_word H_is_short
  have H_is_item : Has P w mg base W 6 "is_item" ["thing"] 1 f_is_item [(1, [], [0], [])] := B_is_item.has (He.glo_ok X G (c.fact 31 (f := .glo "is_item") rfl))
  have B_are_pairs := @ok_are_pairs P w mg base W _ _ hW hN F_are_pairs (He.free_ok X G (c.fact 30 (f := .free "list") rfl)) (He.free_ok X G (c.fact 4 (f := .free "tuple") rfl)) (He.free_ok X G (c.fact 2 (f := .free "isinstance") rfl)) (He.free_ok X G (c.fact 6 (f := .free "all") rfl)) (He.free_ok X G (c.fact 5 (f := .free "len") rfl)) H_is_item
  have M_Table_Table_pairs : HasM P w mg base W 4 0 "pairs" ["self"] 1 f_Table_pairs [(1, [], [0], [])] := B_Table_pairs.meth (by rw [hc_Table]; exact methB_ok (c.x 12 (f := methB "Table" "pairs" (pMeth "Table" "pairs")) rfl))
  have M_Counter_Counter_pairs : HasM P w mg base W 4 2 "pairs" ["self"] 1 f_Counter_pairs [(1, [], [0], [])] := B_Counter_pairs.meth (by rw [hc_Counter]; exact methB_ok (c.x 13 (f := methB "Counter" "pairs" (pMeth "Counter" "pairs")) rfl))
  have H_are_pairs : Has P w mg base W 8 "are_pairs" ["thing"] 1 f_are_pairs [(1, [], [0], [])] := B_are_pairs.has (He.glo_ok X G (c.fact 34 (f := .glo "are_pairs") rfl))
  have B_pairs_of := @ok_pairs_of P w mg base W _ _ hW hN F_pairs_of (He.free_ok X G (c.fact 2 (f := .free "isinstance") rfl)) (by rw [hc_Table]; exact (He.glo_ok X G (c.fact 32 (f := .glo "Table") rfl))) (He.free_ok X G (c.fact 33 (f := .free "dict") rfl)) (He.free_ok X G (c.fact 30 (f := .free "list") rfl)) M_Table_Table_pairs M_Counter_Counter_pairs H_are_pairs
  have M_Table_Table_is_plain : HasM P w mg base W 2 0 "is_plain" ["self"] 1 f_Table_is_plain [(1, [], [0], [])] := B_Table_is_plain.meth (by rw [hc_Table]; exact methB_ok (c.x 14 (f := methB "Table" "is_plain" (pMeth "Table" "is_plain")) rfl))
  have M_Counter_Counter_is_plain : HasM P w mg base W 2 2 "is_plain" ["self"] 1 f_Counter_is_plain [(1, [], [0], [])] := B_Counter_is_plain.meth (by rw [hc_Counter]; exact methB_ok (c.x 15 (f := methB "Counter" "is_plain" (pMeth "Counter" "is_plain")) rfl))
  have H_pairs_of : Has P w mg base W 10 "pairs_of" ["thing"] 1 f_pairs_of [(1, [], [0], [])] := B_pairs_of.has (He.glo_ok X G (c.fact 36 (f := .glo "pairs_of") rfl))
  have B_Table_xinit := ok_Table_xinit (P := P) (w := w) (mg := mg) (base := base) (W := W) (e0 := He.dflAt ("Table", some "__init__") 0 W.K) (etB_ok (p := He.dflAt ("Table", some "__init__") 0) (c.x 16 (f := etB (He.dflAt ("Table", some "__init__") 0)) rfl)) hW hN F_Table_xinit (He.free_ok X G (c.fact 30 (f := .free "list") rfl)) (He.free_ok X G (c.fact 35 (f := .free "enumerate") rfl)) (He.free_ok X G (c.fact 5 (f := .free "len") rfl)) M_Table_Table_is_plain M_Counter_Counter_is_plain H_pairs_of
  have B_is_pair := @ok_is_pair P w mg base W _ _ hW hN F_is_pair (He.free_ok X G (c.fact 2 (f := .free "isinstance") rfl)) (He.free_ok X G (c.fact 4 (f := .free "tuple") rfl)) (He.free_ok X G (c.fact 5 (f := .free "len") rfl)) H_is_item H_is_integer
  have H_is_pair : Has P w mg base W 8 "is_pair" ["thing"] 1 f_is_pair [(1, [], [0], [])] := B_is_pair.has (He.glo_ok X G (c.fact 37 (f := .glo "is_pair") rfl))
  have B_count_pairs := @ok_count_pairs P w mg base W _ _ hW hN F_count_pairs (He.free_ok X G (c.fact 2 (f := .free "isinstance") rfl)) (by rw [hc_Table]; exact (He.glo_ok X G (c.fact 32 (f := .glo "Table") rfl))) (He.free_ok X G (c.fact 30 (f := .free "list") rfl)) (He.free_ok X G (c.fact 4 (f := .free "tuple") rfl)) (He.free_ok X G (c.fact 6 (f := .free "all") rfl)) M_Counter_Counter_pairs H_is_pair
  have A_Table_Table_xinit : HasA P w mg base W 12 0 "__init__" ["self", "pairs"] 2 f_Table_xinit [(2, [], [0, 1], [(.tup [])])] := B_Table_xinit.clsat (by rw [hc_Table]; exact clsatB_ok (c.x 17 (f := clsatB "Table" "__init__" (pMeth "Table" "__init__")) rfl))
  have H_count_pairs : Has P w mg base W 10 "count_pairs" ["thing"] 1 f_count_pairs [(1, [], [0], [])] := B_count_pairs.has (He.glo_ok X G (c.fact 38 (f := .glo "count_pairs") rfl))
  have B_Counter_xinit := ok_Counter_xinit (P := P) (w := w) (mg := mg) (base := base) (W := W) (e0 := He.dflAt ("Counter", some "__init__") 0 W.K) (etB_ok (p := He.dflAt ("Counter", some "__init__") 0) (c.x 18 (f := etB (He.dflAt ("Counter", some "__init__") 0)) rfl)) hW hN F_Counter_xinit (by rw [hc_Table]; exact (He.glo_ok X G (c.fact 32 (f := .glo "Table") rfl))) A_Table_Table_xinit H_count_pairs
  have C_Counter : HasC P w mg base W 14 2 "Counter" ["self", "pairs"] 2 f_Counter_xinit [(2, [], [0, 1], [(.tup [])]), (1, [], [0, 1], [(.tup [])])] := B_Counter_xinit.cls (by rw [hc_Counter]; exact mkB_ok (c.x 19 (f := mkB "Counter" (pMeth "Counter" "__init__")) rfl)) (by rw [hc_Counter]; exact (He.glo_ok X G (c.fact 39 (f := .glo "Counter") rfl))) (by rw [hW] <;> rfl)
  have B_Counter_copy := @ok_Counter_copy P w mg base W _ _ hW hN F_Counter_copy C_Counter M_Counter_Counter_pairs
  have H_need_expression : Has P w mg base W 22 "need_expression" ["thing"] 1 f_need_expression [(1, [], [0], [])] := B_need_expression.has (He.glo_ok X G (c.fact 40 (f := .glo "need_expression") rfl))
  have M_Counter_Counter_copy : HasM P w mg base W 16 2 "copy" ["self"] 1 f_Counter_copy [(1, [], [0], [])] := B_Counter_copy.meth (by rw [hc_Counter]; exact methB_ok (c.x 20 (f := methB "Counter" "copy" (pMeth "Counter" "copy")) rfl))
  have B_value := @ok_value P w mg base W _ _ hW hN F_value H_need_expression M_Counter_Counter_copy
  have B_unequal := @ok_unequal P w mg base W _ _ hW hN F_unequal (He.free_ok X G (c.fact 41 (f := .free "range") rfl)) H_need_expression
  have H_unequal : Has P w mg base W 24 "unequal" ["one", "other", "at_least"] 3 f_unequal [(2, [], [0, 1, 2], [.non]), (2, ["at_least"], [0, 1, 2], [])] := B_unequal.has (He.glo_ok X G (c.fact 42 (f := .glo "unequal") rfl))
  have B_disordered := @ok_disordered P w mg base W _ _ hW hN F_disordered H_unequal
  have H__law_has_form_12 : Has P w mg base W 26 "_law_has_form" ["_law_thing"] 1 f__law_has_form_12 [(1, [], [0], [])] := B__law_has_form_12.has (He.glo_ok X G (c.fact 7 (f := .glo "_law_has_form") rfl))
  have H__law_letters_12 : Has P w mg base W 26 "_law_letters" ["_law_thing"] 1 f__law_letters_12 [(1, [], [0], [])] := B__law_letters_12.has (He.glo_ok X G (c.fact 9 (f := .glo "_law_letters") rfl))
  have H__law_depth_12 : Has P w mg base W 26 "_law_depth" ["_law_thing"] 1 f__law_depth_12 [(1, [], [0], [])] := B__law_depth_12.has (He.glo_ok X G (c.fact 12 (f := .glo "_law_depth") rfl))
  have H_smallest : Has P w mg base W 22 "smallest" ["expression"] 1 f_smallest [(1, [], [0], [])] := B_smallest.has (He.glo_ok X G (c.fact 44 (f := .glo "smallest") rfl))
  have H_value : Has P w mg base W 24 "value" ["expression", "c", "d"] 3 f_value [(3, [], [0, 1, 2], [])] := B_value.has (He.glo_ok X G (c.fact 45 (f := .glo "value") rfl))
  have H_disordered : Has P w mg base W 26 "disordered" ["one", "other", "at_least"] 3 f_disordered [(2, [], [0, 1, 2], [.non])] := B_disordered.has (He.glo_ok X G (c.fact 46 (f := .glo "disordered") rfl))
  have B__law_is_right := ok__law_is_right (P := P) (w := w) (mg := mg) (base := base) (W := W) (cL := codF W.K ((pDef "_law_is_right") W.K)) (pL := tabF W.K (codF W.K ((pDef "_law_is_right") W.K))) (hTB (codF W.K ((pDef "_law_is_right") W.K), tabF W.K (codF W.K ((pDef "_law_is_right") W.K))) (List.mem_of_getElem? (i := 0) rfl)) (FunD.codeF F__law_is_right (hl _ (List.mem_of_getElem? (i := 0) rfl))) (by rw [hWT]; exact List.mem_of_getElem? (i := 0) rfl) (by rw [hWT]; exact tab_u ndT (List.mem_of_getElem? (i := 0) rfl)) hW hN F__law_is_right (He.free_ok X G (c.fact 43 (f := .free "repr") rfl)) (He.free_ok X G (c.fact 6 (f := .free "all") rfl)) H__law_has_form_12 H__law_letters_12 H__law_depth_12 H_is_expression L__law_error H_smallest H_value C_Counter H_unequal H_disordered
  have B__law_source := @ok__law_source P w mg base W _ _ hW hN F__law_source (He.free_ok X G (c.fact 5 (f := .free "len") rfl)) (He.free_ok X G (c.fact 26 (f := .free "abs") rfl))
  have B__law_draw := @ok__law_draw P w mg base W _ _ hW hN F__law_draw 
  have H__law_draw : Has P w mg base W 2 "_law_draw" ["_law_source_here", "_law_often"] 2 f__law_draw [(2, [], [0, 1], [])] := B__law_draw.has (He.glo_ok X G (c.fact 47 (f := .glo "_law_draw") rfl))
  have B__law_choice := @ok__law_choice P w mg base W _ _ hW hN F__law_choice (He.free_ok X G (c.fact 5 (f := .free "len") rfl)) H__law_draw
  have H__law_choice : Has P w mg base W 4 "_law_choice" ["_law_source_here", "_law_some"] 2 f__law_choice [(2, [], [0, 1], [])] := B__law_choice.has (He.glo_ok X G (c.fact 48 (f := .glo "_law_choice") rfl))
  have B__law_expression_0 := @ok__law_expression_0 P w mg base W _ _ hW hN F__law_expression_0 H__law_draw H__law_choice
  have H__law_expression_0 : Has P w mg base W 6 "_law_expression" ["_law_source_here", "_law_letters_here", "_law_depth_here"] 3 f__law_expression_0 [(3, [], [0, 1, 2], [])] := B__law_expression_0.has (He.glo_ok X G (c.fact 49 (f := .glo "_law_expression") rfl))
  have B__law_expression_1 := ok__law_expression_P (P := P) (w := w) (mg := mg) (base := base) (W := W) (FR := f__law_expression_0) (lv := 6) (by decide) hW hN F__law_expression_0 H__law_draw H__law_choice H__law_expression_0
  have H__law_expression_1 : Has P w mg base W 8 "_law_expression" ["_law_source_here", "_law_letters_here", "_law_depth_here"] 3 f__law_expression_1 [(3, [], [0, 1, 2], [])] := B__law_expression_1.has (He.glo_ok X G (c.fact 49 (f := .glo "_law_expression") rfl))
  have B__law_expression_2 := ok__law_expression_P (P := P) (w := w) (mg := mg) (base := base) (W := W) (FR := f__law_expression_1) (lv := 8) (by decide) hW hN F__law_expression_0 H__law_draw H__law_choice H__law_expression_1
  have H__law_expression_2 : Has P w mg base W 10 "_law_expression" ["_law_source_here", "_law_letters_here", "_law_depth_here"] 3 f__law_expression_2 [(3, [], [0, 1, 2], [])] := B__law_expression_2.has (He.glo_ok X G (c.fact 49 (f := .glo "_law_expression") rfl))
  have B__law_expression_3 := ok__law_expression_P (P := P) (w := w) (mg := mg) (base := base) (W := W) (FR := f__law_expression_2) (lv := 10) (by decide) hW hN F__law_expression_0 H__law_draw H__law_choice H__law_expression_2
  have H__law_expression_3 : Has P w mg base W 12 "_law_expression" ["_law_source_here", "_law_letters_here", "_law_depth_here"] 3 f__law_expression_3 [(3, [], [0, 1, 2], [])] := B__law_expression_3.has (He.glo_ok X G (c.fact 49 (f := .glo "_law_expression") rfl))
  have B__law_expression_4 := ok__law_expression_P (P := P) (w := w) (mg := mg) (base := base) (W := W) (FR := f__law_expression_3) (lv := 12) (by decide) hW hN F__law_expression_0 H__law_draw H__law_choice H__law_expression_3
  have H__law_expression_4 : Has P w mg base W 14 "_law_expression" ["_law_source_here", "_law_letters_here", "_law_depth_here"] 3 f__law_expression_4 [(3, [], [0, 1, 2], [])] := B__law_expression_4.has (He.glo_ok X G (c.fact 49 (f := .glo "_law_expression") rfl))
  have B__law_expression_5 := ok__law_expression_P (P := P) (w := w) (mg := mg) (base := base) (W := W) (FR := f__law_expression_4) (lv := 14) (by decide) hW hN F__law_expression_0 H__law_draw H__law_choice H__law_expression_4
  have H__law_expression_5 : Has P w mg base W 16 "_law_expression" ["_law_source_here", "_law_letters_here", "_law_depth_here"] 3 f__law_expression_5 [(3, [], [0, 1, 2], [])] := B__law_expression_5.has (He.glo_ok X G (c.fact 49 (f := .glo "_law_expression") rfl))
  have B__law_expression_6 := ok__law_expression_P (P := P) (w := w) (mg := mg) (base := base) (W := W) (FR := f__law_expression_5) (lv := 16) (by decide) hW hN F__law_expression_0 H__law_draw H__law_choice H__law_expression_5
  have H__law_expression_6 : Has P w mg base W 18 "_law_expression" ["_law_source_here", "_law_letters_here", "_law_depth_here"] 3 f__law_expression_6 [(3, [], [0, 1, 2], [])] := B__law_expression_6.has (He.glo_ok X G (c.fact 49 (f := .glo "_law_expression") rfl))
  have B__law_expression_7 := ok__law_expression_P (P := P) (w := w) (mg := mg) (base := base) (W := W) (FR := f__law_expression_6) (lv := 18) (by decide) hW hN F__law_expression_0 H__law_draw H__law_choice H__law_expression_6
  have H__law_expression_7 : Has P w mg base W 20 "_law_expression" ["_law_source_here", "_law_letters_here", "_law_depth_here"] 3 f__law_expression_7 [(3, [], [0, 1, 2], [])] := B__law_expression_7.has (He.glo_ok X G (c.fact 49 (f := .glo "_law_expression") rfl))
  have B__law_expression_8 := ok__law_expression_P (P := P) (w := w) (mg := mg) (base := base) (W := W) (FR := f__law_expression_7) (lv := 20) (by decide) hW hN F__law_expression_0 H__law_draw H__law_choice H__law_expression_7
  have B__law_spoilt_0 := @ok__law_spoilt_0 P w mg base W _ _ hW hN F__law_spoilt_0 (He.free_ok X G (c.fact 2 (f := .free "isinstance") rfl)) (He.free_ok X G (c.fact 4 (f := .free "tuple") rfl)) (He.free_ok X G (c.fact 5 (f := .free "len") rfl)) H__law_draw H__law_choice
  have H__law_spoilt_0 : Has P w mg base W 6 "_law_spoilt" ["_law_source_here", "_law_thing"] 2 f__law_spoilt_0 [(2, [], [0, 1], [])] := B__law_spoilt_0.has (He.glo_ok X G (c.fact 50 (f := .glo "_law_spoilt") rfl))
  have B__law_spoilt_1 := ok__law_spoilt_P (P := P) (w := w) (mg := mg) (base := base) (W := W) (FR := f__law_spoilt_0) (lv := 6) (by decide) hW hN F__law_spoilt_0 (He.free_ok X G (c.fact 2 (f := .free "isinstance") rfl)) (He.free_ok X G (c.fact 4 (f := .free "tuple") rfl)) (He.free_ok X G (c.fact 5 (f := .free "len") rfl)) H__law_draw H__law_choice H__law_spoilt_0
  have H__law_spoilt_1 : Has P w mg base W 8 "_law_spoilt" ["_law_source_here", "_law_thing"] 2 f__law_spoilt_1 [(2, [], [0, 1], [])] := B__law_spoilt_1.has (He.glo_ok X G (c.fact 50 (f := .glo "_law_spoilt") rfl))
  have B__law_spoilt_2 := ok__law_spoilt_P (P := P) (w := w) (mg := mg) (base := base) (W := W) (FR := f__law_spoilt_1) (lv := 8) (by decide) hW hN F__law_spoilt_0 (He.free_ok X G (c.fact 2 (f := .free "isinstance") rfl)) (He.free_ok X G (c.fact 4 (f := .free "tuple") rfl)) (He.free_ok X G (c.fact 5 (f := .free "len") rfl)) H__law_draw H__law_choice H__law_spoilt_1
  have H__law_spoilt_2 : Has P w mg base W 10 "_law_spoilt" ["_law_source_here", "_law_thing"] 2 f__law_spoilt_2 [(2, [], [0, 1], [])] := B__law_spoilt_2.has (He.glo_ok X G (c.fact 50 (f := .glo "_law_spoilt") rfl))
  have B__law_spoilt_3 := ok__law_spoilt_P (P := P) (w := w) (mg := mg) (base := base) (W := W) (FR := f__law_spoilt_2) (lv := 10) (by decide) hW hN F__law_spoilt_0 (He.free_ok X G (c.fact 2 (f := .free "isinstance") rfl)) (He.free_ok X G (c.fact 4 (f := .free "tuple") rfl)) (He.free_ok X G (c.fact 5 (f := .free "len") rfl)) H__law_draw H__law_choice H__law_spoilt_2
  have H__law_spoilt_3 : Has P w mg base W 12 "_law_spoilt" ["_law_source_here", "_law_thing"] 2 f__law_spoilt_3 [(2, [], [0, 1], [])] := B__law_spoilt_3.has (He.glo_ok X G (c.fact 50 (f := .glo "_law_spoilt") rfl))
  have B__law_spoilt_4 := ok__law_spoilt_P (P := P) (w := w) (mg := mg) (base := base) (W := W) (FR := f__law_spoilt_3) (lv := 12) (by decide) hW hN F__law_spoilt_0 (He.free_ok X G (c.fact 2 (f := .free "isinstance") rfl)) (He.free_ok X G (c.fact 4 (f := .free "tuple") rfl)) (He.free_ok X G (c.fact 5 (f := .free "len") rfl)) H__law_draw H__law_choice H__law_spoilt_3
  have H__law_spoilt_4 : Has P w mg base W 14 "_law_spoilt" ["_law_source_here", "_law_thing"] 2 f__law_spoilt_4 [(2, [], [0, 1], [])] := B__law_spoilt_4.has (He.glo_ok X G (c.fact 50 (f := .glo "_law_spoilt") rfl))
  have B__law_spoilt_5 := ok__law_spoilt_P (P := P) (w := w) (mg := mg) (base := base) (W := W) (FR := f__law_spoilt_4) (lv := 14) (by decide) hW hN F__law_spoilt_0 (He.free_ok X G (c.fact 2 (f := .free "isinstance") rfl)) (He.free_ok X G (c.fact 4 (f := .free "tuple") rfl)) (He.free_ok X G (c.fact 5 (f := .free "len") rfl)) H__law_draw H__law_choice H__law_spoilt_4
  have H__law_spoilt_5 : Has P w mg base W 16 "_law_spoilt" ["_law_source_here", "_law_thing"] 2 f__law_spoilt_5 [(2, [], [0, 1], [])] := B__law_spoilt_5.has (He.glo_ok X G (c.fact 50 (f := .glo "_law_spoilt") rfl))
  have B__law_spoilt_6 := ok__law_spoilt_P (P := P) (w := w) (mg := mg) (base := base) (W := W) (FR := f__law_spoilt_5) (lv := 16) (by decide) hW hN F__law_spoilt_0 (He.free_ok X G (c.fact 2 (f := .free "isinstance") rfl)) (He.free_ok X G (c.fact 4 (f := .free "tuple") rfl)) (He.free_ok X G (c.fact 5 (f := .free "len") rfl)) H__law_draw H__law_choice H__law_spoilt_5
  have H__law_spoilt_6 : Has P w mg base W 18 "_law_spoilt" ["_law_source_here", "_law_thing"] 2 f__law_spoilt_6 [(2, [], [0, 1], [])] := B__law_spoilt_6.has (He.glo_ok X G (c.fact 50 (f := .glo "_law_spoilt") rfl))
  have B__law_spoilt_7 := ok__law_spoilt_P (P := P) (w := w) (mg := mg) (base := base) (W := W) (FR := f__law_spoilt_6) (lv := 18) (by decide) hW hN F__law_spoilt_0 (He.free_ok X G (c.fact 2 (f := .free "isinstance") rfl)) (He.free_ok X G (c.fact 4 (f := .free "tuple") rfl)) (He.free_ok X G (c.fact 5 (f := .free "len") rfl)) H__law_draw H__law_choice H__law_spoilt_6
  have H__law_spoilt_7 : Has P w mg base W 20 "_law_spoilt" ["_law_source_here", "_law_thing"] 2 f__law_spoilt_7 [(2, [], [0, 1], [])] := B__law_spoilt_7.has (He.glo_ok X G (c.fact 50 (f := .glo "_law_spoilt") rfl))
  have B__law_spoilt_8 := ok__law_spoilt_P (P := P) (w := w) (mg := mg) (base := base) (W := W) (FR := f__law_spoilt_7) (lv := 20) (by decide) hW hN F__law_spoilt_0 (He.free_ok X G (c.fact 2 (f := .free "isinstance") rfl)) (He.free_ok X G (c.fact 4 (f := .free "tuple") rfl)) (He.free_ok X G (c.fact 5 (f := .free "len") rfl)) H__law_draw H__law_choice H__law_spoilt_7
  have H__law_spoilt_8 : Has P w mg base W 22 "_law_spoilt" ["_law_source_here", "_law_thing"] 2 f__law_spoilt_8 [(2, [], [0, 1], [])] := B__law_spoilt_8.has (He.glo_ok X G (c.fact 50 (f := .glo "_law_spoilt") rfl))
  have B__law_spoilt_9 := ok__law_spoilt_P (P := P) (w := w) (mg := mg) (base := base) (W := W) (FR := f__law_spoilt_8) (lv := 22) (by decide) hW hN F__law_spoilt_0 (He.free_ok X G (c.fact 2 (f := .free "isinstance") rfl)) (He.free_ok X G (c.fact 4 (f := .free "tuple") rfl)) (He.free_ok X G (c.fact 5 (f := .free "len") rfl)) H__law_draw H__law_choice H__law_spoilt_8
  have H__law_spoilt_9 : Has P w mg base W 24 "_law_spoilt" ["_law_source_here", "_law_thing"] 2 f__law_spoilt_9 [(2, [], [0, 1], [])] := B__law_spoilt_9.has (He.glo_ok X G (c.fact 50 (f := .glo "_law_spoilt") rfl))
  have B__law_spoilt_10 := ok__law_spoilt_P (P := P) (w := w) (mg := mg) (base := base) (W := W) (FR := f__law_spoilt_9) (lv := 24) (by decide) hW hN F__law_spoilt_0 (He.free_ok X G (c.fact 2 (f := .free "isinstance") rfl)) (He.free_ok X G (c.fact 4 (f := .free "tuple") rfl)) (He.free_ok X G (c.fact 5 (f := .free "len") rfl)) H__law_draw H__law_choice H__law_spoilt_9
  have H__law_spoilt_10 : Has P w mg base W 26 "_law_spoilt" ["_law_source_here", "_law_thing"] 2 f__law_spoilt_10 [(2, [], [0, 1], [])] := B__law_spoilt_10.has (He.glo_ok X G (c.fact 50 (f := .glo "_law_spoilt") rfl))
  have B__law_spoilt_11 := ok__law_spoilt_P (P := P) (w := w) (mg := mg) (base := base) (W := W) (FR := f__law_spoilt_10) (lv := 26) (by decide) hW hN F__law_spoilt_0 (He.free_ok X G (c.fact 2 (f := .free "isinstance") rfl)) (He.free_ok X G (c.fact 4 (f := .free "tuple") rfl)) (He.free_ok X G (c.fact 5 (f := .free "len") rfl)) H__law_draw H__law_choice H__law_spoilt_10
  have H__law_spoilt_11 : Has P w mg base W 28 "_law_spoilt" ["_law_source_here", "_law_thing"] 2 f__law_spoilt_11 [(2, [], [0, 1], [])] := B__law_spoilt_11.has (He.glo_ok X G (c.fact 50 (f := .glo "_law_spoilt") rfl))
  have B__law_spoilt_12 := ok__law_spoilt_P (P := P) (w := w) (mg := mg) (base := base) (W := W) (FR := f__law_spoilt_11) (lv := 28) (by decide) hW hN F__law_spoilt_0 (He.free_ok X G (c.fact 2 (f := .free "isinstance") rfl)) (He.free_ok X G (c.fact 4 (f := .free "tuple") rfl)) (He.free_ok X G (c.fact 5 (f := .free "len") rfl)) H__law_draw H__law_choice H__law_spoilt_11
  have H__law_is_right : HasG P w mg base W 31 "_law_is_right" ["_law_thing"] 1 f__law_is_right [(1, [], [0], [])] := B__law_is_right.has (He.glo_ok X G (c.fact 52 (f := .glo "_law_is_right") rfl))
  have H__law_source : Has P w mg base W 2 "_law_source" ["_law_script", "_law_place"] 2 f__law_source [(2, [], [0, 1], [])] := B__law_source.has (He.glo_ok X G (c.fact 53 (f := .glo "_law_source") rfl))
  have H__law_expression_8 : Has P w mg base W 22 "_law_expression" ["_law_source_here", "_law_letters_here", "_law_depth_here"] 3 f__law_expression_8 [(3, [], [0, 1, 2], [])] := B__law_expression_8.has (He.glo_ok X G (c.fact 49 (f := .glo "_law_expression") rfl))
  have H__law_spoilt_12 : Has P w mg base W 30 "_law_spoilt" ["_law_source_here", "_law_thing"] 2 f__law_spoilt_12 [(2, [], [0, 1], [])] := B__law_spoilt_12.has (He.glo_ok X G (c.fact 50 (f := .glo "_law_spoilt") rfl))
  have B_law := @ok_law P w mg base W _ _ hW hN F_law (He.free_ok X G (c.fact 41 (f := .free "range") rfl)) (He.free_ok X G (c.fact 10 (f := .free "max") rfl)) (He.free_ok X G (c.fact 51 (f := .free "min") rfl)) (He.free_ok X G (c.fact 5 (f := .free "len") rfl)) (He.free_ok X G (c.fact 30 (f := .free "list") rfl)) H__law_is_right H__law_source H__law_expression_8 H__law_draw H__law_spoilt_12
  exact law_spT (by rw [hWT]; rfl) B_law law_true
end Q
theorem PySem.Challenge.cw_dequecounts_k35_expressions_known_holds : PySem.Challenge.rw_dequecounts_k35_expressions_known.Holds :=
  Q.fin_ Q.facts
