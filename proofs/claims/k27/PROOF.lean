import PyProof.Rows.All
import Wide.All
import OpenK.AllK
import Wide.FinOn
import HandS.Base
import HandS.Call
import HandS.List
import HandS.Comp
import HandS.Ends
import HandS.Dict
import HandS.Iter
import HandS.Text
import HandS.Words
import HandS.WordsList
import HandS.Exc
import HandS.TryOnly
import HandS.ExcOwn
import HandS.WordsExc
import HandS.Lambda
import HandS.ExcInit
import HandS.TupAny
import HandS.TupMul
import HandS.Wide
import HandS.Deep
import HandS.IsInst
import HandS.More
import HandS.Style
import HandS.Conv
import HandS.WordsDict
import HandS.Defaults
import HandS.MakeKw
import HandS.MakeKwOnly
import KE.KStar
import HandS.SortInts
import HandS.SetFor
import KE.GoesEnum
import PyProof.CollectIter
import HandS.Zip
import KE.KUnpackStar
import HandS.HeadEnd
import HandS.HeadHook1
import HandS.HeadHook2
import HandS.Small
import OpenK.KMeth
import KE.KOpsOwn
import HandS.Property
import PyProof.FactsAll.object_1
import HandS.FStr
import HandS.RaiseMore
import KE.KExcInit
import HandS.ExcField
import HandS.ExcIs
import KE.KExcIs
import KE.KIsAll
import PyProof.ExcBaseAll.LookupError
import PyProof.ExcBaseAll.IndexError
import PyProof.ExcBaseAll.RuntimeError
import PyProof.ExcBaseAll.ValueError
import HandS.DictComp
import HandS.SetKeys
import HandS.Finally
import HandS.ListItems
import PyProof.AssignAttr
import HandS.ListEq
import HandS.DeepEq
import PyProof.Seq
import OpenK.KCls
import KE.DataCmp
import HandS.Flow
import KE.DataFind
import HandS.EndTab
import PyProof.ReprRoads
import KE.KDictSum
import HandS.ClsMeth
import PyProof.StrOps2
import HandS.SortKw
import HandS.HeadHook3
import KE.GoesEnumKw
import PyProof.RulesMatch
import HandS.Head0
import HandS.Head1
import HandS.Head2
import HandS.ExcValue
import HandS.NoneIn
import KE.KDictWalk
import PyProof.ListStr
import PyProof.IsiH_list
import PyProof.IsInstanceH
import PyProof.IsiFacts
import PyProof.ReprUnder
import Lean
import PySem.Challenge.RW_dequecounts_k27_deques_refuse
set_option Elab.async false
set_option linter.all false
set_option maxRecDepth 100000
set_option maxHeartbeats 4000000
namespace Dn
open PySem PySem.Spec PyProof.Rows L2

/-- a plain value: a tuple is its items; rol: a list that nobody writes; ref: the n-th object of the plain heap; adr: a class or a def of the text -/
inductive AV where
  | non
  | bl (b : Bool)
  | int (i : Int)
  | str (x : Str)
  | tup (xs : List AV)
  | rol (xs : List AV)
  | ref (n : Nat)
  | adr (a : Addr)
  | ty (n : String)
  | cls (t : Nat)
  | exn (t : Nat) (fs : List (Nat × AV))
  | exi (t : Nat)
  | ndc (v : AV)
  | slc

/-- a plain object -/
inductive AO where
  | lst (xs : List AV)
  | dK (kvs : List (Key × AV))
  | dT (kvs : List (List Key × AV))
  | ins (t : Nat) (fs : List (Nat × AV))
  | frz (o : AO)

abbrev Hep := List AO
abbrev Sl := List (Option AV)

/-- the classes of a text: which numbers are classes whose instances are made, which of them lie under which -/
structure CT where
  kit : Nat → Bool
  sub : Nat → Nat → Bool
abbrev tyNames : List String := ["NoneType", "bool", "int", "str", "list", "tuple", "dict"]
/-- what is asked of a class of the text: no own __ne__, __gt__, __ge__, no base but object among the built-in ones -/
def eqOO (a b : Option (Option Value)) : Bool := decide (a = b)
def clsB (K : PySem.W.Frag) (C : Addr) : Bool := PySem.W.noSeq K C && (PySem.W.selfFirst K C && ((tyNames.all fun n => decide (PySem.W.subIn K (.type n) (.ref C) = some false)) &&
  (eqOO (PySem.W.findIn K (.ref C) "__ne__") (some (some (.builtin "object.__ne__"))) && (eqOO (PySem.W.findIn K (.ref C) "__gt__") (some (some (.builtin "object.__gt__"))) &&
    eqOO (PySem.W.findIn K (.ref C) "__ge__") (some (some (.builtin "object.__ge__")))))))
/-- the written part, the classes by number, the attributes' names by number -/
structure Wd where
  K : PySem.W.Frag
  cl : Nat → Addr
  fn : List Str
  fnd : fn.Nodup
  ct : CT
  cg : ∀ t, ct.kit t = true → Cls K (cl t) ∧ PySem.W.findIn K (.ref (cl t)) "__class__" = some (some (.builtin "object.__class__")) ∧ PySem.W.mroIn K (cl t) (.type "object") = some true
  cd : PySem.W.specialIn K (.builtin "object.__class__") "__get__" = some (some (.builtin "getset_descriptor.__get__"))
  ck : PySem.W.takesIn K (.builtin "object.__class__") = some true
  ctf : ∀ n t, n ∈ tyNames → ct.kit t = true → PySem.W.kitOne K (.type n) (.ref (cl t)) = some false
  cty : ∀ n t, n ∈ tyNames → ct.kit t = true → PySem.W.kitOne K (.ref (cl t)) (.type n) = some false
  csf : ∀ s t, ct.kit s = true → ct.kit t = true → PySem.W.kitOne K (.ref (cl s)) (.ref (cl t)) = some (ct.sub s t)
  cks : ∀ t, ct.kit t = true → L2.Cls K (cl t)
  cb : ∀ t, ct.kit t = true → clsB K (cl t) = true
  css : ∀ s t, ct.kit s = true → ct.kit t = true → PySem.W.subIn K (.ref (cl s)) (.ref (cl t)) = some (ct.sub s t)
  noat : ∀ t s, ct.kit t = true → s ∈ fn → NoAttr K (cl t) s
  /-- the tables of code objects -/
  T : List (Addr × Str) := []

def RoL (K : PySem.W.Frag) (H : Hp) (a : Addr) (xs : List V) : Prop := (∃ o, H a = some (.frz o (.lst xs))) ∨ SqL K (fun _ => none) a xs

/-- an exception of the class C, kept: its object, and its dict if it has one -/
def XiO (C : Addr) (H : Hp) (a : Addr) : Prop := ∃ d, H a = some (exo a C d) ∧ ∀ dd, d = some dd → ∃ fs, H dd = some (exd dd fs)
theorem XiO.mono {C : Addr} {H H' : Hp} {a : Addr} (h : XiO C H a) (k : ∀ a u, H a = some (.ext u) → H' a = some (.ext u)) : XiO C H' a := by
  obtain ⟨d, h1, h2⟩ := h
  refine ⟨d, k _ _ h1, fun dd e => ?_⟩
  obtain ⟨fs, h3⟩ := h2 dd e
  exact ⟨fs, k _ _ h3⟩

/-- a dict with the one key None -/
def NdO (a : Addr) (x : V) (ep : Nat) : HO := .ext fun h => (a == sysModules) = false ∧ ∃ u : Value, RelV x u ∧ ∃ o : Obj, h.get? a = some o ∧ o.ExactDict ∧ o.data = .dict #[⟨reduceHash 0xFCA86420, .none, u⟩] ep

/-- the slice 0:2 -/
def SlO (a : Addr) : HO := .ext fun h => ∃ t u, h.get? a = some { cls := .type "slice", data := .fields #[.int 0 t, .int 2 u, .none] }

mutual
inductive RV (W : Wd) (io : List Addr) (H : Hp) : AV → V → Prop
  | non : RV W io H .non .non
  | bl (b : Bool) : RV W io H (.bl b) (.bl b)
  | int (i : Int) : RV W io H (.int i) (.int i)
  | str (x : Str) : RV W io H (.str x) (.str x)
  | tup {a : Addr} {vs : List V} {xs : List AV} : SqT W.K H a vs → RVs W io H xs vs → RV W io H (.tup xs) (.ref a)
  | rol {a : Addr} {vs : List V} {xs : List AV} : RoL W.K H a vs → RVs W io H xs vs → RV W io H (.rol xs) (.ref a)
  | ref {n : Nat} {a : Addr} : io[n]? = some a → RV W io H (.ref n) (.ref a)
  | adr (a : Addr) : RV W io H (.adr a) (.ref a)
  | ty (n : String) : RV W io H (.ty n) (.ty n)
  | cls (t : Nat) : RV W io H (.cls t) (.ref (W.cl t))
  | exi {t : Nat} {a : Addr} : XiO (W.cl t) H a → RV W io H (.exi t) (.ref a)
  | ndc {a : Addr} {v : AV} {x : V} {ep : Nat} : H a = some (NdO a x ep) → RV W io H v x → RV W io H (.ndc v) (.ref a)
  | slc {a : Addr} : H a = some (SlO a) → RV W io H .slc (.ref a)
inductive RVs (W : Wd) (io : List Addr) (H : Hp) : List AV → List V → Prop
  | nil : RVs W io H [] []
  | cons {x : AV} {v : V} {xs : List AV} {vs : List V} : RV W io H x v → RVs W io H xs vs → RVs W io H (x :: xs) (v :: vs)
end
/-- pairs with equal keys -/
inductive RKs {k : Type} (W : Wd) (io : List Addr) (H : Hp) : List (k × AV) → List (k × V) → Prop
  | nil : RKs W io H [] []
  | cons {q : k} {x : AV} {v : V} {xs : List (k × AV)} {vs : List (k × V)} : RV W io H x v → RKs W io H xs vs → RKs W io H ((q, x) :: xs) ((q, v) :: vs)
/-- attributes: by number, by name -/
inductive RFs (W : Wd) (io : List Addr) (H : Hp) : List (Nat × AV) → List (Str × V) → Prop
  | nil : RFs W io H [] []
  | cons {q : Nat} {s : Str} {x : AV} {v : V} {xs : List (Nat × AV)} {vs : List (Str × V)} : W.fn[q]? = some s → RV W io H x v → RFs W io H xs vs → RFs W io H ((q, x) :: xs) ((s, v) :: vs)

/-- what stands at a place: as HO -/
inductive RO (W : Wd) (io : List Addr) (H : Hp) : AO → HO → Prop
  | lst {xs : List AV} {vs : List V} : RVs W io H xs vs → RO W io H (.lst xs) (.lst vs)
  | dK {xs : List (Key × AV)} {vs : List (Key × V)} : RKs W io H xs vs → RO W io H (.dK xs) (.dK vs)
  | dT {xs : List (List Key × AV)} {vs : List (List Key × V)} : RKs W io H xs vs → RO W io H (.dT xs) (.dT vs)
  | ins {t : Nat} {dx : Addr} {fs : List (Nat × AV)} {vs : List (Str × V)} : W.ct.kit t = true → RFs W io H fs vs → RO W io H (.ins t fs) (.ins (W.cl t) dx vs)
  | frz {o : AO} {u : HO} {b : Obj} : RO W io H o u → RO W io H (.frz o) (.frz b u)

structure Rl (W : Wd) (io : List Addr) (hp : Hep) (H : Hp) : Prop where
  len : io.length = hp.length
  nd : io.Nodup
  ob : ∀ (i : Nat) (a : Addr) (o : AO), io[i]? = some a → hp[i]? = some o → ∃ u, H a = some u ∧ RO W io H o u
  tb : LamX.Tabs W.T H

/-- how the heap goes on -/
structure Ext (W : Wd) (io : List Addr) (H : Hp) (io' : List Addr) (H' : Hp) : Prop where
  pre : ∃ l, io' = io ++ l
  tup : ∀ a xs, SqT W.K H a xs → SqT W.K H' a xs
  rol : ∀ a xs, RoL W.K H a xs → RoL W.K H' a xs
  xd : ∀ a fs, H a = some (.xd fs) → H' a = some (.xd fs)
  frz : ∀ a o u, H a = some (.frz o u) → H' a = some (.frz o u)
  cod : ∀ a u, H a = some (.ext u) → H' a = some (.ext u)
  tab : LamX.Tabs W.T H → LamX.Tabs W.T H'

section
variable {W : Wd} {io io' io'' : List Addr} {H H' H'' : Hp}
theorem Ext.refl : Ext W io H io H := ⟨⟨[], by simp⟩, fun _ _ h => h, fun _ _ h => h, fun _ _ h => h, fun _ _ _ h => h, fun _ _ h => h, fun h => h⟩
theorem Ext.trans (e : Ext W io H io' H') (f : Ext W io' H' io'' H'') : Ext W io H io'' H'' := by
  obtain ⟨l, rfl⟩ := e.pre
  obtain ⟨m, rfl⟩ := f.pre
  exact ⟨⟨l ++ m, by simp⟩, fun a xs h => f.tup a xs (e.tup a xs h), fun a xs h => f.rol a xs (e.rol a xs h), fun a xs h => f.xd a xs (e.xd a xs h), fun a o u h => f.frz a o u (e.frz a o u h), fun a u h => f.cod a u (e.cod a u h), fun h => f.tab (e.tab h)⟩
theorem Ext.at (e : Ext W io H io' H') {n : Nat} {a : Addr} (h : io[n]? = some a) : io'[n]? = some a := by
  obtain ⟨l, rfl⟩ := e.pre
  obtain ⟨hl, _⟩ := List.getElem?_eq_some_iff.mp h
  rw [List.getElem?_append_left hl]
  exact h
mutual
theorem RV.mono (e : Ext W io H io' H') : ∀ {x : AV} {v : V}, RV W io H x v → RV W io' H' x v
  | _, _, .non => .non
  | _, _, .bl b => .bl b
  | _, _, .int i => .int i
  | _, _, .str x => .str x
  | _, _, .tup h r => .tup (e.tup _ _ h) (RVs.mono e r)
  | _, _, .rol h r => .rol (e.rol _ _ h) (RVs.mono e r)
  | _, _, .ref h => .ref (e.at h)
  | _, _, .adr a => .adr a
  | _, _, .ty n => .ty n
  | _, _, .cls t => .cls t
  | _, _, .exi h => .exi (h.mono fun a u => e.cod a u)
  | _, _, .ndc h r => .ndc (e.cod _ _ h) (RV.mono e r)
  | _, _, .slc h => .slc (e.cod _ _ h)
theorem RVs.mono (e : Ext W io H io' H') : ∀ {xs : List AV} {vs : List V}, RVs W io H xs vs → RVs W io' H' xs vs
  | _, _, .nil => .nil
  | _, _, .cons r q => .cons (RV.mono e r) (RVs.mono e q)
end
theorem RKs.mono {k : Type} (e : Ext W io H io' H') : ∀ {xs : List (k × AV)} {vs : List (k × V)}, RKs W io H xs vs → RKs W io' H' xs vs
  | _, _, .nil => .nil
  | _, _, .cons r q => .cons (RV.mono e r) (RKs.mono e q)
theorem RFs.mono (e : Ext W io H io' H') : ∀ {xs : List (Nat × AV)} {vs : List (Str × V)}, RFs W io H xs vs → RFs W io' H' xs vs
  | _, _, .nil => .nil
  | _, _, .cons f r q => .cons f (RV.mono e r) (RFs.mono e q)
theorem RO.mono (e : Ext W io H io' H') {o : AO} {u : HO} (h : RO W io H o u) : RO W io' H' o u := by
  induction h with
  | lst r => exact .lst (r.mono e)
  | dK r => exact .dK (r.mono e)
  | dT r => exact .dT (r.mono e)
  | ins k r => exact .ins k (r.mono e)
  | frz _ ih => exact .frz ih

theorem RVs.len : ∀ {xs : List AV} {vs : List V}, RVs W io H xs vs → xs.length = vs.length
  | _, _, .nil => rfl
  | _, _, .cons _ q => by simp [RVs.len q]
theorem RVs.get : ∀ {xs : List AV} {vs : List V} {i : Nat} {x : AV}, RVs W io H xs vs → xs[i]? = some x → ∃ v, vs[i]? = some v ∧ RV W io H x v
  | _, _, _, _, .nil, h => by simp at h
  | _, _, 0, _, .cons r _, h => by simp at h; subst h; exact ⟨_, rfl, r⟩
  | _, _, i + 1, x, .cons _ q, h => by
    obtain ⟨v, a, b⟩ := RVs.get (i := i) (x := x) q (by simpa using h)
    exact ⟨v, by simpa using a, b⟩
theorem RVs.app : ∀ {xs ys : List AV} {vs ws : List V}, RVs W io H xs vs → RVs W io H ys ws → RVs W io H (xs ++ ys) (vs ++ ws)
  | _, _, _, _, .nil, q => q
  | _, _, _, _, .cons r t, q => .cons r (RVs.app t q)
theorem RVs.set : ∀ {xs : List AV} {vs : List V} (n : Nat) {x : AV} {v : V}, RV W io H x v → RVs W io H xs vs → RVs W io H (xs.set n x) (vs.set n v)
  | _, _, _, _, _, _, .nil => .nil
  | _, _, 0, _, _, r, .cons _ t => .cons r t
  | _, _, n + 1, _, _, r, .cons q t => .cons q (RVs.set n r t)
theorem Rl.at (R : Rl W io hp H) {n : Nat} {a : Addr} {o : AO} (hi : io[n]? = some a) (ho : hp[n]? = some o) : ∃ u, H a = some u ∧ RO W io H o u := R.ob n a o hi ho
theorem Rl.lst (R : Rl W io hp H) {n : Nat} {a : Addr} {xs : List AV} (hi : io[n]? = some a) (ho : hp[n]? = some (.lst xs)) : ∃ vs, H a = some (.lst vs) ∧ RVs W io H xs vs := by
  obtain ⟨u, e, r⟩ := R.at hi ho
  cases r with
  | lst q => exact ⟨_, e, q⟩
theorem Rl.dK (R : Rl W io hp H) {n : Nat} {a : Addr} {xs : List (Key × AV)} (hi : io[n]? = some a) (ho : hp[n]? = some (.dK xs)) : ∃ vs, H a = some (.dK vs) ∧ RKs W io H xs vs := by
  obtain ⟨u, e, r⟩ := R.at hi ho
  cases r with
  | dK q => exact ⟨_, e, q⟩
theorem Rl.dT (R : Rl W io hp H) {n : Nat} {a : Addr} {xs : List (List Key × AV)} (hi : io[n]? = some a) (ho : hp[n]? = some (.dT xs)) : ∃ vs, H a = some (.dT vs) ∧ RKs W io H xs vs := by
  obtain ⟨u, e, r⟩ := R.at hi ho
  cases r with
  | dT q => exact ⟨_, e, q⟩
theorem Rl.ins (R : Rl W io hp H) {n t : Nat} {a : Addr} {xs : List (Nat × AV)} (hi : io[n]? = some a) (ho : hp[n]? = some (.ins t xs)) : ∃ dx vs, H a = some (.ins (W.cl t) dx vs) ∧ RFs W io H xs vs ∧ W.ct.kit t = true := by
  obtain ⟨u, e, r⟩ := R.at hi ho
  cases r with
  | ins k q => exact ⟨_, _, e, q, k⟩
theorem Rl.has (R : Rl W io hp H) {n : Nat} {a : Addr} (hi : io[n]? = some a) : ∃ o u, hp[n]? = some o ∧ H a = some u ∧ RO W io H o u := by
  obtain ⟨hl, _⟩ := List.getElem?_eq_some_iff.mp hi
  have h2 : hp[n]? = some (hp[n]'(by rw [← R.len]; exact hl)) := List.getElem?_eq_getElem _
  obtain ⟨u, e, r⟩ := R.at hi h2
  exact ⟨_, u, h2, e, r⟩
/-- the objects that may be written -/
def Wr : HO → Prop
  | .lst _ => True
  | .dK _ => True
  | .dT _ => True
  | .ins _ _ _ => True
  | _ => False
theorem sqT_set {K : PySem.W.Frag} {p : Addr} {u ho : HO} (hp : H p = some u) (w : Wr u) {a : Addr} {xs : List V} (h : SqT K H a xs) : SqT K (upd H p ho) a xs := by
  rcases h with (h | ⟨o, h⟩) | h
  · exact .inl (.inl (by rw [upd_ne (ne_of h hp (by rintro rfl; exact w))]; exact h))
  · exact .inl (.inr ⟨o, by rw [upd_ne (ne_of h hp (by rintro rfl; exact w))]; exact h⟩)
  · exact .inr h
theorem roL_set {K : PySem.W.Frag} {p : Addr} {u ho : HO} (hp : H p = some u) (w : Wr u) {a : Addr} {xs : List V} (h : RoL K H a xs) : RoL K (upd H p ho) a xs := by
  rcases h with ⟨o, h⟩ | h
  · exact .inl ⟨o, by rw [upd_ne (ne_of h hp (by rintro rfl; exact w))]; exact h⟩
  · exact .inr h
theorem tab_set {p : Addr} {u ho : HO} (hp : H p = some u) (w : Wr u) {P : Addr} {q : Str} (t : LamX.TabS H P q) : LamX.TabS (upd H p ho) P q := by
  obtain ⟨ps, h1, h2, h3⟩ := t
  refine ⟨ps, by rw [upd_ne (ne_of h1 hp (by rintro rfl; exact w))]; exact h1, h2, fun pos cv hc => ?_⟩
  obtain ⟨c, e1, e2⟩ := h3 pos cv hc
  exact ⟨c, e1, by rw [upd_ne (ne_of e2 hp (by rintro rfl; exact w))]; exact e2⟩
theorem Ext.set {p : Addr} {u : HO} (ho : HO) (hp : H p = some u) (w : Wr u) : Ext W io H io (upd H p ho) :=
  ⟨⟨[], by simp⟩, fun _ _ h => sqT_set hp w h, fun _ _ h => roL_set hp w h, fun a fs h => by rw [upd_ne (ne_of h hp (by rintro rfl; exact w))]; exact h, fun a o v h => by rw [upd_ne (ne_of h hp (by rintro rfl; exact w))]; exact h, fun a v h => by rw [upd_ne (ne_of h hp (by rintro rfl; exact w))]; exact h, fun h p' hp' => tab_set hp w (h p' hp')⟩
theorem Rl.set (R : Rl W io hp H) {n : Nat} {p : Addr} {u ho : HO} {o : AO} (hi : io[n]? = some p) (hu : H p = some u) (w : Wr u) (r : RO W io (upd H p ho) o ho) : Rl W io (hp.set n o) (upd H p ho) := by
  refine ⟨by simp [R.len], R.nd, fun i a q hi' h => ?_, (Ext.set (W := W) (io := io) ho hu w).tab R.tb⟩
  by_cases e : i = n
  · subst e
    rw [hi] at hi'
    cases hi'
    obtain ⟨hl, _⟩ := List.getElem?_eq_some_iff.mp h
    rw [List.length_set] at hl
    rw [List.getElem?_set_self hl] at h
    cases h
    exact ⟨ho, upd_same, r⟩
  · rw [List.getElem?_set_ne (Ne.symm e)] at h
    obtain ⟨v, ev, rv⟩ := R.at hi' h
    have ne : a ≠ p := fun z => by
      subst z
      obtain ⟨l1, e1⟩ := List.getElem?_eq_some_iff.mp hi
      obtain ⟨l2, e2⟩ := List.getElem?_eq_some_iff.mp hi'
      exact e ((List.getElem_inj R.nd).mp (e2.trans e1.symm))
    exact ⟨v, by rw [upd_ne ne]; exact ev, rv.mono (Ext.set ho hu w)⟩
end
end Dn
namespace Dn
open PySem PySem.Spec PyProof.Rows L2

/-- what an expression comes to -/
inductive R (T : Type) where
  | ok (a : T) (h : Hep)
  | exc (t : Nat) (fs : List (Nat × AV)) (h : Hep)
  | stuck
def R.bind {T U : Type} (r : R T) (k : T → Hep → R U) : R U := match r with
  | .ok a h => k a h
  | .exc t fs h => .exc t fs h
  | .stuck => .stuck
abbrev Op (T : Type) := Option (T × Hep)
def R.of {T : Type} : Op T → R T
  | some (a, h) => .ok a h
  | none => .stuck
abbrev DE := Sl → Hep → R AV
abbrev DT := Sl → Hep → R Bool
/-- what a statement comes to -/
inductive SR where
  | nx (s : Sl) (h : Hep)
  | rt (v : AV) (h : Hep)
  | bk (s : Sl) (h : Hep)
  | ct (s : Sl) (h : Hep)
  | exc (t : Nat) (fs : List (Nat × AV)) (s : Sl) (h : Hep)
  | stuck
abbrev DS := Sl → Hep → SR
def SR.then (r : SR) (k : Sl → Hep → SR) : SR := match r with
  | .nx s h => k s h
  | r => r

/-- an exception: its class, its fields -/
def RXf (W : Wd) (io : List Addr) (H : Hp) (fs : List (Nat × AV)) (d : Option Addr) : Prop := (fs = [] ∧ d = none) ∨ ∃ dd vs, d = some dd ∧ H dd = some (.xd vs) ∧ RFs W io H fs vs
theorem RXf.mono {W : Wd} {io io' : List Addr} {H H' : Hp} {fs : List (Nat × AV)} {d : Option Addr} (h : RXf W io H fs d) (e : Ext W io H io' H') : RXf W io' H' fs d := h.imp id fun ⟨dd, vs, e1, e2, e3⟩ => ⟨dd, vs, e1, e.xd _ _ e2, e3.mono e⟩
def RX (W : Wd) (io : List Addr) (H : Hp) (t : Nat) (fs : List (Nat × AV)) (cls : Value) (d : Option Addr) : Prop :=
  cls = .ref (W.cl t) ∧ RXf W io H fs d

/-- how the slots are held -/
structure Md (W : Wd) where
  rel : List Addr → Hp → Sl → L2.St → Prop
  mono : ∀ {io io' H H' as σ}, Ext W io H io' H' → rel io H as σ → rel io' H' as σ
  var : ∀ {io H as σ} {i : Nat} {v : AV}, rel io H as σ → as[i]? = some (some v) → (∀ t fs, v ≠ .exn t fs) → ∃ x, σ[i]? = some (some x) ∧ RV W io H v x
  ok : Nat → Prop
  set : ∀ {io H as σ} {i : Nat} {v : AV} {x : V}, rel io H as σ → RV W io H v x → ok i → rel io H (as.set i (some v)) (σ.set i (some x))
  wipe : ∀ {io H as σ} {i : Nat}, rel io H as σ → ok i → rel io H (as.set i none) (σ.set i none)

/-- the slots of a def -/
def std (W : Wd) : Md W where
  rel := fun io H as σ => as.length = σ.length ∧ ∀ (i : Nat) (v : AV), as[i]? = some (some v) → ∃ x, σ[i]? = some (some x) ∧ RV W io H v x
  mono := fun e h => ⟨h.1, fun i v a => by
    obtain ⟨x, b, r⟩ := h.2 i v a
    exact ⟨x, b, r.mono e⟩⟩
  var := fun h a _ => h.2 _ _ a
  ok := fun _ => True
  set := fun {io H as σ i v x} h r _ => ⟨by simp [h.1], fun j w a => by
    by_cases e : j = i
    · subst e
      obtain ⟨hl, _⟩ := List.getElem?_eq_some_iff.mp a
      rw [List.length_set] at hl
      rw [List.getElem?_set_self hl] at a
      cases a
      exact ⟨x, List.getElem?_set_self (by rw [← h.1]; exact hl), r⟩
    · rw [List.getElem?_set_ne (Ne.symm e)] at a ⊢
      exact h.2 j w a⟩
  wipe := fun {io H as σ i} h _ => ⟨by simp [h.1], fun j w a => by
    by_cases e : j = i
    · subst e
      obtain ⟨hl, _⟩ := List.getElem?_eq_some_iff.mp a
      rw [List.length_set] at hl
      rw [List.getElem?_set_self hl] at a
      cases a
    · rw [List.getElem?_set_ne (Ne.symm e)] at a ⊢
      exact h.2 j w a⟩

section
variable {W : Wd} {M : Md W} {T T' U U' : Type}
abbrev Rel (T U : Type) := List Addr → Hp → T → U → Prop
def Pop (W : Wd) (rh : Rel T U) (Q : U → Hp → Prop) (io : List Addr) (H : Hp) : Op T → Prop
  | some (v, hp) => ∀ io' H' x, Ext W io H io' H' → Rl W io' hp H' → rh io' H' v x → Q x H'
  | none => False
def Pst (W : Wd) (rh : Rel T U) (E : WX) (σ : L2.St) (Q : U → Hp → Prop) (io : List Addr) (H : Hp) : R T → Prop
  | .ok v hp => ∀ io' H' x, Ext W io H io' H' → Rl W io' hp H' → rh io' H' v x → Q x H'
  | .exc t fs hp => ∀ io' H' cls d, Ext W io H io' H' → Rl W io' hp H' → RX W io' H' t fs cls d → E cls d σ H'
  | .stuck => False
def Pss (W : Wd) (M : Md W) (E : WX) (D : Ends) (io : List Addr) (H : Hp) : SR → Prop
  | .nx s hp => ∀ io' H' σ', Ext W io H io' H' → Rl W io' hp H' → M.rel io' H' s σ' → D.nx σ' H'
  | .rt v hp => ∀ io' H' x, Ext W io H io' H' → Rl W io' hp H' → RV W io' H' v x → D.rt x H'
  | .bk s hp => ∀ io' H' σ', Ext W io H io' H' → Rl W io' hp H' → M.rel io' H' s σ' → D.bk σ' H'
  | .ct s hp => ∀ io' H' σ', Ext W io H io' H' → Rl W io' hp H' → M.rel io' H' s σ' → D.ct σ' H'
  | .exc t fs s hp => ∀ io' H' σ' cls d, Ext W io H io' H' → Rl W io' hp H' → M.rel io' H' s σ' → RX W io' H' t fs cls d → E cls d σ' H'
  | .stuck => False
def tG (W : Wd) (M : Md W) (rh : Rel T U) (E : WX) (f : Sl → Hep → R T) : L2.St → Hp → (U → Hp → Prop) → Prop :=
  fun σ H Q => ∃ io hp as, Rl W io hp H ∧ M.rel io H as σ ∧ Pst W rh E σ Q io H (f as hp)
def tS (W : Wd) (M : Md W) (E : WX) (f : DS) : TS :=
  fun D σ H => ∃ io hp as, Rl W io hp H ∧ M.rel io H as σ ∧ Pss W M E D io H (f as hp)
abbrev tD (W : Wd) (M : Md W) (E : WX) (f : DE) : TE := tG W M (RV W) E f
abbrev tDT (W : Wd) (M : Md W) (E : WX) (f : DT) : TT := tG W M (fun _ _ b c => b = c) E f

section
variable {rh : Rel T U} {rh' : Rel T' U'} {E : WX} {D : Ends} {σ : L2.St} {H H1 : Hp} {io io1 : List Addr} {hp : Hep} {as : Sl}
theorem Pop.later {Q : U → Hp → Prop} {r : Op T} (h : Pop W rh Q io H r) (e : Ext W io H io1 H1) : Pop W rh Q io1 H1 r := by
  match r, h with
  | some (v, hp), h => exact fun io' H' x e' => h io' H' x (e.trans e')
theorem Pst.later {Q : U → Hp → Prop} {r : R T} (h : Pst W rh E σ Q io H r) (e : Ext W io H io1 H1) : Pst W rh E σ Q io1 H1 r := by
  cases r with
  | ok v hp => exact fun io' H' x e' => h io' H' x (e.trans e')
  | exc t fs hp => exact fun io' H' c d e' => h io' H' c d (e.trans e')
  | stuck => exact h
theorem Pss.later {r : SR} (h : Pss W M E D io H r) (e : Ext W io H io1 H1) : Pss W M E D io1 H1 r := by
  cases r with
  | nx s hp => exact fun io' H' x e' => h io' H' x (e.trans e')
  | rt s hp => exact fun io' H' x e' => h io' H' x (e.trans e')
  | bk s hp => exact fun io' H' x e' => h io' H' x (e.trans e')
  | ct s hp => exact fun io' H' x e' => h io' H' x (e.trans e')
  | exc t fs s hp => exact fun io' H' x c d e' => h io' H' x c d (e.trans e')
  | stuck => exact h
theorem Pst.of {Q : U → Hp → Prop} {r : Op T} (h : Pst W rh E σ Q io H (R.of r)) : Pop W rh Q io H r := by
  match r, h with
  | some (v, hp), h => exact h
  | none, h => exact h
theorem tG.imp {f : Sl → Hep → R T} {Q Q' : U → Hp → Prop} (h : tG W M rh E f σ H Q) (k : ∀ x H1, Q x H1 → Q' x H1) : tG W M rh E f σ H Q' := by
  obtain ⟨io, hp, as, rl, S, P⟩ := h
  refine ⟨io, hp, as, rl, S, ?_⟩
  cases z : f as hp with
  | ok a hp1 =>
    rw [z] at P
    exact fun io' H' x e r q => k _ _ (P io' H' x e r q)
  | exc t fs hp1 =>
    rw [z] at P
    exact P
  | stuck =>
    rw [z] at P
    exact P
theorem Pst.ok {Q : U → Hp → Prop} {v : T} {x : U} (P : Pst W rh E σ Q io H (.ok v hp)) (rl : Rl W io hp H) (r : rh io H v x) : Q x H := P io H x Ext.refl rl r
end
end

section
variable {X : Cx}
end

section
variable {W : Wd} {M : Md W} {E : WX} {X : Cx}
end

abbrev D2 := AV → AV → Hep → Op AV
def t2 (W : Wd) (r : D2) : R2 := fun x y H Q => ∃ io hp a b, Rl W io hp H ∧ RV W io H a x ∧ RV W io H b y ∧ Pop W (RV W) Q io H (r a b hp)
section
variable {W : Wd} {M : Md W} {E : WX} {X : Cx} {a b c : Expr} {es : List Expr} {f g k : DE} {fa ga : DA} {r : D2} {pos : Pos}
end

section
variable {W : Wd} {M : Md W} {E : WX} {X : Cx} {a b c : Expr} {es : List Expr} {f g k : DE} {ft gt : DT} {r r' : D2} {pos : Pos}
theorem Pop.ok {T U : Type} {rh : Rel T U} {io : List Addr} {H : Hp} {hp : Hep} {Q : U → Hp → Prop} {v : T} {x : U} (P : Pop W rh Q io H (some (v, hp))) (rl : Rl W io hp H) (r : rh io H v x) : Q x H := P io H x Ext.refl rl r
end

section
variable {W : Wd} {M : Md W} {E : WX} {X : Cx} {a b c : Expr} {st : Stmt} {sts sts' : List Stmt} {f g k : DE} {ft gt : DT} {fs gs : DS} {pos : Pos}
end
end Dn
namespace L2
open PySem PySem.Spec PyProof.Rows
section
variable {X : Cx}
end
end L2
namespace Dn
open PySem PySem.Spec PyProof.Rows L2

def tupOf : AV → Option (List AV)
  | .tup xs => some xs
  | _ => none
section
variable {W : Wd} {io : List Addr} {H : Hp} {hp : Hep}
end

section
variable {W : Wd} {X : Cx}
end

/-- a value as data: lists read off the heap -/
def toD : Nat → Hep → AV → Option PyData
  | 0, _, _ => none
  | _ + 1, _, .non => some .none
  | _ + 1, _, .bl b => some (.bool b)
  | _ + 1, _, .int i => some (.int i)
  | _ + 1, _, .str x => some (.str x)
  | n + 1, h, .tup xs => (xs.mapM (toD n h)).map .tuple
  | n + 1, h, .rol xs => (xs.mapM (toD n h)).map .list
  | n + 1, h, .ref k => match h[k]? with
    | some (.lst xs) => (xs.mapM (toD n h)).map .list
    | _ => none
  | _ + 1, _, _ => none
section
variable {W : Wd} {io : List Addr} {H : Hp} {hp : Hep}
end
section
variable {W : Wd} {X : Cx}
end
end Dn
namespace Dn
open PySem PySem.Spec PyProof.Rows L2

section
variable {k : Type} [DecidableEq k]
def dget (kvs : List (k × AV)) (q : k) : Option AV := (kvs.find? fun kv => decide (kv.1 = q)).map (·.2)
def dput (kvs : List (k × AV)) (q : k) (v : AV) : List (k × AV) :=
  if (kvs.any fun kv => decide (kv.1 = q)) = true then kvs.map (fun kv => if kv.1 = q then (kv.1, v) else kv) else kvs ++ [(q, v)]
variable {W : Wd} {io : List Addr} {H : Hp}
theorem RKs.len : ∀ {xs : List (k × AV)} {vs : List (k × V)}, RKs W io H xs vs → xs.length = vs.length
  | _, _, .nil => rfl
  | _, _, .cons _ q => by simp [RKs.len q]
theorem RKs.keys : ∀ {xs : List (k × AV)} {vs : List (k × V)}, RKs W io H xs vs → xs.map (·.1) = vs.map (·.1)
  | _, _, .nil => rfl
  | _, _, .cons _ q => by simp [RKs.keys q]
/-- both have it, or none has -/
def RVo (W : Wd) (io : List Addr) (H : Hp) : Option AV → Option V → Prop
  | some a, some v => RV W io H a v
  | none, none => True
  | _, _ => False
theorem RKs.get : ∀ {xs : List (k × AV)} {vs : List (k × V)} (q : k), RKs W io H xs vs → RVo W io H (dget xs q) (valV vs q)
  | _, _, _, .nil => trivial
  | (q', x) :: xs, (_, v) :: vs, q, .cons r t => by
    have ih := RKs.get q t
    unfold dget valV at ih ⊢
    by_cases e : q' = q
    · simp [List.find?_cons, e]
      exact r
    · simp only [List.find?_cons, e, decide_false]
      exact ih
theorem RKs.any : ∀ {xs : List (k × AV)} {vs : List (k × V)} (q : k), RKs W io H xs vs → (xs.any fun kv => decide (kv.1 = q)) = vs.any fun kv => decide (kv.1 = q)
  | _, _, _, .nil => rfl
  | _, _, q, .cons r t => by simp [List.any_cons, RKs.any q t]
theorem RKs.repl : ∀ {xs : List (k × AV)} {vs : List (k × V)} (q : k) {a : AV} {v : V}, RV W io H a v → RKs W io H xs vs →
    RKs W io H (xs.map fun kv => if kv.1 = q then (kv.1, a) else kv) (vs.map fun kv => if kv.1 = q then (kv.1, v) else kv)
  | _, _, _, _, _, _, .nil => .nil
  | (q', x) :: xs, (_, w) :: vs, q, a, v, ra, .cons r t => by
    rw [List.map_cons, List.map_cons]
    by_cases e : q' = q
    · simp only [e, if_true]
      exact .cons ra (RKs.repl q ra t)
    · simp only [e, if_false]
      exact .cons r (RKs.repl q ra t)
theorem RKs.app : ∀ {xs ys : List (k × AV)} {vs ws : List (k × V)}, RKs W io H xs vs → RKs W io H ys ws → RKs W io H (xs ++ ys) (vs ++ ws)
  | _, _, _, _, .nil, q => q
  | _, _, _, _, .cons r t, q => .cons r (RKs.app t q)
theorem RKs.put {xs : List (k × AV)} {vs : List (k × V)} (q : k) {a : AV} {v : V} (ra : RV W io H a v) (r : RKs W io H xs vs) : RKs W io H (dput xs q a) (putK vs q v) := by
  unfold dput putK
  rw [r.any q]
  by_cases e : (vs.any fun kv => decide (kv.1 = q)) = true
  · rw [if_pos e, if_pos e]
    exact r.repl q ra
  · rw [if_neg e, if_neg e]
    exact r.app (.cons ra .nil)
end
def ofKey : Key → AV
  | .inl i => .int i
  | .inr x => .str x
section
variable {W : Wd} {io : List Addr} {H : Hp}
end

section
variable {W : Wd} {X : Cx}
end

section
variable {W : Wd} {X : Cx}
end

section
variable {W : Wd} {X : Cx}
section
variable {M : Md W} {E : WX} {e : Expr} {lo hi : Option Expr} {f : DE} {l u : DO} {pos p2 : Pos}
end
end

section
variable {W : Wd} {X : Cx} {M : Md W} {E : WX} {es : List Expr} {f : DA} {pos : Pos}
end
end Dn
namespace Dn
open PySem PySem.Spec PyProof.Rows L2

/-- fixed items, or the list at a place as it is at each turn -/
inductive Src where
  | fix (xs : List AV)
  | at (n : Nat)
  /-- places and items of a sequence -/
  | enF (xs : List AV)
  | enA (n : Nat)
  /-- two lists, side by side -/
  | zip (m n : Nat)
  /-- a locked dict: its keys, values, pairs, or keys with their places -/
  | dK (n w : Nat)
def pickD (w i : Nat) (kv : Key × AV) : AV := match w with
  | 0 => ofKey kv.1
  | 1 => kv.2
  | 2 => .tup [ofKey kv.1, kv.2]
  | _ => .tup [.int i, ofKey kv.1]
/-- the item of a turn: none is a fault, some none the end -/
def Src.next (s : Src) (i : Nat) (h : Hep) : Option (Option AV) := match s with
  | .fix xs => some xs[i]?
  | .at n => (match h[n]? with
    | some (.lst xs) => some xs[i]?
    | _ => none)
  | .enF xs => some (xs[i]?.map fun x => .tup [.int i, x])
  | .enA n => (match h[n]? with
    | some (.lst xs) => some (xs[i]?.map fun x => .tup [.int i, x])
    | _ => none)
  | .zip m n => (match h[m]?, h[n]? with
    | some (.lst xs), some (.lst ys) => some (match xs[i]?, ys[i]? with
      | some x, some y => some (.tup [x, y])
      | _, _ => none)
    | _, _ => none)
  | .dK n w => (match h[n]? with
    | some (.frz (.dK kvs)) => some (kvs[i]?.map (pickD w i))
    | _ => none)
def Src.len (s : Src) (h : Hep) : Nat := match s with
  | .fix xs => xs.length
  | .enF xs => xs.length
  | .at n => (match h[n]? with
    | some (.lst xs) => xs.length
    | _ => 0)
  | .enA n => (match h[n]? with
    | some (.lst xs) => xs.length
    | _ => 0)
  | .zip m _ => (match h[m]? with
    | some (.lst xs) => xs.length
    | _ => 0)
  | .dK n _ => (match h[n]? with
    | some (.frz (.dK kvs)) => kvs.length
    | _ => 0)
section
variable {W : Wd} {M : Md W} {X : Cx} {pos : Pos} {C : CS}
end

section
variable {W : Wd} {M : Md W} {E : WX} {X : Cx} {tg iter : Expr} {body : List Stmt} {f : DI} {g : DG} {fb : DS} {pos : Pos}
end

section
variable {W : Wd} {M : Md W} {E : WX} {X : Cx} {c : Expr} {body : List Stmt} {ft : DT} {fb : DS} {pos : Pos}
end

abbrev E0x : WX := fun _ _ _ _ => False
section
variable {W : Wd} {M : Md W} {E : WX} {X : Cx} {pos : Pos}
end

section
variable {W : Wd} {M : Md W} {E : WX} {X : Cx} {tg : Expr}
end
end Dn
namespace Dn
open PySem PySem.Spec PyProof.Rows L2

abbrev DF := List AV → Hep → R AV
def Pfn (W : Wd) (E : XK) (Q : VK) (io : List Addr) (H : Hp) : R AV → Prop
  | .ok v hp => ∀ io' H' x, Ext W io H io' H' → Rl W io' hp H' → RV W io' H' v x → Q x H'
  | .exc t fs hp => ∀ io' H' cls d, Ext W io H io' H' → Rl W io' hp H' → RX W io' H' t fs cls d → E cls d H'
  | .stuck => False
def spD (W : Wd) (n : Nat) (f : DF) : Sp := fun vs H Q E => ∃ io hp as, as.length = n ∧ Rl W io hp H ∧ RVs W io H as vs ∧ Pfn W E Q io H (f as hp)
def SR.fin : SR → R AV
  | .nx _ h => .ok .non h
  | .rt v h => .ok v h
  | .exc t fs _ h => .exc t fs h
  | _ => .stuck
theorem Pfn.later {W : Wd} {E : XK} {Q : VK} {io io1 : List Addr} {H H1 : Hp} {r : R AV} (h : Pfn W E Q io H r) (e : Ext W io H io1 H1) : Pfn W E Q io1 H1 r := by
  cases r with
  | ok v hp => exact fun io' H' x e' => h io' H' x (e.trans e')
  | exc t fs hp => exact fun io' H' c d e' => h io' H' c d (e.trans e')
  | stuck => exact h
section
variable {P : Program} {w : World} {mg : Str → Option Value} {base : Heap} {W : Wd} {x qual : Str} {params : Arguments} {body : List Stmt} {scope : Scope} {dvs : List V} {kws : List (Str × V)} {f : Addr} {fd : FuncData}
end

def sel {α : Type} (ix : List Nat) (xs : List α) : List α := ix.filterMap (xs[·]?)
/-- n positional values, keywords ks: the bound ones are those at ix of: positional ++ dfl ++ keywords' -/
def BnD (W : Wd) (fd : FuncData) (ps : List Str) (n : Nat) (ks : List Str) (ix : List Nat) (dfl : List AV) : Prop :=
  ∃ (g : List Value → List Value → List Value) (gV : List V → List V → List V), KBn W.K fd ps n ks g gV ∧
    ∀ io H as bs vs zs, RVs W io H as vs → RVs W io H bs zs → RVs W io H (sel ix (as ++ dfl ++ bs)) (gV vs zs)
section
variable {W : Wd} {x qual : Str} {params : Arguments} {body : List Stmt} {scope : Scope} {dvs : List V} {kws : List (Str × V)} {f : Addr} {fd : FuncData} {ps : List Str}
end

section
variable {W : Wd} {M : Md W} {E : WX} {X : Cx} {k j n m : Nat} {f : Addr} {fd : FuncData} {ps ks : List Str} {F : DF} {x : Str} {p pos apos kpos : Pos} {e o : Expr} {es : List Expr} {kws : List Keyword} {fa fk : DA} {fe : DE} {ix : List Nat} {dfl : List AV}
theorem Pst.fn {σ : L2.St} {Q : VK} {io : List Addr} {H : Hp} {r : R AV} (h : Pst W (RV W) E σ Q io H r) : Pfn W (WE E σ) Q io H r := by
  cases r with
  | ok v hp => exact h
  | exc t fs hp => exact h
  | stuck => exact h
end
end Dn
namespace Dn
open PySem PySem.Spec PyProof.Rows L2

section
variable {W : Wd} {M : Md W} {E : WX} {X : Cx}
end

section
variable {W : Wd} {M : Md W} {E : WX} {X : Cx} {f : DE} {fa : DA} {e a b c tg : Expr} {es : List Expr} {g : DG} {pos : Pos}
end
end Dn
namespace Dn
open PySem PySem.Spec PyProof.Rows L2

section
variable {W : Wd} {M : Md W} {E : WX} {X : Cx}
inductive TW where
  | ty (n : String)
  | cls (t : Nat)
def TW.sub (ct : CT) : TW → TW → Bool
  | .ty a, .ty b => a == b || (a == "bool" && b == "int")
  | .cls s, .cls t => ct.sub s t
  | _, _ => false
def TW.val (W : Wd) : TW → Value
  | .ty n => .type n
  | .cls t => .ref (W.cl t)
variable {e o : Expr} {es : List Expr} {fa : DA} {f : DE} {x : Str} {p pos apos : Pos} {r : DL} {id T : String}
variable {name : Str} {r : DMt}
end
end Dn
namespace PySem
open Sem (wp)
section
variable {prog : Program} {w : World} {A : Around} {E : Value → Shared → Prop} {s : Shared}
end
end PySem
namespace Dn
open PySem PySem.Spec PyProof.Rows L2

section
variable {W : Wd} {M : Md W} {E : WX} {X : Cx} {e : Expr} {f : DE} {p pos tpos : Pos} {elts : List Expr} {kk : Nat}
end
end Dn
namespace Dn
open PySem PySem.Spec PyProof.Rows L2
section
variable {W : Wd} {M : Md W} {E : WX} {X : Cx} {e e2 : Expr} {fa : DA} {p pos tpos : Pos} {elts : List Expr} {kk : Nat}
end
end Dn
namespace Dn
open PySem PySem.Spec PyProof.Rows L2

section
variable {W : Wd} {M : Md W} {E : WX} {X : Cx} {f : DE} {e : Expr} {es : List Expr} {gs : DGs} {g : DG} {pos tpos p : Pos} {kk i : Nat} {C : CS}
end
end Dn
namespace Dn
open PySem PySem.Spec PyProof.Rows L2

section
variable {W : Wd} {M : Md W} {E : WX} {X : Cx} {k : Nat}
end
abbrev Bs := List (Nat × List Str × List Nat × List AV)
def Has (P : Program) (w : World) (mg : Str → Option Value) (base : Heap) (W : Wd) (k : Nat) (x : Str) (ps : List Str) (n : Nat) (F : DF) (bs : Bs) : Prop :=
  ∃ (a : Addr) (fd : FuncData), mg x = some (.ref a) ∧ PySem.W.keepIn W.K (.ref a) = true ∧ FnOk P w W.K mg base (L2.CX P w) k a fd ps (spD W n F) ∧ ∀ b ∈ bs, BnD W fd ps b.1 b.2.1 b.2.2.1 b.2.2.2
section
variable {W : Wd} {M : Md W} {E : WX} {X : Cx} {k j n m q : Nat} {ps ks : List Str} {F : DF} {x : Str} {p pos : Pos} {e : Expr} {es : List Expr} {kws : List Keyword} {fa fk : DA} {ix : List Nat} {dfl : List AV} {bs : Bs}
end

def obsE (fa : List He.Fa) (fn : List He.DefD) (xt : List (PySem.W.Frag → Bool)) (K : PySem.W.Frag) : He.AlD := ((He.obsD fa fn K).1 && xt.all fun f => f K, (He.obsD fa fn K).2)
def SaysE (fa : List He.Fa) (fn : List He.DefD) (xt : List (PySem.W.Frag → Bool)) (K : PySem.W.Frag) : Prop := obsE fa fn xt K = He.valD fn
theorem SaysE.says {fa : List He.Fa} {fn : List He.DefD} {xt : List (PySem.W.Frag → Bool)} {K : PySem.W.Frag} (c : SaysE fa fn xt K) : He.SaysD fa fn K ∧ ∀ (i : Nat) (f : PySem.W.Frag → Bool), xt[i]? = some f → f K = true := by
  have c0 : obsE fa fn xt K = He.valD fn := c
  have d1 : (obsE fa fn xt K).1 = true := by
    rw [c0]
    rfl
  have c1 : ((He.obsD fa fn K).1 && xt.all fun f => f K) = true := d1
  have d2 : (obsE fa fn xt K).2 = (He.valD fn).2 := by rw [c0]
  have c2 : (He.obsD fa fn K).2 = (He.valD fn).2 := d2
  obtain ⟨c3, c4⟩ := He.ba c1
  refine ⟨?_, fun i f h => List.all_eq_true.mp c4 f (List.mem_of_getElem? h)⟩
  show He.obsD fa fn K = He.valD fn
  exact Prod.ext c3 c2
end Dn
namespace Dn
open PySem PySem.Spec PyProof.Rows L2

section
variable {W : Wd} {M : Md W} {E : WX} {X : Cx} {k : Nat}
end
def cdB (K : PySem.W.Frag) : Bool := He.eqO (PySem.W.specialIn K (.builtin "object.__class__") "__get__") (some (some (.builtin "getset_descriptor.__get__")))
def ckB (K : PySem.W.Frag) : Bool := decide (PySem.W.takesIn K (.builtin "object.__class__") = some true)
end Dn
namespace Dn
open PySem

def Fr (ex : List Nat) (h h' : Hep) : Prop := h.length ≤ h'.length ∧ ∀ i, i < h.length → i ∉ ex → h'[i]? = h[i]?
theorem Fr.refl {ex : List Nat} {h : Hep} : Fr ex h h := ⟨Nat.le_refl _, fun _ _ _ => rfl⟩
theorem Fr.trans {ex : List Nat} {h h' h'' : Hep} (a : Fr ex h h') (b : Fr ex h' h'') : Fr ex h h'' := ⟨Nat.le_trans a.1 b.1, fun i hi he => (b.2 i (Nat.lt_of_lt_of_le hi a.1) he).trans (a.2 i hi he)⟩
theorem Fr.mono {ex ex' : List Nat} {h h' : Hep} (a : Fr ex h h') (k : ∀ i, i < h.length → i ∈ ex → i ∈ ex') : Fr ex' h h' := ⟨a.1, fun i hi he => a.2 i hi fun z => he (k i hi z)⟩
theorem Fr.at {ex : List Nat} {h h' : Hep} (a : Fr ex h h') {i : Nat} {o : AO} (e : h[i]? = some o) (he : i ∉ ex) : h'[i]? = some o := by
  obtain ⟨hl, _⟩ := List.getElem?_eq_some_iff.mp e
  rw [a.2 i hl he]
  exact e
theorem Fr.app {ex : List Nat} {h g : Hep} : Fr ex h (h ++ g) := ⟨by simp, fun i hi _ => List.getElem?_append_left hi⟩
theorem Fr.set {ex : List Nat} {h : Hep} {i : Nat} {o : AO} (he : i ∈ ex) : Fr ex h (h.set i o) := ⟨by simp, fun j hj hn => List.getElem?_set_ne (fun z => hn (by rw [← z]; exact he))⟩
section
variable {T U : Type} {a : T} {h h1 : Hep} {s s1 : Sl} {t : Nat} {fs : List (Nat × AV)} {v : AV}
variable {f g k : DE} {c d : DT} {x y : DS} {fa ga : DA} {r r' : D2} {u : D1} {l : DL} {i j m n q : Nat} {b : Bool} {gt : DG} {gs : DGs} {F : DF} {ix : List Nat} {dfl : List AV} {lo hi : DO} {ty : String} {dm : DMt}
def AV.nx : AV → Bool
  | .exn _ _ => false
  | _ => true
end

section
variable {h : Hep} {i j : Int}
end
theorem Fr.nil {ex : List Nat} {h h' : Hep} (f : Fr [] h h') : Fr ex h h' := f.mono fun _ _ z => by cases z
mutual
inductive Dr (h : Hep) : AV → PyData → Prop
  | non : Dr h .non .none
  | bl (b : Bool) : Dr h (.bl b) (.bool b)
  | int (i : Int) : Dr h (.int i) (.int i)
  | str (x : Str) : Dr h (.str x) (.str x)
  | tup {xs : List AV} {ds : List PyData} : DrA h xs ds → Dr h (.tup xs) (.tuple ds)
  | rol {xs : List AV} {ds : List PyData} : DrA h xs ds → Dr h (.rol xs) (.list ds)
  | ref {n : Nat} {xs : List AV} {ds : List PyData} : h[n]? = some (.lst xs) → DrA h xs ds → Dr h (.ref n) (.list ds)
inductive DrA (h : Hep) : List AV → List PyData → Prop
  | nil : DrA h [] []
  | cons {x : AV} {d : PyData} {xs : List AV} {ds : List PyData} : Dr h x d → DrA h xs ds → DrA h (x :: xs) (d :: ds)
end
theorem depth_tup {ds : List PyData} : (PyData.tuple ds).depth = PyData.depthAll ds + 1 := by rw [PyData.depth]
theorem depth_list {ds : List PyData} : (PyData.list ds).depth = PyData.depthAll ds + 1 := by rw [PyData.depth]
theorem depthAll_cons {d : PyData} {ds : List PyData} : PyData.depthAll (d :: ds) = max d.depth (PyData.depthAll ds) := by rw [PyData.depthAll]
mutual
theorem toD_dr {h : Hep} : ∀ {a : AV} {d : PyData}, Dr h a d → ∀ n, d.depth < n → toD n h a = some d
  | _, _, .non, n + 1, _ => rfl
  | _, _, .bl b, n + 1, _ => rfl
  | _, _, .int b, n + 1, _ => rfl
  | _, _, .str b, n + 1, _ => rfl
  | _, _, .tup (xs := xs) (ds := ds) r, n + 1, hn => by
    rw [depth_tup] at hn
    have := toD_drA r n (by omega)
    simp [toD, this]
  | _, _, .rol (xs := xs) (ds := ds) r, n + 1, hn => by
    rw [depth_list] at hn
    have := toD_drA r n (by omega)
    simp [toD, this]
  | _, _, .ref (xs := xs) (ds := ds) e r, n + 1, hn => by
    rw [depth_list] at hn
    have := toD_drA r n (by omega)
    simp [toD, this, e]
theorem toD_drA {h : Hep} : ∀ {xs : List AV} {ds : List PyData}, DrA h xs ds → ∀ n, PyData.depthAll ds < n → xs.mapM (toD n h) = some ds
  | _, _, .nil, n, _ => rfl
  | _, _, .cons r t, n, hn => by
    rw [depthAll_cons] at hn
    have h1 := toD_dr r n (by omega)
    have h2 := toD_drA t n (by omega)
    simp [h1, h2]
end
end Dn
namespace Dn
open PySem
end Dn
namespace Dn
open PySem PySem.Spec PyProof.Rows L2

def fget : List (Nat × AV) → Nat → Option AV
  | [], _ => none
  | (k, v) :: r, j => if k = j then some v else fget r j
def fput : List (Nat × AV) → Nat → AV → List (Nat × AV)
  | [], j, x => [(j, x)]
  | (k, v) :: r, j, x => if k = j then (k, x) :: r else (k, v) :: fput r j x
/-- the instance: its place, its class, its attributes -/
def insAt (h : Hep) (a : AV) : Option (Nat × Nat × List (Nat × AV)) := match a with
  | .ref n => match h[n]? with
    | some (.ins t fs) => some (n, t, fs)
    | _ => none
  | _ => none
section
variable {W : Wd} {io : List Addr} {hp : Hep} {H : Hp}
theorem fn_inj {i j : Nat} {s : Str} (h1 : W.fn[i]? = some s) (h2 : W.fn[j]? = some s) : i = j := by
  obtain ⟨l1, e1⟩ := List.getElem?_eq_some_iff.mp h1
  obtain ⟨l2, e2⟩ := List.getElem?_eq_some_iff.mp h2
  exact (List.getElem_inj W.fnd).mp (e1.trans e2.symm)
theorem RFs.get {j : Nat} {s : Str} (hj : W.fn[j]? = some s) {x : AV} : ∀ {fs : List (Nat × AV)} {vs : List (Str × V)}, RFs W io H fs vs → fget fs j = some x → ∃ v, vs.lookup s = some v ∧ RV W io H x v
  | _, _, .nil, h => by cases h
  | _, _, .cons (q := q) (s := s') (v := v) hq r t, h => by
    unfold fget at h
    by_cases e : q = j
    · rw [if_pos e] at h
      cases h
      subst e
      have es : s' = s := Option.some.inj (hq.symm.trans hj)
      subst es
      exact ⟨v, by simp [List.lookup], r⟩
    · rw [if_neg e] at h
      obtain ⟨v', e1, e2⟩ := RFs.get hj t h
      have ne : s ≠ s' := fun z => e (fn_inj (hq.trans (by rw [z])) hj)
      have nb : (s == s') = false := by simpa using ne
      exact ⟨v', by simp [List.lookup, nb, e1], e2⟩
theorem RFs.put {j : Nat} {s : Str} (hj : W.fn[j]? = some s) {x : AV} {v : V} (rx : RV W io H x v) : ∀ {fs : List (Nat × AV)} {vs : List (Str × V)}, RFs W io H fs vs → RFs W io H (fput fs j x) (putF s v vs)
  | _, _, .nil => .cons hj rx .nil
  | _, _, .cons (q := q) (s := s') hq r t => by
    unfold fput putF
    by_cases e : q = j
    · subst e
      have es : s' = s := Option.some.inj (hq.symm.trans hj)
      rw [if_pos rfl, if_pos es]
      exact .cons hq rx t
    · have ne : s' ≠ s := fun z => e (fn_inj (hq.trans (by rw [z])) hj)
      rw [if_neg e, if_neg ne]
      exact .cons hq r (RFs.put hj rx t)
theorem RFs.len : ∀ {fs : List (Nat × AV)} {vs : List (Str × V)}, RFs W io H fs vs → fs.length = vs.length
  | _, _, .nil => rfl
  | _, _, .cons _ _ t => by simp [RFs.len t]
theorem RFs.no {m : Str} (hm : m ∉ W.fn) : ∀ {fs : List (Nat × AV)} {vs : List (Str × V)}, RFs W io H fs vs → vs.lookup m = none
  | _, _, .nil => rfl
  | _, _, .cons (s := s') hq r t => by
    have ne : m ≠ s' := fun z => hm (z ▸ List.mem_of_getElem? hq)
    have nb : (m == s') = false := by simpa using ne
    simp [List.lookup, nb, RFs.no hm t]
end

def setfK (s : Sl) (j : Nat) (v : AV) (o : Option (Nat × Nat × List (Nat × AV))) (h : Hep) : SR := match o with
  | some (n, t, fs) => if fs.length < 900 then .nx s (h.set n (.ins t (fput fs j v))) else .stuck
  | none => .stuck
section
variable {W : Wd} {M : Md W} {E : WX} {X : Cx} {e o value : Expr} {f fo fv : DE} {x : Str} {j : Nat} {pos pos' tpos : Pos}
end

section
variable {W : Wd} {M : Md W} {E : WX} {X : Cx} {k j n m q t : Nat} {f : Addr} {fd : FuncData} {ps ks : List Str} {F : DF} {x : Str} {p pos apos kpos : Pos} {e o : Expr} {es : List Expr} {kws : List Keyword} {fa fk : DA} {fe fo : DE} {ix : List Nat} {dfl : List AV} {bs : Bs}
end
end Dn
namespace Dn
open PySem PySem.Spec PyProof.Rows L2

section
variable {W : Wd} {M : Md W} {E : WX} {X : Cx} {e : Expr} {f g : DE}
end

theorem Pst.imp {W : Wd} {E : WX} {σ : L2.St} {T U T' U' : Type} {rh : Rel T U} {rh' : Rel T' U'} {Q : U → Hp → Prop} {Q' : U' → Hp → Prop} {io : List Addr} {H : Hp} {r : R T'} {k : T' → Hep → R T} (h : Pst W rh E σ Q io H (r.bind k))
    (i : ∀ io1 H1 a hp1 x, Ext W io H io1 H1 → Rl W io1 hp1 H1 → rh' io1 H1 a x → Pst W rh E σ Q io1 H1 (k a hp1) → Q' x H1) : Pst W rh' E σ Q' io H r := by
  cases r with
  | ok v hp => exact fun io' H' x e rl q => i io' H' v hp x e rl q (Pst.later h e)
  | exc t fs hp => exact h
  | stuck => exact h
def HasO (P : Program) (w : World) (mg : Str → Option Value) (base : Heap) (W : Wd) (k : Nat) (t : Nat) (x : Str) (ps : List Str) (n : Nat) (F : DF) : Prop :=
  ∃ (a : Addr) (fd : FuncData), Meth W.K (W.cl t) x a ∧ PySem.W.fnIn W.K a = true ∧ FnOk P w W.K mg base (L2.CX P w) k a fd ps (spD W n F) ∧ BnD W fd ps n [] (List.range n) []
section
variable {W : Wd} {M : Md W} {E : WX} {X : Cx} {k j n t : Nat} {ps : List Str} {F : DF} {x : Str} {p pos apos : Pos} {e e' o : Expr} {f g fo : DE}
abbrev DX := AV → AV → Hep → R AV
def OpX (X : Cx) (W : Wd) (E : WX) (G : Value → Value → Sem Value) (r : DX) : Prop :=
  ∀ (pins : List (Addr × Obj)) (s : Shared) (σ : L2.St) (H : Hp) (io : List Addr) (hp : Hep) (a b : AV) (xv yv : V) (v u : Value) (Q : VK), Inv X pins σ H s → RelV xv v → RelV yv u → Rl W io hp H → RV W io H a xv → RV W io H b yv → Pst W (RV W) E σ Q io H (r a b hp) →
    wpAny (model X.prog X.w) X.A (G v u) (EP X pins σ Q) X.xe s
def ofX (r : D2) : DX := fun a b h => R.of (r a b h)
variable {G : Value → Value → Sem Value} {r r' : DX}
theorem OpX.of {r : D2} (h : OpR X G (t2 W r)) : OpX X W E G (ofX r) := fun pins s σ H io hp a b xv yv v u Q I rx ry rl ra rb P => h pins s σ H xv yv v u Q I rx ry ⟨io, hp, a, b, rl, ra, rb, P.of⟩
def IxX (X : Cx) (W : Wd) (E : WX) (r : DX) : Prop :=
  ∀ (value slice : Expr) (pins : List (Addr × Obj)) (s : Shared) (σ : L2.St) (H : Hp) (io : List Addr) (hp : Hep) (a b : AV) (xv yv : V) (v u : Value) (Q : VK), Inv X pins σ H s → RelV xv v → RelV yv u → Rl W io hp H → RV W io H a xv → RV W io H b yv → Pst W (RV W) E σ Q io H (r a b hp) →
    subscripted slice false v u = operate [v, u] (getItem v u) → subscripted slice true v u = runValue (.builtin "lifetime.subscript" ⟨[v, u], []⟩) → wpAny (model X.prog X.w) X.A (subscriptTail value slice v u) (EP X pins σ Q) X.xe s
theorem IxX.of {r : D2} (h : IxR X (t2 W r)) : IxX X W E (ofX r) := fun value slice pins s σ H io hp a b xv yv v u Q I rx ry rl ra rb P h1 _ => h value slice pins s σ H xv yv v u Q I rx ry ⟨io, hp, a, b, rl, ra, rb, P.of⟩ h1
end
end Dn
namespace Dn
open PySem PySem.Spec PyProof.Rows L2

section
variable {M : Model} {prog : Program} {w : World} {A : Around} {E : Value → Shared → Prop} {s : Shared} {K : PySem.W.Frag} {x C f : Addr} {ox : Obj} {od : Option Obj} {b tb : Value}
end
end Dn
namespace Dn
open PySem PySem.Spec PyProof.Rows L2
section
variable {W : Wd} {M : Md W} {E : WX} {X : Cx} {k j n t : Nat} {ps : List Str} {F : DF} {x : Str} {p pos apos : Pos} {e e' o : Expr} {f g fo : DE}
variable {ct : CT}
end
end Dn
namespace Dn
open PySem PySem.Spec PyProof.Rows L2
section
variable {W : Wd} {M : Md W} {E : WX} {X : Cx} {k j n m q t : Nat} {ps ks : List Str} {F : DF} {x : Str} {p pos apos : Pos} {e o : Expr} {es : List Expr} {kws : List Keyword} {f fo : DE} {fa fk : DA} {ix : List Nat} {dfl : List AV} {bs : Bs}
def HasC (P : Program) (w : World) (mg : Str → Option Value) (base : Heap) (W : Wd) (k : Nat) (t : Nat) (x : Str) (ps : List Str) (n : Nat) (F : DF) (bs : Bs) : Prop :=
  ∃ (a : Addr) (fd : FuncData), Mk W.K (W.cl t) a ∧ mg x = some (.ref (W.cl t)) ∧ W.ct.kit t = true ∧ FnOk P w W.K mg base (L2.CX P w) k a fd ps (spD W n F) ∧ ∀ b ∈ bs, BnD W fd ps b.1 b.2.1 b.2.2.1 b.2.2.2
end
end Dn
namespace Dn
open PySem PySem.Spec PyProof.Rows L2

def clB (K : PySem.W.Frag) (C : Addr) : Bool := PySem.W.plainGet K C Str.empty && (PySem.W.hasDictIn K C && (PySem.W.plainOver K C && (He.eqO (PySem.W.findIn K (.ref C) "__setattr__") (some (some (.builtin "object.__setattr__"))) &&
  (He.eqO (PySem.W.findIn K (.ref C) "__class__") (some (some (.builtin "object.__class__"))) && decide (PySem.W.mroIn K C (.type "object") = some true)))))
def ctOf (n : Nat) (sub : Nat → Nat → Bool) : CT := ⟨fun t => decide (t < n), sub⟩
def clOf (K : PySem.W.Frag) (cs : List Str) (t : Nat) : Addr := He.ga K (cs.getD t Str.empty)
def allN (n : Nat) (p : Nat → Bool) : Bool := (List.range n).all p
abbrev Pth := PySem.W.Frag → Addr
structure DefF where
  ad : Pth
  nm : Str
  ql : Str
  pr : Arguments
  bd : List Stmt
  sp : Scope
  dl : List He.Dv
  kw : List (Str × He.Dv)
def DefF.look (d : DefF) (K : PySem.W.Frag) : He.FnW := match K.lookup (d.ad K) with
  | some ⟨_, _, .func g, _⟩ => some (g.name, g.qualname, g.params, g.body, g.scope, g.globals, g.closure, g.builtins)
  | _ => none
def DefF.want (d : DefF) : He.FnW := some (d.nm, d.ql, d.pr, .stmts d.bd, d.sp, mainGlobals, [], builtinsNs)
def DefF.good (d : DefF) (K : PySem.W.Frag) : Bool := PySem.W.keepIn K (.ref (d.ad K)) && match K.lookup (d.ad K) with
  | some ⟨_, _, .func g, _⟩ => PySem.W.codeIn K g.code d.ql && (He.dflB K g.defaults (d.dl.map (He.Dv.v K)) && He.kwdB K g.kwdefaults (d.kw.map fun q => (q.1, q.2.v K)))
  | _ => false
/-- paths: a def of the module, a method, a property's getter -/
def pDef (x : Str) : Pth := fun K => He.ga K x
def pMeth (C m : Str) : Pth := fun K => He.ma K (He.ga K C) m
def pProp (C m : Str) : Pth := fun K => match PySem.W.recIn K (He.ma K (He.ga K C) m) "property" with
  | some (.ref g :: _) => g
  | _ => 0
def methB (C m : Str) (p : Pth) (K : PySem.W.Frag) : Bool := He.eqO (PySem.W.findIn K (.ref (He.ga K C)) m) (some (some (.ref (p K)))) && (PySem.W.isFn K (.ref (p K)) && PySem.W.keepIn K (.ref (p K)))
def mkB (C : Str) (p : Pth) (K : PySem.W.Frag) : Bool := PySem.W.makesIn K (He.ga K C) && (He.eqO (PySem.W.findIn K (.ref (He.ga K C)) "__init__") (some (some (.ref (p K)))) && (PySem.W.isFn K (.ref (p K)) && PySem.W.keepIn K (.ref (He.ga K C))))
def propB (C m : Str) (p : Pth) (K : PySem.W.Frag) : Bool := He.eqO (PySem.W.findIn K (.ref (He.ga K C)) m) (some (some (.ref (He.ma K (He.ga K C) m)))) &&
  (He.eqO (PySem.W.specialIn K (.ref (He.ma K (He.ga K C) m)) "__get__") (some (some (.builtin "property.__get__"))) && (decide (PySem.W.takesIn K (.ref (He.ma K (He.ga K C) m)) = some true) &&
    match PySem.W.recIn K (He.ma K (He.ga K C) m) "property" with
    | some (.ref g :: _) => decide (g = p K)
    | _ => false))
abbrev AlF : Type := Bool × List He.FnW
def obsF (fa : List He.Fa) (fn : List DefF) (xt : List (PySem.W.Frag → Bool)) (K : PySem.W.Frag) : AlF := ((fa.all fun f => f.ok K) && ((fn.all fun d => d.good K) && xt.all fun f => f K), fn.map fun d => d.look K)
def valF (fn : List DefF) : AlF := (true, fn.map DefF.want)
def SaysF (fa : List He.Fa) (fn : List DefF) (xt : List (PySem.W.Frag → Bool)) (K : PySem.W.Frag) : Prop := obsF fa fn xt K = valF fn
section
variable {fa : List He.Fa} {fn : List DefF} {xt : List (PySem.W.Frag → Bool)} {K : PySem.W.Frag}
theorem SaysF.one (c : SaysF fa fn xt K) : (fa.all fun f => f.ok K) = true ∧ (fn.all fun d => d.good K) = true ∧ (xt.all fun f => f K) = true := by
  have c1 : ((fa.all fun f => f.ok K) && ((fn.all fun d => d.good K) && xt.all fun f => f K)) = true := congrArg (fun z : AlF => z.1) c
  obtain ⟨a, b⟩ := He.ba c1
  exact ⟨a, He.ba b⟩
theorem SaysF.x (c : SaysF fa fn xt K) (i : Nat) {f : PySem.W.Frag → Bool} (h : xt[i]? = some f := by rfl) : f K = true := List.all_eq_true.mp c.one.2.2 f (List.mem_of_getElem? h)
end
/-- statements within a class -/
def clsStmt : Stmt → Nat → Stmt
  | .ClassDef _ _ _ body _ _ _ _ _ _ _, i => body.getD i (.Pass ⟨0, 0, 0, 0⟩)
  | s, _ => s
/-- a def that keeps its promise, with the ways it is called -/
def FnB (P : Program) (w : World) (mg : Str → Option Value) (base : Heap) (W : Wd) (k : Nat) (f : Addr) (fd : FuncData) (ps : List Str) (n : Nat) (F : DF) (bs : Bs) : Prop :=
  PySem.W.keepIn W.K (.ref f) = true ∧ FnOk P w W.K mg base (L2.CX P w) k f fd ps (spD W n F) ∧ ∀ b ∈ bs, BnD W fd ps b.1 b.2.1 b.2.2.1 b.2.2.2
section
variable {P : Program} {w : World} {mg : Str → Option Value} {base : Heap} {W : Wd} {k n t : Nat} {f : Addr} {fd : FuncData} {ps : List Str} {F : DF} {bs : Bs} {x : Str}
theorem FnB.has (B : FnB P w mg base W k f fd ps n F bs) (h : mg x = some (.ref f)) : Has P w mg base W k x ps n F bs := ⟨f, fd, h, B.1, B.2.1, B.2.2⟩
theorem FnB.own (B : FnB P w mg base W k f fd ps n F bs) (h : Meth W.K (W.cl t) x f) (hf : PySem.W.fnIn W.K f = true) (i : Nat) (hi : bs[i]? = some (n, [], List.range n, [])) : HasO P w mg base W k t x ps n F := ⟨f, fd, h, hf, B.2.1, B.2.2 _ (List.mem_of_getElem? hi)⟩
theorem FnB.cls (B : FnB P w mg base W k f fd ps n F bs) (h : Mk W.K (W.cl t) f) (hm : mg x = some (.ref (W.cl t))) (hk : W.ct.kit t = true) : HasC P w mg base W k t x ps n F bs := ⟨f, fd, h, hm, hk, B.2.1, B.2.2⟩
end
section
variable {W : Wd} {x qual : Str} {params : Arguments} {body : List Stmt} {scope : Scope} {dvs : List V} {kws : List (Str × V)} {f : Addr} {fd : FuncData} {ps : List Str}
end
/-- the empty tuple of the written part -/
def etB (p : Pth) (K : PySem.W.Frag) : Bool := match K.lookup (p K) with
  | some ⟨.type "tuple", _, .seq its _, _⟩ => its.toList.isEmpty && decide (its.size = 0)
  | _ => false
end Dn
namespace Dn
open PySem
section
variable {T : Type} {a b v : AV} {h h1 : Hep} {s : Sl} {t i j n m q c : Nat} {f g k : DE} {fa fk : DA} {F : DF} {ix : List Nat} {dfl : List AV} {fs : List (Nat × AV)} {r r' : DX} {r2 : D2} {ct : CT}
end
end Dn
namespace Dn
open PySem PySem.Spec PyProof.Rows L2
section
variable {W : Wd} {X : Cx}
end
end Dn
namespace Dn
open PySem PySem.Spec PyProof.Rows L2
section
variable {W : Wd} {M : Md W} {E : WX} {X : Cx}
end
section
variable {W : Wd} {M : Md W} {E : WX} {X : Cx} {k j n t : Nat} {ps : List Str} {F : DF} {x : Str} {p pos apos : Pos} {e e' o : Expr} {f g fo : DE}
end
end Dn
namespace Dn
open PySem PySem.Spec PyProof.Rows L2
section
variable {prog : Program} {w : World} {A : Around} {E : Value → Shared → Prop} {s : Shared}
end
section
variable {X : Cx}
end
section
variable {W : Wd} {M : Md W} {E : WX} {X : Cx} {k : Nat}
end
end Dn
namespace PySem
namespace DX
open PySem.W PySem.Calls PyProof.Rows
structure NewF (O nid : String) (bm : List Value) : Prop where
  spl : splitId nid = some (O, "__new__")
  knd : builtinKind nid = some .builtinFn
  sig : Manifest.signature? nid = some ⟨.any, O, O, .cls, [⟨"args", .varPos, false⟩, ⟨"kwargs", .varKw, false⟩]⟩
  has : bm.contains (.type O) = true
  nat : bm.contains (.type "AttributeError") = false
  nnm : bm.contains (.type "NameError") = false
  can : Manifest.canonical nid = Manifest.canonical "BaseException.__new__"
  ent : entryFor table nid = some Builtin.«BaseException.__new__»
  fin : nid.endsWith ".__new__" = true
  own : nid.dropRight 8 = O
  qui : nid.startsWith "lifetime." = false
  sta : (O != "*") = true
theorem NewF.of {O nid iid : String} {bm : List Value} (F : ExcBaseFacts O nid iid bm) : NewF O nid bm :=
  ⟨F.newSplit, F.newKind, F.newRow, F.hasB, F.noAttr, F.noName, F.canon, F.entry, F.ends, F.owner, F.quiet, F.noStar⟩
section
variable {md : Model} {ar : Around} {ex : Value → Shared → Prop} {hp : Heap} {gs : Array GenState} {dr : Drawn} {tc : Nat} {ops : OsState}
variable {cn qn : Str} {C N : Addr} {bs bm bmB : List Value} {hd : Bool} {sl : List Str} {sb : List Value} {ab : Bool} {col : Option Bool} {dd : Option Addr} {k0 k1 k2 k3 k5 : Option Value} {O nid : String}
abbrev ClsAt (hp : Heap) (cn qn : Str) (C N : Addr) (bs bm : List Value) (hd : Bool) (sl : List Str) (sb : List Value) (ab : Bool) (col : Option Bool) (dd : Option Addr) (k0 k1 k2 k3 k5 : Option Value) (nid : String) : Prop := hp.get? C = some (excClassObj cn qn C N bs bm hd sl sb ab col dd k0 k1 k2 k3 k5 nid)
end
section
variable {prog : Program} {w : World} {ar : Around} {ex : Value → Shared → Prop} {R : Result → Shared → Prop} {hp : Heap} {gs : Array GenState} {dr : Drawn} {tc : Nat} {ops : OsState}
variable {cn qn : Str} {C N : Addr} {bs bm bmB : List Value} {hd : Bool} {sl : List Str} {sb : List Value} {ab : Bool} {col : Option Bool} {dd : Option Addr} {k0 k1 k2 k3 k5 : Option Value} {O nid : String}
end
section
variable {prog : Program} {w : World} {A : Around} {R : Result → Shared → Prop} {g : Array GenState} {d : Drawn} {tt : Nat} {os : OsState}
end
end DX
end PySem

namespace Dn
open PySem PySem.Spec PyProof.Rows L2

/-- a class of exceptions with an own __init__ at I, field nm -/
structure Xi (K : PySem.W.Frag) (C : Addr) (bmB : List Value) (newId : String) (nm : Str) : Prop where
  ini : PySem.W.excInitIn K C bmB newId = true
  ovr : PySem.W.excOver K C bmB = true
  tkr : PySem.W.takerIn K C nm = some none
  dct : PySem.W.hasDictIn K C = true
  sat : PySem.W.findIn K (.ref C) "__setattr__" = some (some (.builtin "object.__setattr__"))
  sub : PySem.W.subIn K (.ref C) (.type "BaseException") = some true
  typ : PySem.W.typeIn K (.ref C) = some (.type "type")
  kep : PySem.W.keepIn K (.ref C) = true
section
variable {X : Cx} {pins : List (Addr × Obj)} {σ : L2.St} {H : Hp} {s : Shared} {e C : Addr} {nm : Str} {y : V} {u : Value} {Q : Unit → Shared → Prop} {E : Value → Shared → Prop} {A : Around} {B newId initId : String} {bmB : List Value}
end
section
variable {X : Cx} {E : WX} {C : Addr} {nm : Str} {B newId initId : String} {bmB : List Value} {x : Str} {p pos : Pos} {e : Expr}
end
end Dn
namespace Dn
open PySem PySem.Spec PyProof.Rows L2

section
variable {X : Cx} {pins : List (Addr × Obj)} {σ : L2.St} {H : Hp} {a : Addr} {cls : Value} {d : Option Addr} {s : Shared} {D : Ends}
variable {hds : List ExceptHandler} {x n : Str} {np pos : Pos} {b₀ : Stmt} {suite : List Stmt} {c : Value} {i : Nat}
end
end Dn
namespace Dn
open PySem PySem.Spec PyProof.Rows L2

/-- the classes of exceptions: their numbers n .. m - 1, which lies under which, which under built-in ones -/
structure XT where
  n : Nat
  m : Nat
  sub : Nat → Nat → Bool
  ty : List (Nat × String × Bool)
abbrev Hds := List (Nat × Option Nat × DS)
structure XWd (W : Wd) (T : XT) : Prop where
  exm : ∀ s t, T.n ≤ s → s < T.m → T.n ≤ t → t < T.m → PySem.W.exmOne W.K (.ref (W.cl s)) (.ref (W.cl t)) = some (T.sub s t)
  xf : ∀ t, T.n ≤ t → t < T.m → XfC W.K (W.cl t)
  no : ∀ t s, T.n ≤ t → t < T.m → s ∈ W.fn → PySem.W.findIn W.K (.ref (W.cl t)) s = some none
  ec : ∀ t, T.n ≤ t → t < T.m → ExcC W.K (W.cl t)
  ty : ∀ q ∈ T.ty, PySem.W.kitOne W.K (.ref (W.cl q.1)) (.type q.2.1) = some q.2.2
section
variable {W : Wd} {M : Md W} {E : WX} {X : Cx} {t j k : Nat} {x : Str} {e : Expr} {f : DE} {p p2 pos : Pos}
end

def exM (W : Wd) (i t : Nat) (fs : List (Nat × AV)) (a : Addr) (d : Option Addr) : Md W where
  rel := fun io H as σ => (as.length = σ.length ∧ σ[i]? = some (some (.ref a)) ∧ as[i]? = some (some (.exn t fs))) ∧ (∀ (j : Nat) (v : AV), j ≠ i → as[j]? = some (some v) → ∃ x, σ[j]? = some (some x) ∧ RV W io H v x) ∧
    RXf W io H fs d
  mono := fun e h => ⟨h.1, fun j v n q => by
    obtain ⟨x, b, r⟩ := h.2.1 j v n q
    exact ⟨x, b, r.mono e⟩, h.2.2.mono e⟩
  var := fun {io H as σ j v} h q hn => by
    by_cases hj : j = i
    · subst hj
      rw [h.1.2.2] at q
      cases q
      exact absurd rfl (hn t fs)
    · exact h.2.1 j v hj q
  ok := fun j => j ≠ i
  set := fun {io H as σ j v x} h r hj => ⟨⟨by simp [h.1.1], by rw [List.getElem?_set_ne hj]; exact h.1.2.1, by rw [List.getElem?_set_ne hj]; exact h.1.2.2⟩, fun l w n q => by
    by_cases e : l = j
    · subst e
      obtain ⟨hl, _⟩ := List.getElem?_eq_some_iff.mp q
      rw [List.length_set] at hl
      rw [List.getElem?_set_self hl] at q
      cases q
      exact ⟨x, List.getElem?_set_self (by rw [← h.1.1]; exact hl), r⟩
    · rw [List.getElem?_set_ne (Ne.symm e)] at q ⊢
      exact h.2.1 l w n q, h.2.2⟩
  wipe := fun {io H as σ j} h hj => ⟨⟨by simp [h.1.1], by rw [List.getElem?_set_ne hj]; exact h.1.2.1, by rw [List.getElem?_set_ne hj]; exact h.1.2.2⟩, fun l w n q => by
    by_cases e : l = j
    · subst e
      obtain ⟨hl, _⟩ := List.getElem?_eq_some_iff.mp q
      rw [List.length_set] at hl
      rw [List.getElem?_set_self hl] at q
      cases q
    · rw [List.getElem?_set_ne (Ne.symm e)] at q ⊢
      exact h.2.1 l w n q, h.2.2⟩
section
variable {W : Wd} {X : Cx} {T : XT}
/-- the clauses, read -/
inductive HdD (W : Wd) (X : Cx) (T : XT) : List ExceptHandler → Hds → Prop
  | nil : HdD W X T [] []
  | only {x : Str} {c : Nat} {f : DS} {b₀ : Stmt} {suite : List Stmt} {np pos : Pos} {hds : List ExceptHandler} {hs : Hds} (hc : Names X x (.ref (W.cl c))) (h1 : T.n ≤ c) (h2 : c < T.m)
      (hsu : ∀ (a : Addr) (oe : Obj) (pn : List (Addr × Obj)), PSs (X.suite a ((a, oe) :: pn)) (b₀ :: suite) (tS W (std W) E0x f)) (r : HdD W X T hds hs) :
      HdD W X T (.ExceptHandler (some (.Name x np)) none (b₀ :: suite) pos :: hds) ((c, none, f) :: hs)
  | as {x n : Str} {i c : Nat} {f : DS} {b₀ : Stmt} {suite : List Stmt} {np pos : Pos} {hds : List ExceptHandler} {hs : Hds} (hc : Names X x (.ref (W.cl c))) (h1 : T.n ≤ c) (h2 : c < T.m) (hN : X.N.Nodup) (hi : X.N[i]? = some n) (hl : X.env.kindOf n = some .local)
      (hsu : ∀ (a : Addr) (oe : Obj) (pn : List (Addr × Obj)) (t : Nat) (fs : List (Nat × AV)) (d : Option Addr), T.n ≤ t → t < T.m → Zc (.ref (W.cl t)) d oe → (∃ vs, oe.data = .fields vs) → PSs (X.suite a ((a, oe) :: pn)) (b₀ :: suite) (tS W (exM W i t fs a d) E0x f)) (r : HdD W X T hds hs) :
      HdD W X T (.ExceptHandler (some (.Name x np)) (some n) (b₀ :: suite) pos :: hds) ((c, some i, f) :: hs)
end
section
variable {W : Wd} {X : Cx} {T : XT} {E : WX} {a : Addr} {oe : Obj} {pn : List (Addr × Obj)} {i j t : Nat} {fs : List (Nat × AV)} {d : Option Addr} {x nm : Str} {p pos : Pos}
end
end Dn
namespace Dn
open PySem PySem.Spec PyProof.Rows L2

section
variable {X : Cx}
end
/-- what the head must show of the classes cs; behind them stand the exceptions xs -/
def wdXB (cs xs fn : List Str) (sub : Nat → Nat → Bool) (K : PySem.W.Frag) : Bool :=
  allN cs.length fun t => clB K (clOf K (cs ++ xs) t) && (clsB K (clOf K (cs ++ xs) t) &&
    ((tyNames.all fun n => decide (PySem.W.kitOne K (.type n) (.ref (clOf K (cs ++ xs) t)) = some false) && decide (PySem.W.kitOne K (.ref (clOf K (cs ++ xs) t)) (.type n) = some false)) &&
    ((allN cs.length fun s => decide (PySem.W.kitOne K (.ref (clOf K (cs ++ xs) s)) (.ref (clOf K (cs ++ xs) t)) = some (sub s t)) && decide (PySem.W.subIn K (.ref (clOf K (cs ++ xs) s)) (.ref (clOf K (cs ++ xs) t)) = some (sub s t))) &&
      fn.all fun x => He.eqO (PySem.W.findIn K (.ref (clOf K (cs ++ xs) t)) x) (some none))))
def xcB (fn : List Str) (K : PySem.W.Frag) (C : Addr) : Bool := xfB K C && ((fn.all fun x => He.eqO (PySem.W.findIn K (.ref C) x) (some none)) && (He.eqO (PySem.W.findIn K (.ref C) "__class__") (some (some (.builtin "object.__class__"))) && decide (PySem.W.mroIn K C (.type "object") = some true)))
def xwB (cs fn : List Str) (T : XT) (K : PySem.W.Frag) : Bool :=
  allN (T.m - T.n) (fun i => xcB fn K (clOf K cs (T.n + i)) && allN (T.m - T.n) fun j => decide (PySem.W.exmOne K (.ref (clOf K cs (T.n + i))) (.ref (clOf K cs (T.n + j))) = some (T.sub (T.n + i) (T.n + j)))) &&
    T.ty.all fun q => decide (PySem.W.kitOne K (.ref (clOf K cs q.1)) (.type q.2.1) = some q.2.2)
def tyB (K : PySem.W.Frag) (C : Addr) : Bool := decide (PySem.W.subIn K (.ref C) (.type "BaseException") = some true) && (decide (PySem.W.typeIn K (.ref C) = some (.type "type")) && PySem.W.keepIn K (.ref C))
def x0B (x : Str) (bmB : List Value) (newId : String) (K : PySem.W.Frag) : Bool := PySem.W.excIn K (He.ga K x) bmB newId && tyB K (He.ga K x)
def xiB (x nm : Str) (p : Pth) (bmB : List Value) (newId : String) (K : PySem.W.Frag) : Bool := PySem.W.excInitIn K (He.ga K x) bmB newId && (PySem.W.excOver K (He.ga K x) bmB && (He.eqO (PySem.W.takerIn K (He.ga K x) nm) (some none) && (PySem.W.hasDictIn K (He.ga K x) &&
  (He.eqO (PySem.W.findIn K (.ref (He.ga K x)) "__setattr__") (some (some (.builtin "object.__setattr__"))) && (He.eqO (PySem.W.findIn K (.ref (He.ga K x)) "__init__") (some (some (.ref (p K)))) && (decide (PySem.W.typeIn K (.ref (p K)) = some (.type "function")) && tyB K (He.ga K x)))))))
end Dn
namespace Dn
open PySem
section
variable {h : Hep} {s : Sl} {t j i c : Nat} {fs : List (Nat × AV)} {v : AV} {f : DE} {fb : DS} {T : XT} {hs : Hds} {n : String}
end
end Dn
namespace Dn
open PySem PySem.Spec PyProof.Rows L2

section
variable {W : Wd} {M : Md W} {E : WX} {X : Cx} {o e f : Expr} {fo fk fx : DE} {pos apos cpos : Pos}
end
end Dn
namespace Dn
open PySem PySem.Spec PyProof.Rows L2

structure Ext0 (W : Wd) (H H' : Hp) : Prop where
  tup : ∀ a xs, SqT W.K H a xs → SqT W.K H' a xs
  rol : ∀ a xs, RoL W.K H a xs → RoL W.K H' a xs
  tab : LamX.Tabs W.T H → LamX.Tabs W.T H'
  cod : ∀ a u, H a = some (.ext u) → H' a = some (.ext u)
section
variable {W : Wd} {io : List Addr} {H H' : Hp}
mutual
theorem RV.mono0 (e : Ext0 W H H') : ∀ {x : AV} {v : V}, RV W io H x v → RV W io H' x v
  | _, _, .non => .non
  | _, _, .bl b => .bl b
  | _, _, .int i => .int i
  | _, _, .str x => .str x
  | _, _, .tup h r => .tup (e.tup _ _ h) (RVs.mono0 e r)
  | _, _, .rol h r => .rol (e.rol _ _ h) (RVs.mono0 e r)
  | _, _, .ref h => .ref h
  | _, _, .adr a => .adr a
  | _, _, .ty n => .ty n
  | _, _, .cls t => .cls t
  | _, _, .exi h => .exi (h.mono fun a u => e.cod a u)
  | _, _, .ndc h r => .ndc (e.cod _ _ h) (RV.mono0 e r)
  | _, _, .slc h => .slc (e.cod _ _ h)
theorem RVs.mono0 (e : Ext0 W H H') : ∀ {xs : List AV} {vs : List V}, RVs W io H xs vs → RVs W io H' xs vs
  | _, _, .nil => .nil
  | _, _, .cons r q => .cons (RV.mono0 e r) (RVs.mono0 e q)
end
theorem RKs.mono0 {k : Type} (e : Ext0 W H H') : ∀ {xs : List (k × AV)} {vs : List (k × V)}, RKs W io H xs vs → RKs W io H' xs vs
  | _, _, .nil => .nil
  | _, _, .cons r q => .cons (RV.mono0 e r) (RKs.mono0 e q)
theorem RFs.mono0 (e : Ext0 W H H') : ∀ {xs : List (Nat × AV)} {vs : List (Str × V)}, RFs W io H xs vs → RFs W io H' xs vs
  | _, _, .nil => .nil
  | _, _, .cons f r q => .cons f (RV.mono0 e r) (RFs.mono0 e q)
theorem RO.mono0 (e : Ext0 W H H') {o : AO} {u : HO} (h : RO W io H o u) : RO W io H' o u := by
  induction h with
  | lst r => exact .lst (r.mono0 e)
  | dK r => exact .dK (r.mono0 e)
  | dT r => exact .dT (r.mono0 e)
  | ins k r => exact .ins k (r.mono0 e)
  | frz _ ih => exact .frz ih
variable {p : Addr} {od : Obj} {vs : List (Key × V)} {o : HO}
end
section
variable {W : Wd} {M : Md W} {E : WX} {X : Cx} {e : Expr} {fd f : DE}
end

section
variable {W : Wd} {io : List Addr} {H : Hp} {n : Nat} {p : Addr} {od : Obj} {vs : List (Key × V)}
theorem RKs.at_ {k : Type} {io : List Addr} {H : Hp} : ∀ {xs : List (k × AV)} {vs : List (k × V)} {i : Nat} {q : k} {a : AV}, RKs W io H xs vs → xs[i]? = some (q, a) → ∃ v, vs[i]? = some (q, v) ∧ RV W io H a v
  | _, _, _, _, _, .nil, h => by cases h
  | _, _, 0, _, _, .cons r t, h => by
    cases h
    exact ⟨_, rfl, r⟩
  | _, _, i + 1, q, a, .cons r t, h => by
    obtain ⟨v, e1, e2⟩ := RKs.at_ (i := i) t h
    exact ⟨v, e1, e2⟩
end
section
variable {W : Wd} {M : Md W} {E : WX} {X : Cx} {tg e : Expr} {f : DE} {apos cpos : Pos}
end
end Dn
namespace Dn
open PySem PySem.Spec PyProof.Rows L2

section
variable {W : Wd} {M : Md W} {E : WX} {X : Cx} {pos : Pos}
end

section
variable {W : Wd} {M : Md W} {E : WX} {X : Cx}
end

section
variable {W : Wd} {X : Cx}
end

section
variable {W : Wd} {X : Cx}
end
end Dn
namespace Dn
open PySem PySem.Spec PyProof.Rows L2

abbrev DGH := AV → Sl → Hep → SR
abbrev DGHs := List AV → Sl → Hep → SR
def hN (i : Nat) : DGH := fun v s h => .nx (s.set i (some v)) h
def hFK (s : Sl) (j : Nat) (v : AV) (r : R AV) : SR := match r with
  | .ok o h => setfK s j v (insAt h o) h
  | _ => .stuck
def hF (j : Nat) (fo : DE) : DGH := fun v s h => hFK s j v (fo s h)
def hC (g : DGH) (gs : DGHs) : DGHs := fun xs s h => match xs with
  | x :: r => (g x s h).then (gs r)
  | [] => .stuck
def hT (gs : DGHs) : DGH := fun v s h => match tupOf v with
  | some xs => gs xs s h
  | none => .stuck
def Pnx (W : Wd) (M : Md W) (Q : L2.St → Hp → Prop) (io : List Addr) (H : Hp) : SR → Prop
  | .nx s hp => ∀ io' H' σ', Ext W io H io' H' → Rl W io' hp H' → M.rel io' H' s σ' → Q σ' H'
  | _ => False
section
variable {W : Wd} {M : Md W} {E : WX} {X : Cx}
theorem Pnx.later {Q : L2.St → Hp → Prop} {io io1 : List Addr} {H H1 : Hp} {r : SR} (h : Pnx W M Q io H r) (e : Ext W io H io1 H1) : Pnx W M Q io1 H1 r := by
  cases r with
  | nx s hp => exact fun io' H' σ' e' => h io' H' σ' (e.trans e')
  | _ => exact h
end

section
variable {W : Wd} {M : Md W} {E : WX} {X : Cx}
end
end Dn
namespace PySem
open Sem (wp)
section
variable {prog : Program} {w : World} {A : Around} {E : Value → Shared → Prop} {s : Shared}
end
end PySem
namespace Dn
open PySem PySem.Spec PyProof.Rows L2

section
variable {W : Wd} {io : List Addr} {H : Hp} {n : Nat} {p : Addr} {od : Obj} {vs : List (Key × V)}
end
section
variable {W : Wd} {M : Md W} {E : WX} {X : Cx} {e : Expr} {f : DE} {p pos tpos : Pos} {elts : List Expr} {kk : Nat}
end
end Dn
namespace Dn
open PySem PySem.Spec PyProof.Rows L2

section
variable {W : Wd} {M : Md W} {E : WX} {X : Cx} {io : List Addr} {H H' : Hp} {hp : Hep}
end
end Dn
namespace Dn
open PySem L2
end Dn
namespace Dn
open PySem PySem.Spec PyProof.Rows L2

section
variable {W : Wd} {M : Md W} {E : WX} {X : Cx} {c a b : Expr} {ft fa fb : DT} {pos : Pos}
end
end Dn
namespace Dn
open PySem PySem.SeqAt
open AutoSeq1 (wpAny_loadPart')
open MeetsSeq MeetsSeq2 MeetsSeq3 SeqRoads2
section
variable {prog : Program} {w : World}
end
end Dn
namespace Dn
open PySem PySem.Spec PyProof.Rows L2
section
variable {W : Wd} {X : Cx}
end
end Dn
namespace Dn
open PySem PySem.Spec PyProof.Rows L2
section
variable {prog : Program} {w : World} {A : Around} {E : Value → Shared → Prop} {s : Shared}
end
section
variable {X : Cx} {pos : Pos}
end
section
variable {W : Wd} {M : Md W} {E : WX} {X : Cx}
end
section
variable {W : Wd} {M : Md W} {E : WX} {X : Cx} {tg iter : Expr} {body : List Stmt} {f : DI} {g : DGH} {fb : DS} {pos : Pos}
end
end Dn
namespace Dn
open PySem PySem.Spec PyProof.Rows L2
section
variable {P : Program} {w : World} {mg : Str → Option Value} {base : Heap} {W : Wd} {k n : Nat} {x : Str} {ps : List Str} {F : DF} {bs : Bs}
end
end Dn
namespace Dn
open PySem PySem.Spec PyProof.Rows L2
structure ClsAt (K : PySem.W.Frag) (C : Addr) (m : Str) (f : Addr) : Prop where
  rd : PySem.W.readsIn K C (.type "type") = true
  ga : PySem.W.specialIn K (.ref C) "__getattribute__" = some (some (.builtin "type.__getattribute__"))
  at_ : PySem.W.findCls K (.ref C) (.type "type") m = some (.val (.ref f))
  kp : PySem.W.keepIn K (.ref f) = true
section
variable {P : Program} {w : World} {mg : Str → Option Value} {base : Heap} {W : Wd} {k n t : Nat} {f : Addr} {fd : FuncData} {ps : List Str} {F : DF} {x : Str} {bs : Bs}
end
section
variable {W : Wd} {M : Md W} {E : WX} {X : Cx} {k j n m q t : Nat} {ps ks : List Str} {F : DF} {x c : Str} {p pos apos kpos : Pos} {e : Expr} {es : List Expr} {kws : List Keyword} {fa fk : DA} {ix : List Nat} {dfl : List AV} {bs : Bs}
end
end Dn
namespace Dn
open PySem PySem.Spec PyProof.Rows L2
end Dn
namespace Dn
open PySem PySem.Spec PyProof.Rows L2
section
variable {W : Wd} {X : Cx}
end
end Dn
namespace Dn
open PySem PySem.Spec PyProof.Rows L2
section
variable {prog : Program} {w : World} {A : Around} {E : Value → Shared → Prop} {s : Shared} {K : PySem.W.Frag} {x y C C2 : Addr} {ox oy : Obj} {od od2 : Option Obj}
end
section
variable {W : Wd} {M : Md W} {E : WX} {X : Cx} {k j n q t : Nat} {ps : List Str} {F : DF} {ct : CT}
end
section
variable {P : Program} {w : World} {mg : Str → Option Value} {base : Heap} {W : Wd} {x qual : Str} {params : Arguments} {body : List Stmt} {scope : Scope} {f : Addr} {fd : FuncData}
end
section
variable {W : Wd} {M : Md W} {E : WX} {X : Cx} {k j n m t : Nat} {ks : List Str} {F : DF} {x : Str} {p pos : Pos} {e : Expr} {es : List Expr} {fa : DA} {f : Addr}
end
end Dn
namespace Dn
open PySem PySem.Spec PyProof.Rows L2
section
variable {W : Wd} {M : Md W} {E : WX} {X : Cx} {o e f : Expr} {fo fk fx : DE} {pos apos cpos : Pos}
end
section
variable {W : Wd} {M : Md W} {E : WX} {X : Cx} {k j n m t : Nat} {F : DF} {x : Str} {p pos p2 : Pos} {e e2 : Expr} {es : List Expr} {fa : DA} {f : Addr}
end
section
variable {W : Wd} {X : Cx}
end
end Dn
namespace Dn
open PySem PySem.Spec PyProof.Rows L2
section
variable {W : Wd} {M : Md W} {E : WX} {X : Cx} {a b : Expr} {es : List Expr} {f g : DE} {pos : Pos}
end
end Dn
namespace Dn
open PySem PySem.Spec PyProof.Rows L2
section
variable {W : Wd} {M : Md W} {E : WX} {X : Cx} {k j n m t : Nat} {F : DF} {x : Str} {p pos p2 p3 : Pos} {e e2 : Expr} {es : List Expr} {fa : DA} {f : Addr} {fe : DE}
open PySem.Calls in
end
end Dn
namespace Dn
open PySem PySem.Spec PyProof.Rows L2

section
variable {W : Wd} {M : Md W} {E : WX} {X : Cx} {st : Stmt} {fd : DE} {f : DS}
end
end Dn
namespace Dn
open PySem PySem.Spec PyProof.Rows L2

section
variable {W : Wd} {X : Cx}
end

end Dn
namespace Dn
open PySem PySem.Spec PyProof.Rows L2

section
variable {M : Model} {A : Around} {E : Value → Shared → Prop} {s : Shared} {K : PySem.W.Frag} {x C L f : Addr} {h₀ : Heap} {m : Str → Option Value} {ox : Obj} {od : Option Obj} {Q : Value → Shared → Prop}
end
section
variable {W : Wd} {M : Md W} {E : WX} {X : Cx} {k j t : Nat} {ps : List Str} {F : DF} {pos : Pos} {o : Expr} {fo : DE}
end
end Dn
namespace Dn
open PySem PySem.Spec PyProof.Rows L2

section
variable {W : Wd} {M : Md W} {E : WX} {X : Cx} {pos : Pos}
inductive PDs (W : Wd) (M : Md W) (E : WX) (X : Cx) : List (Option Expr) → List Expr → List (DE × DE) → Prop
  | nil : PDs W M E X [] [] []
  | cons {k v : Expr} {ks : List (Option Expr)} {vs : List Expr} {fk fv : DE} {l : List (DE × DE)} : PE X k (tD W M E fk) → PE X v (tD W M E fv) → PDs W M E X ks vs l → PDs W M E X (some k :: ks) (v :: vs) ((fk, fv) :: l)
end
end Dn
namespace Dn
open PySem
end Dn
namespace Dn
open PySem PySem.Spec PyProof.Rows L2

section
variable {W : Wd} {M : Md W} {E : WX} {X : Cx} {k : Nat}
end
end Dn
namespace Dn
open PySem PySem.Spec PyProof.Rows L2
section
variable {W : Wd} {X : Cx}
end
end Dn
namespace Dn
open PySem PySem.Spec PyProof.Rows L2
section
variable {X : Cx} {W : Wd} {M : Md W} {E : WX} {j k t : Nat} {x : Str} {ps : List Str} {F : DF}
end
end Dn
namespace Dn
open PySem PySem.Spec PyProof.Rows L2
section
variable {W : Wd} {M : Md W} {E : WX} {X : Cx}
end
end Dn
namespace Dn
open PySem PySem.Spec PyProof.Rows L2
/-- a def's promise where nothing is being shown -/
def FnG (P : Program) (w : World) (K : PySem.W.Frag) (mg : Str → Option Value) (base : Heap) (CX : CXT) (k : Nat) (f : Addr) (fd : FuncData) (ps : List Str) (sp : Sp) : Prop :=
  (∀ vs H Q E, sp vs H Q E → vs.length = ps.length) ∧
    ∀ (A : Around) (outer : List Env) (s : Shared) (H : Hp) (args : Args) (us : List Value) (vs : List V) (Q : VK) (E : XK), A.guards = some [] → Room k A → Env0 P w K mg base A outer s H → BindsTo s fd args (ps.zip us) → Vals vs us →
      sp vs H Q E → codeAny (model P w) A (.call (.ref f) args) (CR CX outer P w H s Q E) s
theorem FnG.imp {P : Program} {w : World} {K : PySem.W.Frag} {mg : Str → Option Value} {base : Heap} {CX : CXT} {k : Nat} {f : Addr} {fd : FuncData} {ps : List Str} {sp sp' : Sp} (F : FnG P w K mg base CX k f fd ps sp)
    (h : ∀ vs H Q E, sp' vs H Q E → sp vs H Q E) : FnG P w K mg base CX k f fd ps sp' :=
  ⟨fun vs H Q E q => F.1 _ _ _ _ (h _ _ _ _ q), fun A outer s H args us vs Q E hg hr he hb hv hs => F.2 A outer s H args us vs Q E hg hr he hb hv (h _ _ _ _ hs)⟩
section
variable {P : Program} {w : World} {mg : Str → Option Value} {base : Heap} {W : Wd} {x qual : Str} {params : Arguments} {body : List Stmt} {scope : Scope} {dvs : List V} {kws : List (Str × V)} {f : Addr} {fd : FuncData}
end
section
variable {W : Wd} {M : Md W} {E : WX} {X : Cx} {k j n m q : Nat} {f : Addr} {fd : FuncData} {ps ks : List Str} {F : DF} {x : Str} {p pos : Pos} {e : Expr} {es : List Expr} {kws : List Keyword} {fa fk : DA} {ix : List Nat} {dfl : List AV} {bs : Bs}
def HasG (P : Program) (w : World) (mg : Str → Option Value) (base : Heap) (W : Wd) (k : Nat) (x : Str) (ps : List Str) (n : Nat) (F : DF) (bs : Bs) : Prop :=
  ∃ (a : Addr) (fd : FuncData), mg x = some (.ref a) ∧ PySem.W.keepIn W.K (.ref a) = true ∧ FnG P w W.K mg base (L2.CX P w) k a fd ps (spD W n F) ∧ ∀ b ∈ bs, BnD W fd ps b.1 b.2.1 b.2.2.1 b.2.2.2
end
/-- a def, with the ways it is called -/
def FnBG (P : Program) (w : World) (mg : Str → Option Value) (base : Heap) (W : Wd) (k : Nat) (f : Addr) (fd : FuncData) (ps : List Str) (n : Nat) (F : DF) (bs : Bs) : Prop :=
  PySem.W.keepIn W.K (.ref f) = true ∧ FnG P w W.K mg base (L2.CX P w) k f fd ps (spD W n F) ∧ ∀ b ∈ bs, BnD W fd ps b.1 b.2.1 b.2.2.1 b.2.2.2
theorem FnBG.has {P : Program} {w : World} {mg : Str → Option Value} {base : Heap} {W : Wd} {k : Nat} {f : Addr} {fd : FuncData} {ps : List Str} {n : Nat} {F : DF} {bs : Bs} {x : Str} (B : FnBG P w mg base W k f fd ps n F bs) (h : mg x = some (.ref f)) : HasG P w mg base W k x ps n F bs := ⟨f, fd, h, B.1, B.2.1, B.2.2⟩

/-- what is tracked at the beginning: the script, and the tables ts -/
def startH (ts : List Addr) (a : Addr) (ol : Option Obj) (xs : List V) : Hp := fun b =>
  if b ∈ ts then some (.tbl #[]) else if b = a then ol.map fun o => .frz o (.lst xs) else none
theorem law_run {P : Program} {w : World} {K : PySem.W.Frag} {mg mb : Str → Option Value} {CX : CXT} {fa a : Addr} {cs : List (Addr × Addr)} {s₁ : Shared} {vs : List Value} {ns : List Int}
    (KX : K.In s₁.heap) (hns : s₁.heap.Ns mainGlobals mg) (hb : s₁.heap.Ns builtinsNs mb) (hbb : ∀ x : Str, x ≠ "__name__" → mb x = bootBuiltins x) (hlim : s₁.heap.NoLimit) (hg : s₁.gens = #[])
    (hT : ∀ p ∈ cs, s₁.heap.get? p.2 = some { cls := .none, data := .fields #[] }) (nT : ∀ p ∈ cs, K.lookup p.2 = none) (C : ∀ p ∈ cs, PySem.W.CodeHd s₁.heap p.1 p.2)
    (hbm : ∃ (bm : Addr) (ob : Obj), mg "__builtins__" = some (.ref bm) ∧ bm ≠ builtinsNs ∧ s₁.heap.get? bm = some ob ∧ ob.cls = .type "module" ∧ ob.dict = some builtinsNs ∧ ob.data = .plain)
    (ha : s₁.heap.get? a = some { cls := .type "list", data := .seq vs.toArray }) (hi : IntsAre vs ns) (hl : ns.length ≤ sizeLine)
    (run : ∀ (base : Heap) (H : Hp), K.In base → base.Ns mainGlobals mg → (∀ p ∈ cs, LamX.TabB base mg p.1 p.2) → (∀ p ∈ cs, H p.2 = some (.tbl #[])) → (∀ b, H b = none ∨ (b ∈ cs.map (·.2) ∧ H b = some (.tbl #[])) ∨ ∃ o xs, H b = some (.frz o (.lst xs))) → SqL K H a (ns.map V.int) → Env0 P w K mg base callerA [] s₁ H →
      codeAny (model P w) callerA (.call (.ref fa) ⟨[.ref a], []⟩) (CR CX [] P w H s₁ (fun v _ => v = .bl true) fun _ _ _ => False) s₁)
    (hCX : ∀ H e s', CX [] H s₁ (fun _ _ _ => False) e s' → False) :
    codeAny (model P w) callerA (.call (.ref fa) ⟨[.ref a], []⟩) (fun r s' => r = .ok (.ret (.bool true)) ∧ OldK s₁.heap s'.heap ∧ s'.os = s₁.os ∧ AllBare s'.gens) s₁ := by
  have rv := vals_ints hi
  have tabs : ∀ b ∈ cs.map (·.2), s₁.heap.get? b = some { cls := .none, data := .fields #[] } := fun b m => by
    obtain ⟨p, hp, rfl⟩ := List.mem_map.mp m
    exact hT p hp
  have aT : a ∉ cs.map (·.2) := fun m => by
    have z := ha.symm.trans (tabs a m)
    have z2 : Data.seq vs.toArray _ = Data.fields #[] := congrArg Obj.data (Option.some.inj z)
    cases z2
  -- the script's own entry
  obtain ⟨ol, hol, hok0⟩ : ∃ ol : Option Obj, (ol = none → ∃ o, K.lookup a = some o) ∧ (∀ o, ol = some o → o = { cls := .type "list", data := .seq vs.toArray } ∧ K.lookup a = none) := by
    cases e : K.lookup a with
    | none => exact ⟨some { cls := .type "list", data := .seq vs.toArray }, (fun z => by cases z), fun o z => ⟨(Option.some.inj z).symm, rfl⟩⟩
    | some o => exact ⟨none, (fun _ => ⟨o, rfl⟩), fun o z => by cases z⟩
  have at_t : ∀ b ∈ cs.map (·.2), startH (cs.map (·.2)) a ol (ns.map V.int) b = some (.tbl #[]) := fun b m => if_pos m
  have at_n : ∀ b, b ∉ cs.map (·.2) → b ≠ a → startH (cs.map (·.2)) a ol (ns.map V.int) b = none := fun b m n => (if_neg m).trans (if_neg n)
  have at_a : startH (cs.map (·.2)) a ol (ns.map V.int) a = ol.map fun o => .frz o (.lst (ns.map V.int)) := (if_neg aT).trans (if_pos rfl)
  generalize hH : startH (cs.map (·.2)) a ol (ns.map V.int) = H at at_t at_n at_a
  have cases_ : ∀ b u, H b = some u → (b ∈ cs.map (·.2) ∧ u = .tbl #[]) ∨ (b = a ∧ ∃ o, ol = some o ∧ u = .frz o (.lst (ns.map V.int))) := fun b u e => by
    by_cases m : b ∈ cs.map (·.2)
    · exact .inl ⟨m, (Option.some.inj ((at_t b m).symm.trans e)).symm⟩
    · by_cases n : b = a
      · subst n
        rw [at_a] at e
        obtain ⟨o, eo, eu⟩ := Option.map_eq_some_iff.mp e
        exact .inr ⟨rfl, o, eo, eu.symm⟩
      · rw [at_n b m n] at e
        cases e
  have hOk : HOk P w H s₁.heap := fun b u e => by
    rcases cases_ b u e with ⟨m, rfl⟩ | ⟨rfl, o, eo, rfl⟩
    · exact tabs b m
    · obtain ⟨rfl, _⟩ := hok0 o eo
      exact ⟨ha, by rw [List.length_map]; exact hl, vs, _, rv, ha⟩
  have base_of : ∀ {b : Addr} {o : Obj}, s₁.heap.get? b = some o → H b = none → (hidT s₁.heap H).get? b = some o := fun e n => hidT_get e n
  have untr : ∀ {b : Addr} {o : Obj}, s₁.heap.get? b = some o → (∀ ws n, o.data ≠ .seq ws n) → o.data ≠ .fields #[] → H b = none := fun {b o} e h1 h2 => by
    cases q : H b with
    | none => rfl
    | some u =>
      exfalso
      rcases cases_ b u q with ⟨m, _⟩ | ⟨rfl, _⟩
      · have z := e.symm.trans (tabs b m)
        rw [Option.some.inj z] at h2
        exact h2 rfl
      · have z := e.symm.trans ha
        rw [Option.some.inj z] at h1
        exact h1 _ _ rfl
  have nsB : ∀ {b : Addr} {m : Str → Option Value}, s₁.heap.Ns b m → (hidT s₁.heap H).Ns b m := fun {b m} ⟨o, es, ep, e, d, r⟩ =>
    ⟨o, es, ep, base_of e (untr e (by intro ws n z; rw [d] at z; cases z) (by intro z; rw [d] at z; cases z)), d, r⟩
  have kB : K.In (hidT s₁.heap H) := fun b o e => base_of (KX b o e) (by
    cases q : H b with
    | none => rfl
    | some u =>
      exfalso
      rcases cases_ b u q with ⟨m, _⟩ | ⟨rfl, o2, eo, _⟩
      · obtain ⟨p, hp, rfl⟩ := List.mem_map.mp m
        rw [nT p hp] at e
        cases e
      · rw [(hok0 o2 eo).2] at e
        cases e)
  have TB : ∀ p ∈ cs, LamX.TabB (hidT s₁.heap H) mg p.1 p.2 := fun p hp => by
    refine ⟨?_, ?_, fun z => ?_⟩
    · obtain ⟨o, us, file, tf, flags, tg, inF, text, tt, e1, r1, r2, r3, more⟩ := C p hp
      refine ⟨o, us, file, tf, flags, tg, inF, text, tt, base_of e1 (untr e1 (by intro ws n z; rw [r2] at z; cases z) fun z => ?_), r1, r2, r3, more⟩
      rw [r2] at z
      cases z
      simp at r3
    · obtain ⟨bm, ob, b1, b2, b3, b4, b5, b6⟩ := hbm
      have pl : ∀ d, ob.data = d → d = .plain := fun d z => z.symm.trans b6
      refine ⟨bm, ob, b1, b2, fun q => ?_, fun q => ?_, base_of b3 (untr b3 (fun ws n z => by cases pl _ z) fun z => by cases pl _ z), b4, b5, b6⟩
      · obtain ⟨o, es, ep, e, hd, _⟩ := hns
        rw [q] at b3
        rw [Option.some.inj (e.symm.trans b3)] at hd
        cases pl _ hd
      · rw [q] at b3
        rw [Option.some.inj (b3.symm.trans (hT p hp))] at b6
        cases b6
    · obtain ⟨o, es, ep, e, hd, _⟩ := hns
      rw [z] at e
      rw [Option.some.inj (e.symm.trans (hT p hp))] at hd
      cases hd
  have hM : L2.Mod K mg (hidT s₁.heap H) := ⟨kB, nsB hns, ⟨mb, nsB hb, hbb⟩, let ⟨mc, h1, h2⟩ := hlim; ⟨mc, nsB h1, h2⟩⟩
  have env : Env0 P w K mg (hidT s₁.heap H) callerA [] s₁ H := ⟨rfl, hM, fun b o e => of_hidT e, Nat.le_of_eq (hidT_size _ _), trivial, (fun b z => absurd (show b ∈ ([] : List Addr) from z) (by simp)), hOk, .of_eq hg⟩
  have script : SqL K H a (ns.map V.int) := by
    cases eo : ol with
    | none =>
      obtain ⟨o, e⟩ := hol eo
      have z := (KX a o e).symm.trans ha
      rw [Option.some.inj z] at e
      exact .inr ⟨_, vs.toArray, _, e, rfl, rfl, rfl, by rw [List.size_toArray, hi.length]; exact hl, by simpa using rv⟩
    | some o => exact .inl (.inr ⟨o, by rw [at_a, eo]; rfl⟩)
  have only : ∀ b, H b = none ∨ (b ∈ cs.map (·.2) ∧ H b = some (.tbl #[])) ∨ ∃ o xs, H b = some (.frz o (.lst xs)) := fun b => by
    cases q : H b with
    | none => exact .inl rfl
    | some u =>
      rcases cases_ b u q with ⟨m, rfl⟩ | ⟨_, o, _, rfl⟩
      · exact .inr (.inl ⟨m, rfl⟩)
      · exact .inr (.inr ⟨_, _, rfl⟩)
  refine codeAny_mono (run _ H kB (nsB hns) TB (fun p hp => at_t _ (List.mem_map.mpr ⟨p, hp, rfl⟩)) only script env) fun r s' h => ?_
  cases r with
  | error e => exact (hCX H e s' h).elim
  | ok fl =>
    cases fl with
    | next => exact h.elim
    | brk => exact h.elim
    | cont => exact h.elim
    | ret u =>
      obtain ⟨v, H', os, bare, un, hok', r', q⟩ := h
      obtain rfl : v = .bl true := q
      obtain rfl : u = Value.bool true := r'
      have kept : ∀ b o, b ∉ cs.map (·.2) → s₁.heap.get? b = some o → s'.heap.get? b = some o := fun b o nb e => by
        cases q : H b with
        | none => exact un.keep b o e q (fun z => absurd (show b ∈ ([] : List Addr) from z) (by simp)) (by simp)
        | some u =>
          rcases cases_ b u q with ⟨m, _⟩ | ⟨rfl, o2, eo, rfl⟩
          · exact absurd m nb
          · have z1 := (hOk _ _ q).1
            have z2 := (hok' _ _ (un.frzs _ _ _ q)).1
            rw [Option.some.inj (e.symm.trans z1)]
            exact z2
      have more : ∀ p ∈ cs, ∃ us : Array Value, s'.heap.get? p.2 = some { cls := .none, data := .fields us } := fun p hp => by
        obtain ⟨us, z⟩ := un.tbls p.2 #[] (at_t _ (List.mem_map.mpr ⟨p, hp, rfl⟩))
        exact ⟨_, hok' p.2 _ z⟩
      refine ⟨rfl, ⟨fun b o e => ?_, fun b o e => ?_⟩, os, bare⟩
      · by_cases m : b ∈ cs.map (·.2)
        · obtain ⟨p, hp, rfl⟩ := List.mem_map.mp m
          obtain ⟨us, hm⟩ := more p hp
          obtain rfl := Option.some.inj (e.symm.trans (hT p hp))
          exact .inr (.inl ⟨((C p hp).tab (hT p hp)).isCodeTable, rfl, #[], us, rfl, by rw [Array.empty_append]; exact hm⟩)
        · exact .inl (kept b o m e)
      · by_cases m : b ∈ cs.map (·.2)
        · obtain ⟨p, hp, rfl⟩ := List.mem_map.mp m
          obtain ⟨us, hm⟩ := more p hp
          exact ⟨_, hm⟩
        · exact ⟨o, kept b o m e⟩
end Dn
namespace Dn
open PySem PySem.Spec PyProof.Rows L2
section
variable {W : Wd} {M : Md W} {E : WX} {X : Cx} {e : Expr} {es : List Expr} {f : DE} {fa : DA}
end
end Dn
namespace Dn
open PySem PySem.Spec PyProof.Rows L2
theorem kv_vals {κ : Type} : ∀ {kvs : List (κ × V)} {vs : List (κ × Value)}, KV kvs vs → Vals (kvs.map (·.2)) (vs.map (·.2))
  | _, _, .nil => .nil
  | _, _, .cons r t => .cons r.2 (kv_vals t)
section
variable {X : Cx} {e o : Expr} {te td ty : TE} {p apos cpos pos : Pos}
end
section
variable {W : Wd} {M : Md W} {E : WX} {X : Cx} {o e : Expr} {fo fe : DE} {p apos cpos pos : Pos}
end
end Dn
namespace Dn
open PySem PySem.Spec PyProof.Rows L2
section
variable {W : Wd} {M : Md W} {E : WX} {X : Cx} {tg : Expr}
end
end Dn
namespace Dn
open PySem PySem.Spec PyProof.Rows L2

section
variable {X : Cx} {pins : List (Addr × Obj)} {σ : L2.St} {H HZ : Hp} {s s1 : Shared} {W : Wd}
open LamX
end
section
variable {X : Cx} {W : Wd} {M : Md W} {E : WX}
open LamX
end
end Dn
namespace Dn
open PySem PySem.Spec PyProof.Rows L2
/-- the slots of an except suite, over B -/
def exG {W : Wd} (B : Md W) (i t : Nat) (fs : List (Nat × AV)) (a : Addr) (d : Option Addr) : Md W where
  rel := fun io H as σ => (as.length = σ.length ∧ σ[i]? = some (some (.ref a)) ∧ as[i]? = some (some (.exn t fs))) ∧ B.rel io H (as.set i none) (σ.set i none) ∧ RXf W io H fs d
  mono := fun e h => ⟨h.1, B.mono e h.2.1, h.2.2.mono e⟩
  var := fun {io H as σ j v} h q hn => by
    by_cases hj : j = i
    · subst hj
      rw [h.1.2.2] at q
      cases q
      exact absurd rfl (hn t fs)
    · obtain ⟨x, e, r⟩ := B.var h.2.1 (by rw [List.getElem?_set_ne (Ne.symm hj)]; exact q) hn
      rw [List.getElem?_set_ne (Ne.symm hj)] at e
      exact ⟨x, e, r⟩
  ok := fun j => j ≠ i ∧ B.ok j
  set := fun {io H as σ j v x} h r hj => ⟨⟨by simp [h.1.1], by rw [List.getElem?_set_ne hj.1]; exact h.1.2.1, by rw [List.getElem?_set_ne hj.1]; exact h.1.2.2⟩, by
    rw [List.set_comm _ _ hj.1, List.set_comm _ _ hj.1]
    exact B.set h.2.1 r hj.2, h.2.2⟩
  wipe := fun {io H as σ j} h hj => ⟨⟨by simp [h.1.1], by rw [List.getElem?_set_ne hj.1]; exact h.1.2.1, by rw [List.getElem?_set_ne hj.1]; exact h.1.2.2⟩, by
    rw [List.set_comm _ _ hj.1, List.set_comm _ _ hj.1]
    exact B.wipe h.2.1 hj.2, h.2.2⟩
section
variable {W : Wd} {B : Md W} {X : Cx} {T : XT}
/-- the clauses, read -/
inductive HdG {W : Wd} (B : Md W) (X : Cx) (T : XT) : List ExceptHandler → Hds → Prop
  | nil : HdG B X T [] []
  | only {x : Str} {c : Nat} {f : DS} {b₀ : Stmt} {suite : List Stmt} {np pos : Pos} {hds : List ExceptHandler} {hs : Hds} (hc : Names X x (.ref (W.cl c))) (h1 : T.n ≤ c) (h2 : c < T.m)
      (hsu : ∀ (a : Addr) (oe : Obj) (pn : List (Addr × Obj)), PSs (X.suite a ((a, oe) :: pn)) (b₀ :: suite) (tS W B E0x f)) (r : HdG B X T hds hs) :
      HdG B X T (.ExceptHandler (some (.Name x np)) none (b₀ :: suite) pos :: hds) ((c, none, f) :: hs)
  | as {x n : Str} {i c : Nat} {f : DS} {b₀ : Stmt} {suite : List Stmt} {np pos : Pos} {hds : List ExceptHandler} {hs : Hds} (hc : Names X x (.ref (W.cl c))) (h1 : T.n ≤ c) (h2 : c < T.m) (hB : B.ok i) (hN : X.N.Nodup) (hi : X.N[i]? = some n) (hl : X.env.kindOf n = some .local)
      (hsu : ∀ (a : Addr) (oe : Obj) (pn : List (Addr × Obj)) (t : Nat) (fs : List (Nat × AV)) (d : Option Addr), T.n ≤ t → t < T.m → Zc (.ref (W.cl t)) d oe → (∃ vs, oe.data = .fields vs) → PSs (X.suite a ((a, oe) :: pn)) (b₀ :: suite) (tS W (exG B i t fs a d) E0x f)) (r : HdG B X T hds hs) :
      HdG B X T (.ExceptHandler (some (.Name x np)) (some n) (b₀ :: suite) pos :: hds) ((c, some i, f) :: hs)
end
section
variable {W : Wd} {B : Md W} {X : Cx} {T : XT} {E : WX} {a : Addr} {oe : Obj} {pn : List (Addr × Obj)} {i j t : Nat} {fs : List (Nat × AV)} {d : Option Addr} {x nm : Str} {p pos : Pos}
def xoB (cs : List Str) (T : XT) (c : Nat) (K : PySem.W.Frag) : Bool := allN (T.m - T.n) fun i => decide (PySem.W.kitOne K (.ref (clOf K cs (T.n + i))) (.ref (clOf K cs c)) = some (T.sub (T.n + i) c))
end
end Dn
namespace Dn
open PySem PySem.Spec PyProof.Rows L2
/-- the code object of a def -/
def codF (K : PySem.W.Frag) (f : Addr) : Addr := match K.lookup f with
  | some ⟨_, _, .func fd, _⟩ => (match fd.code with
    | .ref c => c
    | _ => 0)
  | _ => 0
/-- the table of a code object -/
def tabF (K : PySem.W.Frag) (c : Addr) : Addr := match K.lookup c with
  | some ⟨_, _, .fields vs, _⟩ => (match (vs[11]? : Option Value) with
    | some (.ref P) => P
    | _ => 0)
  | _ => 0
def isFdB (K : PySem.W.Frag) (f : Addr) : Bool := match K.lookup f with
  | some ⟨_, _, .func fd, _⟩ => (match fd.code with
    | .ref _ => true
    | _ => false)
  | _ => false
def isCodeB (o : Option Obj) : Bool := match o with
  | some ⟨.type "code", _, .fields vs, _⟩ => (match (vs[11]? : Option Value) with
    | some (.ref _) => (match vs.getD 18 .none, vs.getD 7 .none, vs.getD 9 .none, vs.getD 10 .none with
      | .str _ _, .int _ _, .bool _, .int _ _ => true
      | _, _, _, _ => false)
    | _ => false)
  | _ => false
def isNilB (o : Option Obj) : Bool := match o with
  | some ⟨.none, none, .fields ⟨[]⟩, ⟨[]⟩⟩ => true
  | _ => false
def lamB (g : Addr → Option Obj) (K : PySem.W.Frag) (f : Addr) : Bool :=
  isFdB K f && (isCodeB (K.lookup (codF K f)) && (isNilB (g (tabF K (codF K f))) && ((K.lookup (tabF K (codF K f))).isNone && decide (codF K f ≠ tabF K (codF K f)))))
/-- a def that makes lambdas: its code object and its table, which is empty -/
structure LamAt (K : PySem.W.Frag) (h : Heap) (f : Addr) : Prop where
  fd : ∃ oc od fd osl, K.lookup f = some ⟨oc, od, .func fd, osl⟩ ∧ fd.code = .ref (codF K f)
  cd : PySem.W.CodeHd h (codF K f) (tabF K (codF K f))
  tb : h.get? (tabF K (codF K f)) = some { cls := .none, data := .fields #[] }
  nt : K.lookup (tabF K (codF K f)) = none
theorem isNil_ok {o : Option Obj} (h : isNilB o = true) : o = some { cls := .none, data := .fields #[] } := by
  unfold isNilB at h
  split at h
  · rfl
  · cases h
theorem isFd_ok {K : PySem.W.Frag} {f : Addr} (h : isFdB K f = true) : ∃ oc od fd osl, K.lookup f = some ⟨oc, od, .func fd, osl⟩ ∧ fd.code = .ref (codF K f) := by
  unfold isFdB at h
  unfold codF
  split at h
  · rename_i oc od fd osl e
    rw [e]
    refine ⟨oc, od, fd, osl, rfl, ?_⟩
    split at h
    · rename_i c e2
      simp only [e2]
    · cases h
  · cases h
theorem code_ok {K : PySem.W.Frag} {h : Heap} {c : Addr} (X : K.In h) (b : isCodeB (K.lookup c) = true) (n : c ≠ tabF K c) : PySem.W.CodeHd h c (tabF K c) := by
  cases e : K.lookup c with
  | none =>
    rw [e] at b
    cases b
  | some o =>
    rw [e] at b
    have ho := X c o e
    have et : tabF K c = match (some o : Option Obj) with
      | some ⟨_, _, .fields vs, _⟩ => (match (vs[11]? : Option Value) with
        | some (.ref P) => P
        | _ => 0)
      | _ => 0 := by
      unfold tabF
      rw [e]
    unfold isCodeB at b
    split at b
    · rename_i od vs osl eo
      cases eo
      split at b
      · rename_i P e11
        have eP : tabF K c = P := by
          rw [et]
          simp only [e11]
        rw [eP] at n ⊢
        split at b
        · rename_i a1 a2 a3 a4 a5 a6 a7 e18 e7 e9 e10
          refine ⟨_, vs, _, _, _, _, _, _, _, ho, rfl, rfl, e11, ?_, e18, e7, e9, e10, n⟩
          rw [Array.getD_eq_getD_getElem?, e11]
          rfl
        · cases b
      · cases b
    · cases b
theorem lamB_ok {K : PySem.W.Frag} {h : Heap} {f : Addr} (X : K.In h) (b : lamB h.get? K f = true) : LamAt K h f := by
  unfold lamB at b
  obtain ⟨b1, b⟩ := He.ba b
  obtain ⟨b2, b⟩ := He.ba b
  obtain ⟨b3, b⟩ := He.ba b
  obtain ⟨b4, b5⟩ := He.ba b
  exact ⟨isFd_ok b1, code_ok X b2 (of_decide_eq_true b5), isNil_ok b3, Option.isNone_iff_eq_none.mp b4⟩
theorem LamAt.keeps {K : PySem.W.Frag} {h h' : Heap} {f : Addr} (l : LamAt K h f) (k : ∀ b o, h.get? b = some o → h'.get? b = some o) : LamAt K h' f := ⟨l.fd, l.cd.keeps k, k _ _ l.tb, l.nt⟩
abbrev csOf (ls : List Pth) (K : PySem.W.Frag) : List (Addr × Addr) := ls.map fun l => (codF K (l K), tabF K (codF K (l K)))
theorem csOf_tab {ls : List Pth} {K : PySem.W.Frag} {h : Heap} (l : ∀ p ∈ ls, LamAt K h (p K)) : (∀ p ∈ csOf ls K, h.get? p.2 = some { cls := .none, data := .fields #[] }) ∧ (∀ p ∈ csOf ls K, K.lookup p.2 = none) ∧ ∀ p ∈ csOf ls K, PySem.W.CodeHd h p.1 p.2 := by
  refine ⟨fun p hp => ?_, fun p hp => ?_, fun p hp => ?_⟩
  · obtain ⟨q, hq, rfl⟩ := List.mem_map.mp hp
    exact (l q hq).tb
  · obtain ⟨q, hq, rfl⟩ := List.mem_map.mp hp
    exact (l q hq).nt
  · obtain ⟨q, hq, rfl⟩ := List.mem_map.mp hp
    exact (l q hq).cd
def obsT (as : List Addr) (fa : List He.Fa) (fn : List DefF) (xt : List (PySem.W.Frag → Bool)) (ls : List Pth) (g : Addr → Option Obj) : AlF × Bool := (obsF fa fn xt (He.frG g as), ls.all fun l => lamB g (He.frG g as) (l (He.frG g as)))
def hookT (as : List Addr) (fa : List He.Fa) (fn : List DefF) (xt : List (PySem.W.Frag → Bool)) (ls : List Pth) : PySem.W.Hook where
  α := AlF × Bool
  obs := fun s => obsT as fa fn xt ls s.heap.get?
  val := fun _ => (valF fn, true)
  says := fun _ h => ∃ K : PySem.W.Frag, K.In h ∧ SaysF fa fn xt K ∧ ∀ l ∈ ls, LamAt K h (l K)
  of := fun _ s e => ⟨_, He.frG_in, congrArg (fun z : AlF × Bool => z.1) e, fun l hl => lamB_ok He.frG_in (List.all_eq_true.mp (congrArg (fun z : AlF × Bool => z.2) e) l hl)⟩
  keeps := fun _ _ _ ⟨K, hK, c, l⟩ k => ⟨K, PySem.W.Frag.In.keeps hK k, c, fun p hp => (l p hp).keeps k⟩
theorem obsT_eq {as : List Addr} {fa : List He.Fa} {fn : List DefF} {xt : List (PySem.W.Frag → Bool)} {ls : List Pth} {g : Addr → Option Obj} {s : Shared} (h : ∀ a, g a = s.heap.get? a) : obsT as fa fn xt ls g = (hookT as fa fn xt ls).obs s := by
  have e : g = s.heap.get? := funext h
  rw [e] <;> rfl
def OnlyT (cs : List (Addr × Addr)) (H : Hp) : Prop := ∀ b, H b = none ∨ (b ∈ cs.map (·.2) ∧ H b = some (.tbl #[])) ∨ ∃ o xs, H b = some (.frz o (.lst xs))
def spLT (cs : List (Addr × Addr)) (K : PySem.W.Frag) : Sp := fun vs H Q _ => ∃ (a : Addr) (ns : List Int), vs = [.ref a] ∧ ns.length ≤ 63 ∧ OnlyT cs H ∧ (∀ p ∈ cs, H p.2 = some (.tbl #[])) ∧ SqL K H a (ns.map V.int) ∧ ∀ H', Q (.bl true) H'
theorem walk_ofT {l : PySem.W.OpenLaw} {n k : Nat} {q : Program} {loose : List Str} {XP : (Str → Option Value) → Heap → Prop} {YP : World → Heap → Prop} {d : DefRec} {x : Str}
    (hn : l.most = some n) (hn2 : n ≤ sizeLine) (hdf : d.params.defaults = []) (hr : Room k callerA)
    (F : ∀ (w : World) (mg : Str → Option Value) (fa : Addr) (h : Heap), YP w h → h.Ns mainGlobals mg → mg d.name = some (.ref fa) →
      ∃ (K : PySem.W.Frag) (fd : FuncData) (sp : Sp) (cs : List (Addr × Addr)), K.In h ∧ (∀ p ∈ cs, h.get? p.2 = some { cls := .none, data := .fields #[] }) ∧ (∀ p ∈ cs, K.lookup p.2 = none) ∧ (∀ p ∈ cs, PySem.W.CodeHd h p.1 p.2) ∧ (∀ (s : Shared) (u : Value), BindsTo s fd ⟨[u], []⟩ [(x, u)]) ∧
        (∀ (H : Hp) (a : Addr) (ns : List Int), ns.length ≤ n → OnlyT cs H → (∀ p ∈ cs, H p.2 = some (.tbl #[])) → SqL K H a (ns.map V.int) → sp [.ref a] H (fun v _ => v = .bl true) fun _ _ _ => False) ∧
        ∀ base : Heap, K.In base → base.Ns mainGlobals mg → (∀ p ∈ cs, LamX.TabB base mg p.1 p.2) → FnG l.prog w K mg base (L2.CX l.prog w) k fa fd [x] sp) :
    PySem.W.WalkO q loose XP YP l.row.toRowW d [] (fun f vs => PySem.call f vs) := by
  refine Att.attach_callB hn hdf fun w s₀ s₁ mg mb fa o pm cd doc a vs ns G Y ho hd hcd hmg hobj hints hlen hbits hg => ?_
  obtain ⟨K, fd, sp, cs, KX, hT, nT, C, hb, hsp, hF⟩ := F w mg fa _ Y G.T.g hmg
  exact law_run (cs := cs) KX G.T.g G.T.b G.T.builtins G.T.nolimit hg hT nT C G.T.bmain hobj hints (Nat.le_trans hlen hn2) (fun base H k1 k2 k3 hC hO hS e0 =>
    (hF base k1 k2 k3).2 callerA [] s₁ H ⟨[.ref a], []⟩ [.ref a] [.ref a] _ _ rfl hr e0 (hb s₁ (.ref a)) (.cons rfl .nil) (hsp H a ns hlen hO hC hS)) fun H e s' ⟨_, _, _, _, _, _, _, _, _, _, _, _, z⟩ => z
end Dn
namespace Dn
open PySem PySem.Spec PyProof.Rows L2
section
variable {W : Wd} {E : WX} {X : Cx} {T : XT} {t i : Nat} {fs : List (Nat × AV)} {a : Addr} {oe : Obj} {d : Option Addr} {pn : List (Addr × Obj)} {x : Str} {p pos : Pos} {B : Md W}
end
end Dn
namespace Dn
open PySem PySem.Spec PyProof.Rows L2
structure ClsM (K : PySem.W.Frag) (C : Addr) (m : Str) (f : Addr) : Prop where
  rd : ClX.CRead K C (.type "type")
  ex : ∃ p, PySem.W.findCls K (.ref C) (.type "type") m = some (.get (.builtin "classmethod.__get__") (.ref p) .none (.ref C)) ∧ ∃ rest, PySem.W.recIn K p "classmethod" = some (.ref f :: rest)
section
variable {P : Program} {w : World} {mg : Str → Option Value} {base : Heap} {W : Wd} {k n t : Nat} {f : Addr} {fd : FuncData} {ps : List Str} {F : DF} {x : Str} {bs : Bs}
end
section
variable {W : Wd} {M : Md W} {E : WX} {X : Cx} {k j n m q t : Nat} {ps : List Str} {F : DF} {x c : Str} {p pos apos : Pos} {e : Expr} {es : List Expr} {fa : DA} {ix : List Nat} {dfl : List AV} {bs : Bs}
end
end Dn
namespace Dn
open PySem PySem.Spec PyProof.Rows L2
end Dn
namespace Dn
open PySem PySem.Spec PyProof.Rows L2
section
variable {W : Wd} {M : Md W} {E : WX} {X : Cx} {x : Str} {p pos : Pos} {e : Expr} {es : List Expr} {kws : List Keyword} {fa fk : DA}
end
end Dn
namespace Dn
open PySem PySem.Spec PyProof.Rows L2
section
variable {W : Wd} {M : Md W} {E : WX} {X : Cx} {k j n m q t i : Nat} {ps ks : List Str} {F : DF} {x y : Str} {p pos : Pos} {e : Expr} {es : List Expr} {kws : List Keyword} {fa fk : DA} {ix : List Nat} {dfl : List AV} {bs : Bs}
end
end Dn
namespace Dn
open PySem PySem.Spec PyProof.Rows L2
section
variable {W : Wd} {M : Md W} {E : WX} {X : Cx} {pos : Pos}
end
end Dn
namespace Dn
open PySem PySem.Spec PyProof.Rows L2
section
variable {h : Hep}
end
end Dn
namespace Dn
open PySem PySem.Spec PyProof.Rows L2
section
variable {W : Wd} {M : Md W} {E : WX} {X : Cx} {x : Str} {l : List (Str × Int)} {e f : Expr} {fk fx : DE} {p apos cpos : Pos}
end
end Dn
namespace Dn
open PySem PySem.Spec PyProof.Rows L2
end Dn
namespace Dn
open PySem PySem.Spec PyProof.Rows L2
end Dn
namespace Dn
open PySem PySem.Spec PyProof.Rows L2
def spW (W : Wd) (n m : Nat) (f : DF) : Sp := fun vs H Q E => ∃ io hp as rs, as.length = n ∧ rs.length ≤ m ∧ Rl W io hp H ∧ RVs W io H (as ++ rs) vs ∧ Pfn W E Q io H (f (as ++ [.tup rs]) hp)
section
variable {P : Program} {w : World} {mg : Str → Option Value} {base : Heap} {W : Wd} {x qual : Str} {params : Arguments} {body : List Stmt} {scope : Scope} {f : Addr} {fd : FuncData}
def FnW (P : Program) (w : World) (mg : Str → Option Value) (base : Heap) (W : Wd) (k : Nat) (f : Addr) (n : Nat) (F : DF) : Prop := FnR P w W.K mg base (L2.CX P w) k f (spW W n 4 F)
end
section
variable {W : Wd} {M : Md W} {E : WX} {X : Cx} {k j n i t : Nat} {F : DF} {x : Str} {p pos apos : Pos} {e o : Expr} {fo : DE} {g : Addr}
end
end Dn
namespace Dn
open PySem PySem.Spec PyProof.Rows L2
/-- what is looked at of a method that is taken as a value -/
def bmB (C m : Str) (p : Pth) (K : PySem.W.Frag) : Bool := methB C m p K && (He.eqO (PySem.W.specialIn K (.ref (p K)) "__get__") (some (some (.builtin "function.__get__"))) && (decide (PySem.W.takesIn K (.ref (p K)) = some false) && (!(PySem.W.copiedNames.contains m) && PySem.W.fnIn K (p K))))
end Dn
namespace Dn
open PySem PySem.Spec PyProof.Rows L2
end Dn
namespace Dn
open PySem PySem.Spec PyProof.Rows L2
section
variable {X : Cx} {d : Addr} {es : Array DictEntry} {n : Nat} {l : List (Str × List Str)}
end
section
variable {W : Wd} {M : Md W} {E : WX} {X : Cx} {x : Str} {l : List (Str × List Str)} {e : Expr} {fx : DE} {p pos : Pos}
end
end Dn
namespace ZS
open PySem PySem.Spec PyProof.Rows
open PySem.Sem (wp)
section
variable {prog : Program} {w : World} {A : Around} {E : Value → Shared → Prop} {s : Shared}
end
section
variable {prog : Program} {w : World} {A : Around} {E : Value → Shared → Prop} {s : Shared}
end
section
variable {M : Model} {A : Around} {E : Value → Shared → Prop} {s : Shared} {env : Env}
end
open L2
end ZS
namespace Dn
open PySem PySem.Spec PyProof.Rows L2
section
variable {W : Wd} {M : Md W} {E : WX} {X : Cx} {e e2 : Expr} {kws : List Keyword} {fa fk : DA} {p pos tpos : Pos} {elts : List Expr} {kk : Nat}
end
end Dn
namespace Dn
open PySem PySem.Spec PyProof.Rows L2
structure MCs (X : Cx) (cs : List MatchCase) (t : Str → TS) : Prop where
  run : ∀ (first : Bool) (pins : List (Addr × Obj)) (s : Shared) (σ : L2.St) (H : Hp) (D : Ends) (z : Str) (tk : Tok), Inv X pins σ H s → t z D σ H → wpAny (model X.prog X.w) X.A (matchCases cs X.env (.str z tk) first) (SP X pins D) X.xe s
section
variable {X : Cx} {body : List Stmt} {rest : List MatchCase} {p p1 p2 pos : Pos} {x : Str} {j : Nat} {t : TS} {u : Str → TS} {e : Expr}
end
section
variable {W : Wd} {M : Md W} {E : WX} {X : Cx} {body : List Stmt} {rest : List MatchCase} {p p1 p2 pos : Pos} {x : Str} {j : Nat} {fb d : DS} {cs : List (Str × DS)} {e : Expr} {f : DE}
end
end Dn
namespace Dn
open PySem PySem.Spec PyProof.Rows L2
section
variable {W : Wd} {M : Md W} {E : WX} {X : Cx} {a b : Expr} {es : List Expr} {f g : DE} {pos : Pos}
end
section
variable {W : Wd} {M : Md W} {E : WX} {X : Cx} {k j n q : Nat} {ps ks : List Str} {F : DF} {x : Str} {p pos : Pos} {kws : List Keyword} {fk : DA} {ix : List Nat} {dfl : List AV} {bs : Bs}
end
end Dn
namespace Dn
open PySem PySem.Spec PyProof.Rows L2
section
variable {W : Wd} {M : Md W} {E : WX} {X : Cx} {o e f : Expr} {fo fk fx : DE} {apos cpos : Pos}
end
section
variable {W : Wd} {M : Md W} {E : WX} {X : Cx} {k j n i i1 i2 t : Nat} {F : DF} {x : Str} {p pos apos : Pos} {e ea eb o : Expr} {fo : DE}
end
section
variable {W : Wd} {M : Md W} {E : WX} {X : Cx} {x : Str} {l : List (Str × List Str)} {e : Expr} {fx : DE} {p pos : Pos}
end
end Dn
namespace Dn
open PySem PySem.Spec PyProof.Rows L2
end Dn
namespace Dn
open PySem PySem.Spec PyProof.Rows L2
def kPd : Key → PyData
  | .inl i => .int i
  | .inr x => .str x
mutual
inductive Dq (K : PySem.W.Frag) (H : Hp) : V → PyData → Prop
  | non : Dq K H .non .none
  | bl (b : Bool) : Dq K H (.bl b) (.bool b)
  | int (i : Int) : Dq K H (.int i) (.int i)
  | str (x : Str) : Dq K H (.str x) (.str x)
  | lst {a : Addr} {xs : List V} {ds : List PyData} : H a = some (.lst xs) → DqAll K H xs ds → Dq K H (.ref a) (.list ds)
  | tup {a : Addr} {xs : List V} {ds : List PyData} : SqT K H a xs → DqAll K H xs ds → Dq K H (.ref a) (.tuple ds)
  | dic {a : Addr} {kvs : List (Key × V)} {ds : List PyData} : H a = some (.dK kvs) → DqAll K H (kvs.map (·.2)) ds → Dq K H (.ref a) (.dict ((kvs.map fun kv => kPd kv.1).zip ds))
inductive DqAll (K : PySem.W.Frag) (H : Hp) : List V → List PyData → Prop
  | nil : DqAll K H [] []
  | cons {v : V} {vs : List V} {d : PyData} {ds : List PyData} : Dq K H v d → DqAll K H vs ds → DqAll K H (v :: vs) (d :: ds)
end
theorem readsAll_len {h : Heap} : ∀ {vs : List Value} {ds : List PyData} {as : List Addr}, ReadsAll h vs ds as → vs.length = ds.length
  | _, _, _, .nil => rfl
  | _, _, _, .cons _ r => congrArg (· + 1) (readsAll_len r)
section
variable {X : Cx} {pins : List (Addr × Obj)} {σ : L2.St} {H : Hp} {s : Shared}
theorem keys_read {h : Heap} {P : Program} {w : World} : ∀ {es : List DictEntry} {vs : List (Key × Value)}, Pairs (mixKind P w) es vs → ReadsAll h (es.map (·.key)) (vs.map fun kv => kPd kv.1) []
  | _, _, .nil => .nil
  | _, _, .cons (e := e) (kv := kv) h1 _ q => by
    have r := keys_read (h := h) q
    have one : Reads h e.key (kPd kv.1) [] := by
      rcases keyIs_shape h1 with ⟨i, t, e1, e2⟩ | ⟨x, t, e1, e2⟩
      · rw [e1, e2]
        exact .int i t
      · rw [e1, e2]
        exact .str x t
    exact ReadsAll.cons (as := []) (bs := []) one r
theorem pairs_vals {P : Program} {w : World} : ∀ {es : List DictEntry} {vs : List (Key × Value)}, Pairs (mixKind P w) es vs → es.map (·.val) = vs.map (·.2)
  | _, _, .nil => rfl
  | _, _, .cons _ h2 q => by
    rw [List.map_cons, List.map_cons, h2, pairs_vals q]
theorem kv_keys {κ : Type} : ∀ {kvs : List (κ × V)} {vs : List (κ × Value)}, KV kvs vs → kvs.map (·.1) = vs.map (·.1)
  | _, _, .nil => rfl
  | _, _, .cons r t => by
    rw [List.map_cons, List.map_cons, kv_keys t]
    exact congrArg (· :: _) r.1
mutual
theorem Dq.reads (I : Inv X pins σ H s) : ∀ {v : V} {d : PyData}, Dq X.K H v d → ∀ u, RelV v u → ∃ as, Reads s.heap u d as ∧ ∀ b ∈ as, H b ≠ none
  | _, _, .non, u, r => by
    cases r
    exact ⟨_, Reads.none, by simp⟩
  | _, _, .bl b, u, r => by
    cases r
    exact ⟨_, Reads.bool b, by simp⟩
  | _, _, .int i, u, r => by
    obtain ⟨t, rfl⟩ := r
    exact ⟨_, Reads.int i t, by simp⟩
  | _, _, .str x, u, r => by
    obtain ⟨t, rfl⟩ := r
    exact ⟨_, Reads.str x t, by simp⟩
  | _, _, .lst e q, u, r => by
    cases r
    obtain ⟨its, rv, ⟨o, n, ho, hc, _, hd⟩, _⟩ := I.list (SqL.of e)
    obtain ⟨as, hr, ha⟩ := DqAll.reads I q its rv
    refine ⟨_, Reads.list ho hc hd hr, fun b hb => ?_⟩
    rcases List.mem_cons.mp hb with rfl | w
    · rw [e]
      nofun
    · exact ha b w
  | _, _, .tup hs q, u, r => by
    cases r
    obtain ⟨its, rv, ⟨o, ho, hc, n, hd⟩, _⟩ := I.tuple hs
    obtain ⟨as, hr, ha⟩ := DqAll.reads I q its rv
    exact ⟨_, Reads.tuple ho hc hd hr, ha⟩
  | _, _, .dic (kvs := kvs) (ds := ds) e q, u, r => by
    cases r
    obtain ⟨_, _, vs, kv, o, es, ep, ho, hx, hd, _, hp, _⟩ := dk_of I.hok e
    have rv := kv_vals kv
    obtain ⟨as, hr, ha⟩ := DqAll.reads I q _ rv
    have kr := keys_read (h := s.heap) hp
    have l1 : (kvs.map (·.2)).length = ds.length := by
      have := readsAll_len hr
      have l2 : (kvs.map (·.1)).length = (vs.map (·.1)).length := congrArg List.length (kv_keys kv)
      simp at this l2 ⊢
      omega
    have ke : (kvs.map fun kv => kPd kv.1) = vs.map fun kv => kPd kv.1 := by
      have := congrArg (List.map kPd) (kv_keys kv)
      simpa [List.map_map, Function.comp_def] using this
    refine ⟨_, Reads.dict (as := []) (bs := as) ho hx.1 hd ?_ ?_, fun b hb => ?_⟩
    · rw [List.map_fst_zip (by simp at l1 ⊢; omega), ke]
      exact kr
    · rw [List.map_snd_zip (by simp at l1 ⊢; omega), pairs_vals hp]
      exact hr
    · rcases List.mem_cons.mp hb with rfl | w
      · rw [e]
        nofun
      · exact ha b w
theorem DqAll.reads (I : Inv X pins σ H s) : ∀ {vs : List V} {ds : List PyData}, DqAll X.K H vs ds → ∀ us, Vals vs us → ∃ as, ReadsAll s.heap us ds as ∧ ∀ b ∈ as, H b ≠ none
  | _, _, .nil, _, r => by
    cases r
    exact ⟨_, ReadsAll.nil, by simp⟩
  | _, _, .cons h1 h2, _, r => by
    cases r with
    | cons r1 r2 =>
      obtain ⟨as, q1, a1⟩ := Dq.reads I h1 _ r1
      obtain ⟨bs, q2, a2⟩ := DqAll.reads I h2 _ r2
      refine ⟨_, ReadsAll.cons q1 q2, fun b hb => ?_⟩
      rcases List.mem_append.mp hb with w | w
      · exact a1 b w
      · exact a2 b w
end
end
section
variable {W : Wd} {io : List Addr} {H : Hp} {hp : Hep}
end
section
variable {W : Wd} {M : Md W} {E : WX} {X : Cx}
end
end Dn
namespace Dn
open PySem PySem.Spec PyProof.Rows L2
end Dn
namespace Dn
open PySem PySem.Spec PyProof.Rows L2
section
variable {W : Wd} {X : Cx}
end
end Dn
namespace Dn
open PySem PySem.Spec PyProof.Rows L2
section
variable {W : Wd} {M : Md W} {E : WX} {X : Cx} {f : DE} {e : Expr} {es : List Expr} {gs : DGs} {pos tpos p : Pos} {kk i n : Nat}
end
end Dn
namespace Dn
open PySem PySem.Spec PyProof.Rows L2
end Dn
namespace Dn
open PySem PySem.Spec PyProof.Rows L2
end Dn
namespace Dn
open PySem PySem.Spec PyProof.Rows L2
end Dn
namespace PySem
namespace DX
open PySem.W PySem.Calls PyProof.Rows
section
variable {md : Model} {ar : Around} {ex : Value → Shared → Prop} {hp : Heap} {gs : Array GenState} {dr : Drawn} {tc : Nat} {ops : OsState}
variable {cn qn : Str} {C N : Addr} {bs bm bmB : List Value} {hd : Bool} {sl : List Str} {sb : List Value} {ab : Bool} {col : Option Bool} {dd : Option Addr} {k0 k1 k2 k3 k5 : Option Value} {O nid : String} {kw : List (Str × Value)}
end
section
variable {prog : Program} {w : World} {ar : Around} {ex : Value → Shared → Prop} {R : Result → Shared → Prop} {hp : Heap} {gs : Array GenState} {dr : Drawn} {tc : Nat} {ops : OsState}
variable {cn qn : Str} {C N : Addr} {bs bm bmB : List Value} {hd : Bool} {sl : List Str} {sb : List Value} {ab : Bool} {col : Option Bool} {dd : Option Addr} {k0 k1 k2 k3 k5 : Option Value} {O nid : String} {kw : List (Str × Value)}
end
end DX
end PySem

namespace Dn
open PySem PySem.Spec PyProof.Rows L2

section
variable {X : Cx} {E : WX} {C : Addr} {nm : Str} {B newId initId : String} {bmB : List Value} {x : Str} {p pos kpos : Pos} {e : Expr}
end

section
variable {W : Wd} {M : Md W} {E : WX} {X : Cx} {t j k : Nat} {x : Str} {e : Expr} {f : DE} {p p2 pos : Pos}
section
variable {C fI : Addr} {nm : Str} {B newId : String} {bmB : List Value} {fd : FuncData} {ps ks : List Str} {kws : List Keyword} {ta : TA} {fk : DA}
end
end

section
variable {W : Wd} {M : Md W} {E : WX} {X : Cx} {T : XT} {e : Expr} {f : DE} {pos p2 p3 : Pos} {xc : Str}
end
end Dn
namespace Dn
open PySem PySem.Spec PyProof.Rows L2
section
variable {P : Program} {w : World} {H : Hp} {h : Heap} {a : Addr} {x : V} {ep : Nat}
end
section
variable {X : Cx} {pos p2 : Pos} {k v : Expr}
end
section
variable {W : Wd} {M : Md W} {E : WX} {X : Cx} {a b k v : Expr} {es elts : List Expr} {f : DE} {pos p2 apos cpos tpos : Pos} {kk : Nat}
end
end Dn
namespace Dn
open PySem PySem.Spec PyProof.Rows L2
section
variable {H H0 : Hp} {b : Addr} {o : HO}
end
section
variable {P : Program} {w : World} {mg : Str → Option Value} {base : Heap} {W : Wd} {k n : Nat} {x : Str} {ps : List Str} {F : DF} {bs : Bs}
end
end Dn
namespace Dn
open PySem PySem.Spec PyProof.Rows L2
section
variable {M : Model} {A : Around} {E : Value → Shared → Prop} {s : Shared} {Z : Obj → Prop} {base : Heap} {env : Env} {outer l : List Env} {L e : Addr}
end
section
variable {X : Cx} {pins : List (Addr × Obj)} {σ : L2.St} {H : Hp} {s : Shared} {xe : Value → Shared → Prop}
end
section
variable {X : Cx} {W : WX} {pins : List (Addr × Obj)} {σ : L2.St} {H3 : Hp} {s3 : Shared} {scope : Scope} {cenv : Env} {fp : List Addr} {Qf : Value → Shared → Prop} {acc : Value} {xe : Value → Shared → Prop}
end
section
variable {X : Cx}
end
end Dn
namespace Dn
open PySem PySem.Spec PyProof.Rows L2
section
variable {W : Wd} {M : Md W} {E : WX} {X : Cx} {pos : Pos}
end
end Dn
namespace Dn
open PySem PySem.Spec PyProof.Rows L2
end Dn
namespace Dn
open PySem PySem.Spec PyProof.Rows L2 LamX
/-- the function object of a lambda of the frame X -/
def FnL (X : Cx) (params : Arguments) (body : Expr) (scope : Scope) (f c' : Addr) (pm ctv : Value) : HO :=
  .ext fun h => h.get? f = some (PySem.W.kla_obj "<lambda>" (X.env.qual ++ "<lambda>") params body scope (cloFrom X.env.cells scope.names []) pm c' ctv)
section
variable {X : Cx} {pins : List (Addr × Obj)} {σ : L2.St} {H : Hp} {s : Shared}
end
end Dn
namespace Dn
open PySem PySem.Spec PyProof.Rows L2 LamX
/-- a lambda: its code, its reading -/
structure LamT where
  params : Arguments
  body : Expr
  scope : Scope
  d : DE
/-- f is its function object -/
def LamF (X : Cx) (l : LamT) (H : Hp) (f : Addr) : Prop := f ∉ frs X.stack ∧ ∃ c' pm ctv, H f = some (FnL X l.params l.body l.scope f c' pm ctv) ∧ H c' = some (CodeO c' (X.env.qual ++ "<lambda>"))
section
variable {W : Wd} {X : Cx} {io io' : List Addr} {H H' : Hp}
theorem LamF.mono {l : LamT} {f : Addr} (h : LamF X l H f) (e : Ext W io H io' H') : LamF X l H' f := by
  obtain ⟨a, c', pm, ctv, b, c⟩ := h
  exact ⟨a, c', pm, ctv, e.cod _ _ b, e.cod _ _ c⟩
/-- the list at slot ic holds the function objects -/
def Fns (X : Cx) (lams : List LamT) (H : Hp) (fs : List Addr) : Prop := fs.length = lams.length ∧ ∀ (i : Nat) (l : LamT) (f : Addr), lams[i]? = some l → fs[i]? = some f → LamF X l H f
theorem Fns.mono {lams : List LamT} {fs : List Addr} (h : Fns X lams H fs) (e : Ext W io H io' H') : Fns X lams H' fs := ⟨h.1, fun i l f a b => (h.2 i l f a b).mono e⟩
theorem Rl.off (R : Rl W io hp H) {p : Addr} {u ho : HO} (hn : p ∉ io) (hu : H p = some u) (w : Wr u) : Rl W io hp (upd H p ho) := by
  have ex : Ext W io H io (upd H p ho) := Ext.set _ hu w
  refine ⟨R.len, R.nd, fun i a o hi h => ?_, ex.tab R.tb⟩
  obtain ⟨v, e, r⟩ := R.ob i a o hi h
  refine ⟨v, ?_, r.mono ex⟩
  rw [upd_ne (fun z => hn (by rw [← z]; exact List.mem_of_getElem? hi))]
  exact e
end
end Dn
namespace Dn
open PySem PySem.Spec PyProof.Rows L2
section
variable {X : Cx} {pins : List (Addr × Obj)} {σ : L2.St} {H : Hp} {s : Shared} {W : Wd}
open LamX
end
section
variable {X : Cx}
end
/-- the slots within such a block: slot ix holds the function object of l -/
def MB (W : Wd) (X : Cx) (ix : Nat) (σ0 : L2.St) (l : LamT) : Md W where
  rel := fun io H as σ => (std W).rel io H as σ0 ∧ as[ix]? = some none ∧ (∀ j, j ≠ ix → σ[j]? = σ0[j]?) ∧ ∃ f, σ[ix]? = some (some (.ref f)) ∧ LamF X l H f
  mono := fun e h => by
    obtain ⟨a, b, c, f, d, q⟩ := h
    exact ⟨(std W).mono e a, b, c, f, d, q.mono e⟩
  var := fun {io H as σ i v} h a n => by
    obtain ⟨S, b, c, _⟩ := h
    have ni : i ≠ ix := fun z => by
      rw [z, b] at a
      cases a
    obtain ⟨x, e, r⟩ := (std W).var S a n
    exact ⟨x, by rw [c i ni]; exact e, r⟩
  ok := fun _ => False
  set := fun _ _ h => h.elim
  wipe := fun _ h => h.elim
section
variable {X : Cx} {W : Wd}
open LamX
/-- the tests and items of such a comprehension -/
inductive FcOk (W : Wd) (X : Cx) (ix : Nat) (scope : Scope) (elt : Expr) (ifs : List Expr) : List LamT → List (DT × DE) → Prop
  | nil : FcOk W X ix scope elt ifs [] []
  | cons {l : LamT} {ls : List LamT} {t : DT} {e : DE} {qs : List (DT × DE)}
    (ht : ∀ (pins : List (Addr × Obj)) (σ : L2.St) (s : Shared) (H : Hp) (C : Addr) (cl : List (Str × Addr)) (fp : List Addr), Inv X pins σ H s → (∀ b ∈ fp, FpOk X pins H b) → PTs (X.blk s H scope (compEnvC scope cl C X.env) fp) ifs (tDT W (MB W X ix σ l) E0x t))
    (he : ∀ (pins : List (Addr × Obj)) (σ : L2.St) (s : Shared) (H : Hp) (C : Addr) (cl : List (Str × Addr)) (fp : List Addr), Inv X pins σ H s → (∀ b ∈ fp, FpOk X pins H b) → PE (X.blk s H scope (compEnvC scope cl C X.env) fp) elt (tD W (MB W X ix σ l) E0x e))
    (r : FcOk W X ix scope elt ifs ls qs) : FcOk W X ix scope elt ifs (l :: ls) ((t, e) :: qs)
theorem FcOk.zip {ix : Nat} {scope : Scope} {elt : Expr} {ifs : List Expr} {lams : List LamT} {qs : List (DT × DE)} (h : FcOk W X ix scope elt ifs lams qs) : ∃ ls : List (LamT × DT × DE), ls.map (·.1) = lams ∧ ls.map (·.2) = qs ∧
    ∀ q ∈ ls, ∀ (pins : List (Addr × Obj)) (σ : L2.St) (s : Shared) (H : Hp) (C : Addr) (cl : List (Str × Addr)) (fp : List Addr), Inv X pins σ H s → (∀ b ∈ fp, FpOk X pins H b) → PTs (X.blk s H scope (compEnvC scope cl C X.env) fp) ifs (tDT W (MB W X ix σ q.1) E0x q.2.1) ∧ PE (X.blk s H scope (compEnvC scope cl C X.env) fp) elt (tD W (MB W X ix σ q.1) E0x q.2.2) := by
  induction h with
  | nil => exact ⟨[], rfl, rfl, fun q hq => by cases hq⟩
  | @cons l ls0 t e qs0 ht he r ih =>
    obtain ⟨ls, e1, e2, e3⟩ := ih
    refine ⟨(l, t, e) :: ls, by simp [e1], by simp [e2], fun q hq => ?_⟩
    rcases List.mem_cons.mp hq with rfl | hq
    · exact fun pins σ s H C cl fp I f => ⟨ht pins σ s H C cl fp I f, he pins σ s H C cl fp I f⟩
    · exact e3 q hq
end
end Dn
namespace Dn
open PySem PySem.Spec PyProof.Rows L2
section
variable {W : Wd} {M : Md W} {E : WX} {X : Cx}
end
end Dn
namespace PySem
open Sem (wp)
namespace FZ
end FZ
section
variable {prog : Program} {w : World} {A : Around} {E : Value → Shared → Prop} {h : Heap} {g : Array GenState} {d : Drawn} {t : Nat} {os : OsState} {a : Addr} {o : Obj}
end
end PySem
namespace PySem.W
open PySem.Calls PyProof.Rows
section
variable {prog : Program} {w : World} {A : Around} {E : Value → Shared → Prop} {s : Shared} {h₀ : Heap} {L : Addr} {m : Str → Option Value} {K : Frag} {x C f : Addr} {ox : Obj} {od : Option Obj}
end
end PySem.W
namespace Dn
open PySem PySem.Spec PyProof.Rows L2
section
variable {W : Wd} {M : Md W} {E : WX} {X : Cx}
variable {k j t : Nat} {ps : List Str} {F : DF} {o : Expr} {fo : DE} {pos p0 p1 p2 : Pos} {i0 i1 : Option Int}
end
end Dn
namespace Q
open PySem Dn
def subs0 (s t : Nat) : Bool := (s == 0 && t == 0)
def cs0 : List Str := ["Deque"]
def fn0 : List Str := ["row", "limit", "move_count", "version", "given"]
abbrev ct0 : CT := ctOf cs0.length subs0
def xs0 : List Str := ["BadItem", "BadBound", "BadIndex", "NotFound", "Empty", "Full", "CountError"]
def xt0 : XT := ⟨1, 8, fun s t => (s == 1 && t == 1) || (s == 1 && t == 7) || (s == 2 && t == 2) || (s == 2 && t == 7) || (s == 3 && t == 3) || (s == 4 && t == 4) || (s == 5 && t == 5) || (s == 6 && t == 6) || (s == 7 && t == 7), [(1, "IndexError", false), (1, "LookupError", false), (1, "ValueError", true), (2, "IndexError", false), (2, "LookupError", false), (2, "ValueError", true), (3, "IndexError", true), (3, "LookupError", true), (3, "ValueError", false), (4, "IndexError", false), (4, "LookupError", true), (4, "ValueError", false), (5, "IndexError", true), (5, "LookupError", true), (5, "ValueError", false), (6, "IndexError", true), (6, "LookupError", true), (6, "ValueError", false), (7, "IndexError", false), (7, "LookupError", false), (7, "ValueError", true)]⟩
end Q
namespace Q
open PySem PySem.Spec PyProof.Rows L2 Dn
set_option maxHeartbeats 0
def top (i : Nat) : Stmt := PySem.Challenge.pw_dequecounts_k27_deques_refuse.main.body.getD i (.Pass ⟨0, 0, 0, 0⟩)
def d__law_source : DefF := ⟨(pDef "_law_source"), "_law_source", "_law_source", defArgs (top 25), defBody (top 25), defScope (top 25), [], []⟩
def d__law_draw : DefF := ⟨(pDef "_law_draw"), "_law_draw", "_law_draw", defArgs (top 26), defBody (top 26), defScope (top 26), [], []⟩
def d__law_choice : DefF := ⟨(pDef "_law_choice"), "_law_choice", "_law_choice", defArgs (top 27), defBody (top 27), defScope (top 27), [], []⟩
def d__law_item : DefF := ⟨(pDef "_law_item"), "_law_item", "_law_item", defArgs (top 28), defBody (top 28), defScope (top 28), [], []⟩
def d__law_items : DefF := ⟨(pDef "_law_items"), "_law_items", "_law_items", defArgs (top 29), defBody (top 29), defScope (top 29), [], []⟩
def d__law_bound : DefF := ⟨(pDef "_law_bound"), "_law_bound", "_law_bound", defArgs (top 30), defBody (top 30), defScope (top 30), [], []⟩
def d__law_added : DefF := ⟨(pDef "_law_added"), "_law_added", "_law_added", defArgs (top 31), defBody (top 31), defScope (top 31), [], []⟩
def d__law_model : DefF := ⟨(pDef "_law_model"), "_law_model", "_law_model", defArgs (top 32), defBody (top 32), defScope (top 32), [], []⟩
def d_is_integer : DefF := ⟨(pDef "is_integer"), "is_integer", "is_integer", defArgs (top 12), defBody (top 12), defScope (top 12), [], []⟩
def d_is_bound : DefF := ⟨(pDef "is_bound"), "is_bound", "is_bound", defArgs (top 20), defBody (top 20), defScope (top 20), [], []⟩
def d_is_word : DefF := ⟨(pDef "is_word"), "is_word", "is_word", defArgs (top 13), defBody (top 13), defScope (top 13), [], []⟩
def d_is_short : DefF := ⟨(pDef "is_short"), "is_short", "is_short", defArgs (top 14), defBody (top 14), defScope (top 14), [], []⟩
def d_is_item : DefF := ⟨(pDef "is_item"), "is_item", "is_item", defArgs (top 15), defBody (top 15), defScope (top 15), [], []⟩
def d_need_item : DefF := ⟨(pDef "need_item"), "need_item", "need_item", defArgs (top 18), defBody (top 18), defScope (top 18), [], []⟩
def d_checked : DefF := ⟨(pDef "checked"), "checked", "checked", defArgs (top 23), defBody (top 23), defScope (top 23), [], []⟩
def d_Deque_xinit : DefF := ⟨(pMeth "Deque" "__init__"), "__init__", "Deque.__init__", defArgs (clsStmt (top 22) 0), defBody (clsStmt (top 22) 0), defScope (clsStmt (top 22) 0), [.adr (He.dflAt ("Deque", some "__init__") 0)], [("bound", .non)]⟩
def d_Deque_is_full : DefF := ⟨(pMeth "Deque" "is_full"), "is_full", "Deque.is_full", defArgs (clsStmt (top 22) 14), defBody (clsStmt (top 22) 14), defScope (clsStmt (top 22) 14), [], []⟩
def d_Deque_note : DefF := ⟨(pMeth "Deque" "note"), "note", "Deque.note", defArgs (clsStmt (top 22) 13), defBody (clsStmt (top 22) 13), defScope (clsStmt (top 22) 13), [], []⟩
def d_Deque_added : DefF := ⟨(pMeth "Deque" "added"), "added", "Deque.added", defArgs (clsStmt (top 22) 17), defBody (clsStmt (top 22) 17), defScope (clsStmt (top 22) 17), [], []⟩
def d_Deque_append : DefF := ⟨(pMeth "Deque" "append"), "append", "Deque.append", defArgs (clsStmt (top 22) 15), defBody (clsStmt (top 22) 15), defScope (clsStmt (top 22) 15), [], []⟩
def d_Deque_append_left : DefF := ⟨(pMeth "Deque" "append_left"), "append_left", "Deque.append_left", defArgs (clsStmt (top 22) 16), defBody (clsStmt (top 22) 16), defScope (clsStmt (top 22) 16), [], []⟩
def d_Deque_extend : DefF := ⟨(pMeth "Deque" "extend"), "extend", "Deque.extend", defArgs (clsStmt (top 22) 18), defBody (clsStmt (top 22) 18), defScope (clsStmt (top 22) 18), [], []⟩
def d_Deque_extend_left : DefF := ⟨(pMeth "Deque" "extend_left"), "extend_left", "Deque.extend_left", defArgs (clsStmt (top 22) 19), defBody (clsStmt (top 22) 19), defScope (clsStmt (top 22) 19), [], []⟩
def d_place_in : DefF := ⟨(pDef "place_in"), "place_in", "place_in", defArgs (top 21), defBody (top 21), defScope (top 21), [], []⟩
def d_Deque_insert : DefF := ⟨(pMeth "Deque" "insert"), "insert", "Deque.insert", defArgs (clsStmt (top 22) 24), defBody (clsStmt (top 22) 24), defScope (clsStmt (top 22) 24), [], []⟩
def d__law_error : DefF := ⟨(pDef "_law_error"), "_law_error", "_law_error", defArgs (top 34), defBody (top 34), defScope (top 34), [], []⟩
def d__law_items_refused : DefF := ⟨(pDef "_law_items_refused"), "_law_items_refused", "_law_items_refused", defArgs (top 35), defBody (top 35), defScope (top 35), [], []⟩
def d_Deque_xcontains : DefF := ⟨(pMeth "Deque" "__contains__"), "__contains__", "Deque.__contains__", defArgs (clsStmt (top 22) 2), defBody (clsStmt (top 22) 2), defScope (clsStmt (top 22) 2), [], []⟩
def d_Deque_count : DefF := ⟨(pMeth "Deque" "count"), "count", "Deque.count", defArgs (clsStmt (top 22) 31), defBody (clsStmt (top 22) 31), defScope (clsStmt (top 22) 31), [], []⟩
def d_Deque_index : DefF := ⟨(pMeth "Deque" "index"), "index", "Deque.index", defArgs (clsStmt (top 22) 30), defBody (clsStmt (top 22) 30), defScope (clsStmt (top 22) 30), [.int (0), .non], []⟩
def d_Deque_removed : DefF := ⟨(pMeth "Deque" "removed"), "removed", "Deque.removed", defArgs (clsStmt (top 22) 28), defBody (clsStmt (top 22) 28), defScope (clsStmt (top 22) 28), [], []⟩
def d_Deque_remove : DefF := ⟨(pMeth "Deque" "remove"), "remove", "Deque.remove", defArgs (clsStmt (top 22) 29), defBody (clsStmt (top 22) 29), defScope (clsStmt (top 22) 29), [], []⟩
def d_Deque_place_of : DefF := ⟨(pMeth "Deque" "place_of"), "place_of", "Deque.place_of", defArgs (clsStmt (top 22) 25), defBody (clsStmt (top 22) 25), defScope (clsStmt (top 22) 25), [], []⟩
def d_Deque_put : DefF := ⟨(pMeth "Deque" "put"), "put", "Deque.put", defArgs (clsStmt (top 22) 26), defBody (clsStmt (top 22) 26), defScope (clsStmt (top 22) 26), [], []⟩
def d_Deque_delete : DefF := ⟨(pMeth "Deque" "delete"), "delete", "Deque.delete", defArgs (clsStmt (top 22) 27), defBody (clsStmt (top 22) 27), defScope (clsStmt (top 22) 27), [], []⟩
def d_Deque_xgetitem : DefF := ⟨(pMeth "Deque" "__getitem__"), "__getitem__", "Deque.__getitem__", defArgs (clsStmt (top 22) 3), defBody (clsStmt (top 22) 3), defScope (clsStmt (top 22) 3), [], []⟩
def d__law_indexes_refused : DefF := ⟨(pDef "_law_indexes_refused"), "_law_indexes_refused", "_law_indexes_refused", defArgs (top 36), defBody (top 36), defScope (top 36), [], []⟩
def d_Deque_rotate : DefF := ⟨(pMeth "Deque" "rotate"), "rotate", "Deque.rotate", defArgs (clsStmt (top 22) 23), defBody (clsStmt (top 22) 23), defScope (clsStmt (top 22) 23), [.int (1)], []⟩
def d_Deque_listed : DefF := ⟨(pMeth "Deque" "listed"), "listed", "Deque.listed", defArgs (clsStmt (top 22) 35), defBody (clsStmt (top 22) 35), defScope (clsStmt (top 22) 35), [], []⟩
def d_Deque_bound : DefF := ⟨(pProp "Deque" "bound"), "bound", "Deque.bound", defArgs (clsStmt (top 22) 11), defBody (clsStmt (top 22) 11), defScope (clsStmt (top 22) 11), [], []⟩
def d_Deque_moves : DefF := ⟨(pProp "Deque" "moves"), "moves", "Deque.moves", defArgs (clsStmt (top 22) 12), defBody (clsStmt (top 22) 12), defScope (clsStmt (top 22) 12), [], []⟩
def d_Deque_xlen : DefF := ⟨(pMeth "Deque" "__len__"), "__len__", "Deque.__len__", defArgs (clsStmt (top 22) 1), defBody (clsStmt (top 22) 1), defScope (clsStmt (top 22) 1), [], []⟩
def d_Deque_xrepr : DefF := ⟨(pMeth "Deque" "__repr__"), "__repr__", "Deque.__repr__", defArgs (clsStmt (top 22) 10), defBody (clsStmt (top 22) 10), defScope (clsStmt (top 22) 10), [], []⟩
def d__law_fits : DefF := ⟨(pDef "_law_fits"), "_law_fits", "_law_fits", defArgs (top 33), defBody (top 33), defScope (top 33), [], []⟩
def d_Deque_clear : DefF := ⟨(pMeth "Deque" "clear"), "clear", "Deque.clear", defArgs (clsStmt (top 22) 33), defBody (clsStmt (top 22) 33), defScope (clsStmt (top 22) 33), [], []⟩
def d_Deque_removed_end : DefF := ⟨(pMeth "Deque" "removed_end"), "removed_end", "Deque.removed_end", defArgs (clsStmt (top 22) 22), defBody (clsStmt (top 22) 22), defScope (clsStmt (top 22) 22), [], []⟩
def d_Deque_pop : DefF := ⟨(pMeth "Deque" "pop"), "pop", "Deque.pop", defArgs (clsStmt (top 22) 20), defBody (clsStmt (top 22) 20), defScope (clsStmt (top 22) 20), [], []⟩
def d_Deque_pop_left : DefF := ⟨(pMeth "Deque" "pop_left"), "pop_left", "Deque.pop_left", defArgs (clsStmt (top 22) 21), defBody (clsStmt (top 22) 21), defScope (clsStmt (top 22) 21), [], []⟩
def d_law : DefF := ⟨(pDef "law"), "law", "law", defArgs (top 37), defBody (top 37), defScope (top 37), [], []⟩
theorem sc_I_BadItem : FnScope ["self", "given"] ["self", "given"] (defScope (clsStmt (top 3) 0)) := ⟨rfl, rfl, rfl, by decide +kernel, rfl, by decide +kernel, by decide +kernel⟩
def d_I_BadItem : DefF := ⟨(pMeth "BadItem" "__init__"), "__init__", "BadItem.__init__", defArgs (clsStmt (top 3) 0), defBody (clsStmt (top 3) 0), defScope (clsStmt (top 3) 0), [], []⟩
theorem sc_I_BadBound : FnScope ["self", "given"] ["self", "given"] (defScope (clsStmt (top 4) 0)) := ⟨rfl, rfl, rfl, by decide +kernel, rfl, by decide +kernel, by decide +kernel⟩
def d_I_BadBound : DefF := ⟨(pMeth "BadBound" "__init__"), "__init__", "BadBound.__init__", defArgs (clsStmt (top 4) 0), defBody (clsStmt (top 4) 0), defScope (clsStmt (top 4) 0), [], []⟩
theorem sc_I_BadIndex : FnScope ["self", "given"] ["self", "given"] (defScope (clsStmt (top 7) 0)) := ⟨rfl, rfl, rfl, by decide +kernel, rfl, by decide +kernel, by decide +kernel⟩
def d_I_BadIndex : DefF := ⟨(pMeth "BadIndex" "__init__"), "__init__", "BadIndex.__init__", defArgs (clsStmt (top 7) 0), defBody (clsStmt (top 7) 0), defScope (clsStmt (top 7) 0), [], []⟩
theorem sc_I_NotFound : FnScope ["self", "given"] ["self", "given"] (defScope (clsStmt (top 8) 0)) := ⟨rfl, rfl, rfl, by decide +kernel, rfl, by decide +kernel, by decide +kernel⟩
def d_I_NotFound : DefF := ⟨(pMeth "NotFound" "__init__"), "__init__", "NotFound.__init__", defArgs (clsStmt (top 8) 0), defBody (clsStmt (top 8) 0), defScope (clsStmt (top 8) 0), [], []⟩
def fn : List DefF := [d__law_source, d__law_draw, d__law_choice, d__law_item, d__law_items, d__law_bound, d__law_added, d__law_model, d_is_integer, d_is_bound, d_is_word, d_is_short, d_is_item, d_need_item, d_checked, d_Deque_xinit, d_Deque_is_full, d_Deque_note, d_Deque_added, d_Deque_append, d_Deque_append_left, d_Deque_extend, d_Deque_extend_left, d_place_in, d_Deque_insert, d__law_error, d__law_items_refused, d_Deque_xcontains, d_Deque_count, d_Deque_index, d_Deque_removed, d_Deque_remove, d_Deque_place_of, d_Deque_put, d_Deque_delete, d_Deque_xgetitem, d__law_indexes_refused, d_Deque_rotate, d_Deque_listed, d_Deque_bound, d_Deque_moves, d_Deque_xlen, d_Deque_xrepr, d__law_fits, d_Deque_clear, d_Deque_removed_end, d_Deque_pop, d_Deque_pop_left, d_law, d_I_BadItem, d_I_BadBound, d_I_BadIndex, d_I_NotFound]
def fa : List He.Fa := [.glo "law", .glo "Full", .glo "Empty", .glo "BadItem", .glo "BadBound", .glo "BadIndex", .glo "NotFound", .free "len", .free "abs", .glo "_law_draw", .glo "_law_choice", .free "range", .glo "_law_item", .glo "_law_items", .glo "_law_bound", .glo "_law_added", .free "isinstance", .free "int", .free "bool", .int "MOST_BOUND" 1000, .glo "is_integer", .free "str", .int "MOST_LETTERS" 6, .free "all", .str "LETTERS" "abcdefghijklmnopqrstuvwxyz", .glo "is_word", .glo "is_short", .glo "is_item", .glo "Deque", .free "list", .glo "need_item", .free "max", .glo "is_bound", .glo "checked", .free "min", .glo "place_in", .free "IndexError", .free "repr", .free "LookupError", .glo "CountError", .free "ValueError", .glo "_law_error", .glo "_law_source", .glo "_law_model", .glo "_law_items_refused", .glo "_law_indexes_refused", .glo "_law_fits"]
def xt : List (PySem.W.Frag → Bool) := [cdB, ckB, wdXB cs0 xs0 fn0 subs0, fun K => decide (([(tabF K (codF K ((pDef "_law_items_refused") K)), (("_law_items_refused" : Str) ++ (".<locals>." : Str) ++ ("<lambda>" : Str))), (tabF K (codF K ((pDef "_law_indexes_refused") K)), (("_law_indexes_refused" : Str) ++ (".<locals>." : Str) ++ ("<lambda>" : Str))), (tabF K (codF K ((pDef "law") K)), (("law" : Str) ++ (".<locals>." : Str) ++ ("<lambda>" : Str)))].map (·.1)).Nodup), xwB (cs0 ++ xs0) fn0 xt0, x0B "Full" [.type "IndexError", .type "LookupError", .type "Exception", .type "BaseException", .type "object"] "IndexError.__new__", x0B "Empty" [.type "IndexError", .type "LookupError", .type "Exception", .type "BaseException", .type "object"] "IndexError.__new__", xiB "BadItem" "given" (pMeth "BadItem" "__init__") [.type "ValueError", .type "Exception", .type "BaseException", .type "object"] "ValueError.__new__", xiB "BadBound" "given" (pMeth "BadBound" "__init__") [.type "ValueError", .type "Exception", .type "BaseException", .type "object"] "ValueError.__new__", xiB "BadIndex" "given" (pMeth "BadIndex" "__init__") [.type "IndexError", .type "LookupError", .type "Exception", .type "BaseException", .type "object"] "IndexError.__new__", xiB "NotFound" "given" (pMeth "NotFound" "__init__") [.type "LookupError", .type "Exception", .type "BaseException", .type "object"] "LookupError.__new__", etB (He.dflAt ("Deque", some "__init__") 0), methB "Deque" "is_full" (pMeth "Deque" "is_full"), methB "Deque" "note" (pMeth "Deque" "note"), methB "Deque" "added" (pMeth "Deque" "added"), methB "Deque" "append" (pMeth "Deque" "append"), methB "Deque" "append_left" (pMeth "Deque" "append_left"), xoB (cs0 ++ xs0) xt0 7, methB "Deque" "extend" (pMeth "Deque" "extend"), methB "Deque" "extend_left" (pMeth "Deque" "extend_left"), methB "Deque" "insert" (pMeth "Deque" "insert"), mkB "Deque" (pMeth "Deque" "__init__"), methB "Deque" "__contains__" (pMeth "Deque" "__contains__"), methB "Deque" "index" (pMeth "Deque" "index"), methB "Deque" "removed" (pMeth "Deque" "removed"), methB "Deque" "place_of" (pMeth "Deque" "place_of"), methB "Deque" "put" (pMeth "Deque" "put"), methB "Deque" "delete" (pMeth "Deque" "delete"), methB "Deque" "__getitem__" (pMeth "Deque" "__getitem__"), methB "Deque" "listed" (pMeth "Deque" "listed"), propB "Deque" "bound" (pProp "Deque" "bound"), propB "Deque" "moves" (pProp "Deque" "moves"), methB "Deque" "__len__" (pMeth "Deque" "__len__"), methB "Deque" "__repr__" (pMeth "Deque" "__repr__"), methB "Deque" "removed_end" (pMeth "Deque" "removed_end"), methB "Deque" "count" (pMeth "Deque" "count"), methB "Deque" "remove" (pMeth "Deque" "remove"), methB "Deque" "rotate" (pMeth "Deque" "rotate"), methB "Deque" "clear" (pMeth "Deque" "clear"), methB "Deque" "pop" (pMeth "Deque" "pop"), methB "Deque" "pop_left" (pMeth "Deque" "pop_left")]
abbrev RR : PySem.W.OpenRow := PySem.W.OpenLaw.row PySem.Challenge.rw_dequecounts_k27_deques_refuse
def ls : List Pth := [(pDef "_law_items_refused"), (pDef "_law_indexes_refused"), (pDef "law")]
def as : List Addr := [3, 31, 51, 70, 82, 95, 115, 135, 145, 150, 157, 164, 171, 185, 192, 457, 468, 475, 482, 489, 496, 501, 508, 515, 522, 529, 536, 541, 546, 553, 30, 50, 69, 81, 94, 114, 134, 144, 149, 156, 163, 170, 184, 191, 456, 467, 474, 481, 488, 495, 500, 507, 514, 521, 528, 535, 540, 545, 552, 48, 67, 112, 132, 209, 216, 223, 230, 275, 283, 291, 298, 305, 312, 319, 326, 333, 340, 347, 354, 361, 369, 376, 383, 390, 397, 404, 411, 419, 426, 440, 454, 47, 66, 111, 131, 208, 201, 202, 215, 222, 229, 274, 282, 290, 297, 304, 311, 318, 325, 332, 339, 346, 353, 360, 368, 362, 375, 382, 389, 396, 403, 410, 418, 412, 425, 439, 453, 200, 281, 289]
abbrev hk : PySem.W.Hook := hookT as fa fn xt ls
def ob (s : PySem.W.SharedT) : AlF × Bool := obsT as fa fn xt ls (HandSHeadRun.getT s)
theorem ob_eq (s : PySem.W.SharedT) : ob s = hk.obs s.abs := obsT_eq (HandSHeadRun.getT_eq s)
def nms : List PySem.Str := (["_wall", "CountError", "BadItem", "BadBound", "Empty", "Full", "BadIndex", "NotFound", "MOST_LETTERS", "LETTERS", "is_integer", "is_word", "is_short", "is_item", "MOST_BOUND", "need_item", "rank", "is_bound", "place_in", "Deque", "checked", "_law_source", "_law_draw", "_law_choice", "_law_item", "_law_items", "_law_bound", "_law_added", "_law_model", "_law_fits"] : List PySem.Str) ++ (["_law_error", "_law_items_refused", "_law_indexes_refused"] : List PySem.Str)
theorem run (w : World) : HandSHeadRun.RunEq RR (PySem.W.view RR.prog [37]) hk ob 80000 nms w := by
  intro os
  kernel_rfl
abbrev FactsP : Prop := ∀ (P : Program) (w : World) (K : PySem.W.Frag) (h : Heap) (mg : Str → Option Value) (f : Addr), K.In h → h.Ns mainGlobals mg → mg "law" = some (.ref f) → SaysF fa fn xt K → (∀ l ∈ ls, LamAt K h (l K)) → ∃ fd : FuncData, (∀ (s : Shared) (v : Value), BindsTo s fd ⟨[v], []⟩ [("_law_script", v)]) ∧ ∀ base : Heap, K.In base → base.Ns mainGlobals mg → (∀ p ∈ csOf ls K, LamX.TabB base mg p.1 p.2) → FnG P w K mg base (L2.CX P w) 19 f fd ["_law_script"] (spLT (csOf ls K) K)
end Q
section
open PySem PySem.W PySem.Calls PyProof.Rows
theorem Q.fin_ (hf : Q.FactsP) : PySem.Challenge.rw_dequecounts_k27_deques_refuse.Holds := by
  w_on; o_law
  refine HandSHeadRun.head_any (r := OpenLaw.row PySem.Challenge.rw_dequecounts_k27_deques_refuse) (q := view (OpenLaw.row PySem.Challenge.rw_dequecounts_k27_deques_refuse).prog [37]) (H := Q.hk) (ob := Q.ob) (M := 80000) (loose := Q.nms) (d := HandSHeadRun.topDef (OpenLaw.row PySem.Challenge.rw_dequecounts_k27_deques_refuse).prog 37) (kwd := []) Q.ob_eq
    (by kernel_rfl) (fun s => by kernel_rfl) Q.run (by kernel_rfl) (by kernel_rfl) (by kernel_rfl) (by rfl) (by first | assumption | decide +kernel) (by decide +kernel) ⟨rfl, rfl, rfl, rfl, rfl, by decide +kernel⟩ ?hw ?hc
  case hw => w_witness2
  case hc =>
    refine Dn.walk_ofT (l := PySem.Challenge.rw_dequecounts_k27_deques_refuse) (n := 63) (k := 19) (x := "_law_script") rfl (by decide) (by kernel_rfl) ⟨rfl, by decide, by decide⟩ ?F
    intro w mg fa h Y G hmg0
    obtain ⟨K, KX, c, hl⟩ := Y
    have hmg : mg ("law" : PySem.Str) = some (.ref fa) := by
      have e : (HandSHeadRun.topDef (OpenLaw.row PySem.Challenge.rw_dequecounts_k27_deques_refuse).prog 37).name = ("law" : PySem.Str) := by kernel_rfl
      rw [← e]
      exact hmg0
    obtain ⟨fd, hb, hF⟩ := hf (PySem.Challenge.rw_dequecounts_k27_deques_refuse).prog w K h mg fa KX G hmg c hl
    obtain ⟨z1, z2, z3⟩ := Dn.csOf_tab hl
    exact ⟨K, fd, Dn.spLT (Dn.csOf Q.ls K) K, Dn.csOf Q.ls K, KX, z1, z2, z3, hb, fun H a ns hl hO hC hS => ⟨a, ns, rfl, hl, hO, hC, hS, fun _ => rfl⟩, hF⟩
end
namespace Q
open PySem PySem.Spec PyProof.Rows L2 Dn
set_option maxHeartbeats 0
end Q
namespace Dn
open PySem PySem.Spec PyProof.Rows L2

section
variable {W : Wd} {io io' io'' : List Addr} {H H' H'' : Hp}
theorem RVs.take : ∀ {xs : List AV} {vs : List V} (n : Nat), RVs W io H xs vs → RVs W io H (xs.take n) (vs.take n)
  | _, _, 0, _ => .nil
  | _, _, n + 1, .nil => .nil
  | _, _, n + 1, .cons r t => .cons r (RVs.take n t)
theorem RVs.drop : ∀ {xs : List AV} {vs : List V} (n : Nat), RVs W io H xs vs → RVs W io H (xs.drop n) (vs.drop n)
  | _, _, 0, q => q
  | _, _, n + 1, .nil => .nil
  | _, _, n + 1, .cons r t => RVs.drop n t
theorem RVs.erase : ∀ {xs : List AV} {vs : List V} (n : Nat), RVs W io H xs vs → RVs W io H (xs.eraseIdx n) (vs.eraseIdx n)
  | _, _, _, .nil => .nil
  | _, _, 0, .cons _ t => t
  | _, _, n + 1, .cons r t => .cons r (RVs.erase n t)
theorem RVs.rep {xs : List AV} {vs : List V} (h : RVs W io H xs vs) : ∀ n : Nat, RVs W io H (List.replicate n xs).flatten (List.replicate n vs).flatten
  | 0 => .nil
  | n + 1 => by
    rw [List.replicate_succ, List.replicate_succ, List.flatten_cons, List.flatten_cons]
    exact h.app (RVs.rep h n)
theorem RVs.dropLast : ∀ {xs : List AV} {vs : List V}, RVs W io H xs vs → RVs W io H xs.dropLast vs.dropLast := fun {xs vs} h => by
  rw [List.dropLast_eq_take, List.dropLast_eq_take, h.len]
  exact h.take _
/-- values that are the same in every heap -/
theorem RVs.ints : ∀ ns : List Int, RVs W io H (ns.map .int) (ns.map .int)
  | [] => .nil
  | n :: r => .cons (.int n) (RVs.ints r)
/-- an address of ours is tracked -/
theorem Rl.mem (R : Rl W io hp H) {a : Addr} (h : a ∈ io) : ∃ u, H a = some u := by
  obtain ⟨n, hn⟩ := List.mem_iff_getElem?.mp h
  obtain ⟨_, u, _, e, _⟩ := R.has hn
  exact ⟨u, e⟩
theorem sqT_new {K : PySem.W.Frag} {p : Addr} {ho : HO} (hp : H p = none) {a : Addr} {xs : List V} (h : SqT K H a xs) : SqT K (upd H p ho) a xs := by
  rcases h with (h | ⟨o, h⟩) | h
  · exact .inl (.inl (by rw [upd_ne (ne_of_none h hp)]; exact h))
  · exact .inl (.inr ⟨o, by rw [upd_ne (ne_of_none h hp)]; exact h⟩)
  · exact .inr h
theorem roL_new {K : PySem.W.Frag} {p : Addr} {ho : HO} (hp : H p = none) {a : Addr} {xs : List V} (h : RoL K H a xs) : RoL K (upd H p ho) a xs := by
  rcases h with ⟨o, h⟩ | h
  · exact .inl ⟨o, by rw [upd_ne (ne_of_none h hp)]; exact h⟩
  · exact .inr h
theorem tab_new {p : Addr} {ho : HO} (hp : H p = none) {P : Addr} {q : Str} (t : LamX.TabS H P q) : LamX.TabS (upd H p ho) P q := by
  obtain ⟨ps, h1, h2, h3⟩ := t
  refine ⟨ps, by rw [upd_ne (ne_of_none h1 hp)]; exact h1, h2, fun pos cv hc => ?_⟩
  obtain ⟨c, e1, e2⟩ := h3 pos cv hc
  exact ⟨c, e1, by rw [upd_ne (ne_of_none e2 hp)]; exact e2⟩
theorem Ext.new (io : List Addr) {p : Addr} (ho : HO) (hp : H p = none) (l : List Addr) : Ext W io H (io ++ l) (upd H p ho) :=
  ⟨⟨l, rfl⟩, fun _ _ h => sqT_new hp h, fun _ _ h => roL_new hp h, fun a fs h => by rw [upd_ne (ne_of_none h hp)]; exact h, fun a o u h => by rw [upd_ne (ne_of_none h hp)]; exact h, fun a u h => by rw [upd_ne (ne_of_none h hp)]; exact h, fun h p' hp' => tab_new hp (h p' hp')⟩
theorem Ext.new0 {p : Addr} {ho : HO} (hp : H p = none) : Ext W io H io (upd H p ho) := by
  have e := Ext.new (W := W) io ho hp []
  rwa [List.append_nil] at e
/-- a new thing that is none of ours (a tuple, an exception's dict) -/
theorem Rl.other (R : Rl W io hp H) {p : Addr} {ho : HO} (hn : H p = none) : Rl W io hp (upd H p ho) := by
  refine ⟨R.len, R.nd, fun i a o hi h => ?_, (Ext.new0 (W := W) (io := io) hn).tab R.tb⟩
  obtain ⟨u, e, r⟩ := R.at hi h
  exact ⟨u, by rw [upd_ne (ne_of_none e hn)]; exact e, r.mono (Ext.new0 hn)⟩
/-- a new object -/
theorem Rl.new (R : Rl W io hp H) {p : Addr} {ho : HO} {o : AO} (hn : H p = none) (r : RO W (io ++ [p]) (upd H p ho) o ho) : Rl W (io ++ [p]) (hp ++ [o]) (upd H p ho) := by
  have hp' : p ∉ io := fun h => by
    obtain ⟨u, e⟩ := R.mem h
    rw [hn] at e
    cases e
  refine ⟨by simp [R.len], ?_, fun i a q hi h => ?_, (Ext.new0 (W := W) (io := io) hn).tab R.tb⟩
  · refine List.nodup_append.mpr ⟨R.nd, by simp, fun a ha b hb => ?_⟩
    rw [List.mem_singleton] at hb
    subst hb
    rintro rfl
    exact hp' ha
  · by_cases hl : i < io.length
    · rw [List.getElem?_append_left hl] at hi
      rw [List.getElem?_append_left (by rw [← R.len]; exact hl)] at h
      obtain ⟨u, e, r'⟩ := R.at hi h
      exact ⟨u, by rw [upd_ne (ne_of_none e hn)]; exact e, r'.mono (Ext.new io ho hn [p])⟩
    · rw [List.getElem?_append_right (by omega)] at hi
      rw [List.getElem?_append_right (by rw [← R.len]; omega)] at h
      rw [R.len] at hi
      have z : i - hp.length = 0 := by
        obtain ⟨hh, _⟩ := List.getElem?_eq_some_iff.mp hi
        simp at hh
        omega
      rw [z] at hi h
      simp at hi h
      subst hi
      subst h
      exact ⟨ho, upd_same, r⟩
end
end Dn
namespace Dn
open PySem PySem.Spec PyProof.Rows L2

abbrev DA := Sl → Hep → R (List AV)
def R.st {T : Type} (r : R T) (s : Sl) (k : T → Hep → SR) : SR := match r with
  | .ok a h => k a h
  | .exc t fs h => .exc t fs s h
  | .stuck => .stuck
section
variable {W : Wd} {M : Md W} {T T' U U' : Type}
abbrev tDA (W : Wd) (M : Md W) (E : WX) (f : DA) : TA := tG W M (RVs W) E f
section
variable {rh : Rel T U} {rh' : Rel T' U'} {E : WX} {D : Ends} {σ : L2.St} {H H1 : Hp} {io io1 : List Addr} {hp : Hep} {as : Sl}
/-- a part of an expression, then the rest -/
theorem step {f : Sl → Hep → R T} {k : T → Hep → R T'} {Q : U' → Hp → Prop} (rl : Rl W io hp H) (S : M.rel io H as σ) (P : Pst W rh' E σ Q io H ((f as hp).bind k)) :
    tG W M rh E f σ H (fun x H1 => ∃ io1 hp1 a, Ext W io H io1 H1 ∧ Rl W io1 hp1 H1 ∧ rh io1 H1 a x ∧ Pst W rh' E σ Q io1 H1 (k a hp1)) := by
  refine ⟨io, hp, as, rl, S, ?_⟩
  cases e : f as hp with
  | ok a hp1 =>
    rw [e] at P
    exact fun io' H' x e' r' q => ⟨io', hp1, a, e', r', q, Pst.later P e'⟩
  | exc t fs hp1 =>
    rw [e] at P
    exact P
  | stuck =>
    rw [e] at P
    exact P
/-- a part of a statement, then the rest -/
theorem stepS {f : Sl → Hep → R T} {k : T → Hep → SR} (rl : Rl W io hp H) (S : M.rel io H as σ) (P : Pss W M E D io H ((f as hp).st as k)) :
    tG W M rh E f σ H (fun x H1 => ∃ io1 hp1 a, Ext W io H io1 H1 ∧ Rl W io1 hp1 H1 ∧ rh io1 H1 a x ∧ Pss W M E D io1 H1 (k a hp1)) := by
  refine ⟨io, hp, as, rl, S, ?_⟩
  cases e : f as hp with
  | ok a hp1 =>
    rw [e] at P
    exact fun io' H' x e' r' q => ⟨io', hp1, a, e', r', q, Pss.later P e'⟩
  | exc t fs hp1 =>
    rw [e] at P
    exact fun io' H' c d e' r' q => P io' H' σ c d e' r' (M.mono e' S) q
  | stuck =>
    rw [e] at P
    exact P
end
end

section
variable {X : Cx}
theorem peI {e : Expr} {t t' : TE} (h : PE X e t) (i : ∀ σ H Q, t' σ H Q → t σ H Q) : PE X e t' := ⟨fun pins s σ H Q I q => h.run pins s σ H Q I (i σ H Q q)⟩
theorem ptI {e : Expr} {t t' : TT} (h : PT X e t) (i : ∀ σ H Q, t' σ H Q → t σ H Q) : PT X e t' := ⟨fun pins s σ H Q I q => h.run pins s σ H Q I (i σ H Q q)⟩
theorem paI {e : List Expr} {t t' : TA} (h : PA X e t) (i : ∀ σ H Q, t' σ H Q → t σ H Q) : PA X e t' := ⟨fun pos pins s σ H Q I q => h.run pos pins s σ H Q I (i σ H Q q)⟩
theorem psI {e : Stmt} {t t' : TS} (h : PS X e t) (i : ∀ D σ H, t' D σ H → t D σ H) : PS X e t' := ⟨fun pins s σ H D I q => h.run pins s σ H D I (i D σ H q)⟩
theorem pssI {e : List Stmt} {t t' : TS} (h : PSs X e t) (i : ∀ D σ H, t' D σ H → t D σ H) : PSs X e t' := ⟨fun pins s σ H D I q => h.run pins s σ H D I (i D σ H q)⟩
end

def dVar (i : Nat) : DE := fun s h => match s[i]? with
  | some (some (.exn _ _)) => .stuck
  | some (some v) => .ok v h
  | _ => .stuck
def dC (v : AV) : DE := fun _ h => .ok v h
/-- values that lie in the written part, or nowhere -/
def RW0 (W : Wd) (v : AV) (x : V) : Prop := ∀ io H, RV W io H v x

section
variable {W : Wd} {M : Md W} {E : WX} {X : Cx}
theorem vD {i : Nat} {e : Expr} (h : PE X e (tVar i)) : PE X e (tD W M E (dVar i)) := peI h fun σ H Q ⟨io, hp, as, rl, S, P⟩ => by
  unfold dVar at P
  cases z : as[i]? with
  | none =>
    rw [z] at P
    exact P.elim
  | some o =>
    rw [z] at P
    cases o with
    | none => exact P.elim
    | some v =>
      have hn : ∀ t fs, v ≠ .exn t fs := fun t fs q => by
        subst q
        exact P.elim
      obtain ⟨x, e, r⟩ := M.var S z hn
      refine ⟨x, e, ?_⟩
      cases v with
      | exn t fs => exact absurd rfl (hn t fs)
      | _ => exact P.ok rl r
theorem cD {v : AV} {x : V} {e : Expr} (h : PE X e (tC x)) (r : RW0 W v x) : PE X e (tD W M E (dC v)) := peI h fun σ H Q ⟨io, hp, as, rl, S, P⟩ => P.ok rl (r io H)
end

abbrev D1 := AV → Hep → Op AV
abbrev DL := List AV → Hep → Op AV
def t1 (W : Wd) (r : D1) : V → Hp → VK → Prop := fun x H Q => ∃ io hp a, Rl W io hp H ∧ RV W io H a x ∧ Pop W (RV W) Q io H (r a hp)
def tl (W : Wd) (r : DL) : List V → Hp → VK → Prop := fun xs H Q => ∃ io hp as, Rl W io hp H ∧ RVs W io H as xs ∧ Pop W (RV W) Q io H (r as hp)
def dOp (r : D2) (f g : DE) : DE := fun s h => (f s h).bind fun a h1 => (g s h1).bind fun b h2 => R.of (r a b h2)
def dUn (r : D1) (f : DE) : DE := fun s h => (f s h).bind fun a h1 => R.of (r a h1)
def dCB (r : DL) (f : DA) : DE := fun s h => (f s h).bind fun a h1 => R.of (r a h1)
def dNil : DA := fun _ h => .ok [] h
def dCons (f : DE) (g : DA) : DA := fun s h => (f s h).bind fun a h1 => (g s h1).bind fun b h2 => .ok (a :: b) h2

section
variable {W : Wd} {M : Md W} {E : WX} {X : Cx} {a b c : Expr} {es : List Expr} {f g k : DE} {fa ga : DA} {r : D2} {pos : Pos}
theorem op_imp {F : Value → Value → Sem Value} {r r' : R2} (h : OpR X F r) (i : ∀ x y H Q, r' x y H Q → r x y H Q) : OpR X F r' := fun pins s σ H x y v u Q I r1 r2 q => h pins s σ H x y v u Q I r1 r2 (i x y H Q q)
theorem call_imp {F : Value} {r r' : List V → Hp → VK → Prop} (h : CallR X F r) (i : ∀ x H Q, r' x H Q → r x H Q) : CallR X F r' := fun pins s σ H xs us Q I rr q => h pins s σ H xs us Q I rr (i xs H Q q)
/-- two parts -/
theorem op_in {σ : L2.St} {H : Hp} {Q : VK} (h : tD W M E (dOp r f g) σ H Q) : tOp (t2 W r) (tD W M E f) (tD W M E g) σ H Q := by
  obtain ⟨io, hp, as, rl, S, P⟩ := h
  refine (step (rh := RV W) (f := f) rl S P).imp fun x H1 ⟨io2, hp2, a, e2, rl2, ra, P2⟩ => ?_
  refine (step (rh := RV W) (f := g) rl2 (M.mono e2 S) P2).imp fun y H4 ⟨io5, hp5, b, e5, rl5, rb, P5⟩ => ?_
  exact ⟨io5, hp5, a, b, rl5, ra.mono e5, rb, P5.of⟩
theorem un_in {r : D1} {σ : L2.St} {H : Hp} {Q : VK} (h : tD W M E (dUn r f) σ H Q) : tUn (t1 W r) (tD W M E f) σ H Q := by
  obtain ⟨io, hp, as, rl, S, P⟩ := h
  exact (step (rh := RV W) (f := f) rl S P).imp fun x H1 ⟨io2, hp2, a, e2, rl2, ra, P2⟩ => ⟨io2, hp2, a, rl2, ra, P2.of⟩
theorem cb_in {r : DL} {σ : L2.St} {H : Hp} {Q : VK} (h : tD W M E (dCB r fa) σ H Q) : tCB (tl W r) (tDA W M E fa) σ H Q := by
  obtain ⟨io, hp, as, rl, S, P⟩ := h
  exact (step (rh := RVs W) (f := fa) rl S P).imp fun x H1 ⟨io2, hp2, a, e2, rl2, ra, P2⟩ => ⟨io2, hp2, a, rl2, ra, P2.of⟩
theorem nil_in {σ : L2.St} {H : Hp} {Q : List V → Hp → Prop} (h : tDA W M E dNil σ H Q) : tNil σ H Q := by
  obtain ⟨io, hp, as, rl, S, P⟩ := h
  exact P.ok rl .nil
theorem cons_in {σ : L2.St} {H : Hp} {Q : List V → Hp → Prop} (h : tDA W M E (dCons f fa) σ H Q) : tCons (tD W M E f) (tDA W M E fa) σ H Q := by
  obtain ⟨io, hp, as, rl, S, P⟩ := h
  refine (step (rh := RV W) (f := f) rl S P).imp fun x H1 ⟨io2, hp2, a, e2, rl2, ra, P2⟩ => ?_
  refine (step (rh := RVs W) (f := fa) rl2 (M.mono e2 S) P2).imp fun y H4 ⟨io5, hp5, b, e5, rl5, rb, P5⟩ => ?_
  exact P5.ok rl5 (.cons (ra.mono e5) rb)
theorem nD : PA X [] (tDA W M E dNil) := paI pa_nil fun _ _ _ h => nil_in h
theorem aD (ha : PE X a (tD W M E f)) (hr : PA X es (tDA W M E fa)) (hs : starEach (a :: es) X.env = (false, eval a X.env) :: starEach es X.env := by rfl) : PA X (a :: es) (tDA W M E (dCons f fa)) :=
  paI (pa_cons ha hr hs) fun _ _ _ h => cons_in h
theorem opD {op : Operator} (ho : OpR X (binaryOp op) (t2 W r)) (ha : PE X a (tD W M E f)) (hb : PE X b (tD W M E g)) : PE X (.BinOp a op b pos) (tD W M E (dOp r f g)) := peI (pe_op ho ha hb) fun _ _ _ h => op_in h
theorem unD {r : D1} {op : UnaryOp} (ho : UnR X (unaryOp op) (t1 W r)) (ha : PE X a (tD W M E f)) : PE X (.UnaryOp op a pos) (tD W M E (dUn r f)) := peI (pe_un ho ha) fun _ _ _ h => un_in h
theorem cmD {op : CmpOp} (ho : OpR X (compareOp op) (t2 W r)) (ha : PE X a (tD W M E f)) (hb : PE X b (tD W M E g)) (hm : behindInMarks op b = false) : PE X (.Compare a [op] [b] pos) (tD W M E (dOp r f g)) := peI (pe_cmpR ho ha hb hm) fun _ _ _ h => op_in h
end

def dTst (f : DE) : DT := fun s h => (f s h).bind fun a h1 => match a with
  | .bl b => .ok b h1
  | _ => .stuck
def dAnd (f g : DT) : DT := fun s h => (f s h).bind fun b h1 => match b with
  | true => g s h1
  | false => .ok false h1
def dOr (f g : DT) : DT := fun s h => (f s h).bind fun b h1 => match b with
  | true => .ok true h1
  | false => g s h1
def dNot (f : DT) : DT := fun s h => (f s h).bind fun b h1 => .ok (!b) h1
def dIf (c : DT) (f g : DE) : DE := fun s h => (c s h).bind fun b h1 => match b with
  | true => f s h1
  | false => g s h1
/-- a and b, a or b as values of truth -/
def dAndV (f g : DE) : DE := fun s h => (f s h).bind fun a h1 => match a with
  | .bl true => g s h1
  | .bl false => .ok (.bl false) h1
  | _ => .stuck
def dOrV (f g : DE) : DE := fun s h => (f s h).bind fun a h1 => match a with
  | .bl true => .ok (.bl true) h1
  | .bl false => g s h1
  | _ => .stuck
def dNotV (f : DE) : DE := fun s h => (f s h).bind fun a h1 => match a with
  | .bl b => .ok (.bl (!b)) h1
  | _ => .stuck
/-- a op b op' c -/
def dChn (r r' : D2) (f g k : DE) : DE := fun s h => (f s h).bind fun a h1 => (g s h1).bind fun b h2 => (R.of (r a b h2)).bind fun z h3 => match z with
  | .bl true => (k s h3).bind fun c h4 => R.of (r' b c h4)
  | .bl false => .ok (.bl false) h3
  | _ => .stuck
section
variable {W : Wd} {M : Md W} {E : WX} {X : Cx} {a b c : Expr} {es : List Expr} {f g k : DE} {ft gt : DT} {r r' : D2} {pos : Pos}
theorem RV.bl_inv {io : List Addr} {H : Hp} {b : Bool} {x : V} (h : RV W io H (.bl b) x) : x = .bl b := by
  cases h
  rfl
theorem RV.int_inv {io : List Addr} {H : Hp} {b : Int} {x : V} (h : RV W io H (.int b) x) : x = .int b := by
  cases h
  rfl
theorem RV.str_inv {io : List Addr} {H : Hp} {b : Str} {x : V} (h : RV W io H (.str b) x) : x = .str b := by
  cases h
  rfl
theorem RV.non_inv {io : List Addr} {H : Hp} {x : V} (h : RV W io H .non x) : x = .non := by
  cases h
  rfl
theorem tst_in {σ : L2.St} {H : Hp} {Q : Bool → Hp → Prop} (h : tDT W M E (dTst f) σ H Q) : tB (tD W M E f) σ H Q := by
  obtain ⟨io, hp, as, rl, S, P⟩ := h
  refine (step (rh := RV W) (f := f) rl S P).imp fun x H1 ⟨io2, hp2, a, e2, rl2, ra, P2⟩ => ?_
  cases a with
  | bl b =>
    obtain rfl := ra.bl_inv
    exact ⟨b, rfl, P2.ok rl2 rfl⟩
  | _ => exact P2.elim
theorem tstD (h : PE X a (tD W M E f)) (he : ∀ whole, isTrue a X.env whole = (do let v ← whole; standAt a.pos; holding [v] (truthy v)) := by intro _; rfl) : PT X a (tDT W M E (dTst f)) := ptI (pt_val h he) fun _ _ _ q => tst_in q
theorem and_in {σ : L2.St} {H : Hp} {Q : Bool → Hp → Prop} (h : tDT W M E (dAnd ft gt) σ H Q) : tAnd (tDT W M E ft) (tDT W M E gt) σ H Q := by
  obtain ⟨io, hp, as, rl, S, P⟩ := h
  refine (step (rh := fun _ _ b c => b = c) (f := ft) rl S P).imp fun x H1 ⟨io2, hp2, a, e2, rl2, ra, P2⟩ => ?_
  subst ra
  cases a with
  | true => exact iteT ⟨io2, hp2, as, rl2, M.mono e2 S, P2⟩
  | false => exact iteF (P2.ok rl2 rfl)
theorem or_in {σ : L2.St} {H : Hp} {Q : Bool → Hp → Prop} (h : tDT W M E (dOr ft gt) σ H Q) : tOr (tDT W M E ft) (tDT W M E gt) σ H Q := by
  obtain ⟨io, hp, as, rl, S, P⟩ := h
  refine (step (rh := fun _ _ b c => b = c) (f := ft) rl S P).imp fun x H1 ⟨io2, hp2, a, e2, rl2, ra, P2⟩ => ?_
  subst ra
  cases a with
  | true => exact iteT (P2.ok rl2 rfl)
  | false => exact iteF ⟨io2, hp2, as, rl2, M.mono e2 S, P2⟩
theorem not_in {σ : L2.St} {H : Hp} {Q : Bool → Hp → Prop} (h : tDT W M E (dNot ft) σ H Q) : tNot (tDT W M E ft) σ H Q := by
  obtain ⟨io, hp, as, rl, S, P⟩ := h
  refine (step (rh := fun _ _ b c => b = c) (f := ft) rl S P).imp fun x H1 ⟨io2, hp2, a, e2, rl2, ra, P2⟩ => ?_
  subst ra
  exact P2.ok rl2 rfl
/-- the words for tests: and, or with their last part, not, another -/
theorem and1D (ha : PT X a (tDT W M E ft)) : PW X (.BoolOp .And [a] pos) (tDT W M E ft) := pw_and1 ha
theorem or1D (ha : PT X a (tDT W M E ft)) : PW X (.BoolOp .Or [a] pos) (tDT W M E ft) := pw_or1 ha
theorem pwI {e : Expr} {t t' : TT} (h : PW X e t) (i : ∀ σ H Q, t' σ H Q → t σ H Q) : PW X e t' := ⟨fun wh pins s σ H Q I q => h.run wh pins s σ H Q I (i σ H Q q)⟩
theorem andD (ha : PT X a (tDT W M E ft)) (hb : PW X (.BoolOp .And (b :: es) pos) (tDT W M E gt)) : PW X (.BoolOp .And (a :: b :: es) pos) (tDT W M E (dAnd ft gt)) := pwI (pw_and ha hb) fun _ _ _ h => and_in h
theorem orD (ha : PT X a (tDT W M E ft)) (hb : PW X (.BoolOp .Or (b :: es) pos) (tDT W M E gt)) : PW X (.BoolOp .Or (a :: b :: es) pos) (tDT W M E (dOr ft gt)) := pwI (pw_or ha hb) fun _ _ _ h => or_in h
theorem notD (ha : PT X a (tDT W M E ft)) : PT X (.UnaryOp .Not a pos) (tDT W M E (dNot ft)) := ptI (pt_not ha) fun _ _ _ h => not_in h
theorem if_in {σ : L2.St} {H : Hp} {Q : VK} (h : tD W M E (dIf ft f g) σ H Q) : tIf (tDT W M E ft) (tD W M E f) (tD W M E g) σ H Q := by
  obtain ⟨io, hp, as, rl, S, P⟩ := h
  refine (step (rh := fun _ _ b c => b = c) (f := ft) rl S P).imp fun x H1 ⟨io2, hp2, a, e2, rl2, ra, P2⟩ => ?_
  subst ra
  cases a with
  | true => exact iteT ⟨io2, hp2, as, rl2, M.mono e2 S, P2⟩
  | false => exact iteF ⟨io2, hp2, as, rl2, M.mono e2 S, P2⟩
theorem ifD (hc : PT X c (tDT W M E ft)) (ha : PE X a (tD W M E f)) (hb : PE X b (tD W M E g)) : PE X (.IfExp c a b pos) (tD W M E (dIf ft f g)) := peI (pe_ifExp hc ha hb) fun _ _ _ h => if_in h
theorem andV_in {σ : L2.St} {H : Hp} {Q : VK} (h : tD W M E (dAndV f g) σ H Q) : tAndV (tD W M E f) (tD W M E g) σ H Q := by
  obtain ⟨io, hp, as, rl, S, P⟩ := h
  refine (step (rh := RV W) (f := f) rl S P).imp fun x H1 ⟨io2, hp2, a, e2, rl2, ra, P2⟩ => ?_
  cases a with
  | bl b =>
    obtain rfl := ra.bl_inv
    refine ⟨b, rfl, ?_⟩
    cases b with
    | true => exact iteT ⟨io2, hp2, as, rl2, M.mono e2 S, P2⟩
    | false => exact iteF (P2.ok rl2 (.bl false))
  | _ => exact P2.elim
theorem orV_in {σ : L2.St} {H : Hp} {Q : VK} (h : tD W M E (dOrV f g) σ H Q) : tOrV (tD W M E f) (tD W M E g) σ H Q := by
  obtain ⟨io, hp, as, rl, S, P⟩ := h
  refine (step (rh := RV W) (f := f) rl S P).imp fun x H1 ⟨io2, hp2, a, e2, rl2, ra, P2⟩ => ?_
  cases a with
  | bl b =>
    obtain rfl := ra.bl_inv
    refine ⟨b, rfl, ?_⟩
    cases b with
    | true => exact iteT (P2.ok rl2 (.bl true))
    | false => exact iteF ⟨io2, hp2, as, rl2, M.mono e2 S, P2⟩
  | _ => exact P2.elim
theorem notV_in {σ : L2.St} {H : Hp} {Q : VK} (h : tD W M E (dNotV f) σ H Q) : tNotV (tD W M E f) σ H Q := by
  obtain ⟨io, hp, as, rl, S, P⟩ := h
  refine (step (rh := RV W) (f := f) rl S P).imp fun x H1 ⟨io2, hp2, a, e2, rl2, ra, P2⟩ => ?_
  cases a with
  | bl b =>
    obtain rfl := ra.bl_inv
    exact ⟨b, rfl, P2.ok rl2 (.bl (!b))⟩
  | _ => exact P2.elim
theorem andVD (ha : PE X a (tD W M E f)) (hb : PE X (.BoolOp .And (b :: es) pos) (tD W M E g)) : PE X (.BoolOp .And (a :: b :: es) pos) (tD W M E (dAndV f g)) := peI (pe_and ha hb) fun _ _ _ h => andV_in h
theorem orVD (ha : PE X a (tD W M E f)) (hb : PE X (.BoolOp .Or (b :: es) pos) (tD W M E g)) : PE X (.BoolOp .Or (a :: b :: es) pos) (tD W M E (dOrV f g)) := peI (pe_or ha hb) fun _ _ _ h => orV_in h
theorem notVD (ha : PE X a (tD W M E f)) : PE X (.UnaryOp .Not a pos) (tD W M E (dNotV f)) := peI (pe_not ha) fun _ _ _ h => notV_in h
theorem oneVD {op} (ha : PE X a (tD W M E f)) : PE X (.BoolOp op [a] pos) (tD W M E f) := pe_one ha
theorem chn_in {σ : L2.St} {H : Hp} {Q : VK} (h : tD W M E (dChn r r' f g k) σ H Q) : tChain (t2 W r) (t2 W r') (tD W M E f) (tD W M E g) (tD W M E k) σ H Q := by
  obtain ⟨io, hp, as, rl, S, P⟩ := h
  refine (step (rh := RV W) (f := f) rl S P).imp fun x H1 ⟨io2, hp2, a, e2, rl2, ra, P2⟩ => ?_
  refine (step (rh := RV W) (f := g) rl2 (M.mono e2 S) P2).imp fun y H4 ⟨io5, hp5, b, e5, rl5, rb, P5⟩ => ?_
  refine ⟨io5, hp5, a, b, rl5, ra.mono e5, rb, ?_⟩
  cases z : r a b hp5 with
  | none =>
    rw [z] at P5
    exact P5
  | some q =>
    obtain ⟨v, h3⟩ := q
    rw [z] at P5
    intro io6 H6 w e6 rl6 rw6
    cases v with
    | bl c =>
      obtain rfl := rw6.bl_inv
      refine ⟨c, rfl, ?_⟩
      have P6 := Pst.later P5 e6
      cases c with
      | true =>
        refine iteT ((step (rh := RV W) (f := k) rl6 (M.mono e6 (M.mono e5 (M.mono e2 S))) P6).imp fun w7 H7 ⟨io7, hp7, d, e7, rl7, rd, P7⟩ => ?_)
        exact ⟨io7, hp7, b, d, rl7, rb.mono (e6.trans e7), rd, P7.of⟩
      | false => exact iteF (P6.ok rl6 (.bl false))
    | _ => exact P5.elim
theorem chnD {op op' : CmpOp} (ho : OpR X (compareOp op) (t2 W r)) (ho' : OpR X (compareOp op') (t2 W r')) (ha : PE X a (tD W M E f)) (hb : PE X b (tD W M E g)) (hc : PE X c (tD W M E k)) (hm : lastMarks [op, op'] [b, c] = false := by rfl) : PE X (.Compare a [op, op'] [b, c] pos) (tD W M E (dChn r r' f g k)) := peI (pe_chain ho ho' ha hb hc hm) fun _ _ _ h => chn_in h
theorem cmT {op : CmpOp} (ho : OpR X (compareOp op) (t2 W r)) (ha : PE X a (tD W M E f)) (hb : PE X b (tD W M E g)) (hm : behindInMarks op b = false) : PT X (.Compare a [op] [b] pos) (tDT W M E (dTst (dOp r f g))) :=
  ptI (pt_cmpR ho ha hb hm) fun σ H Q h => by
    obtain ⟨io, hp, as, rl, S, P⟩ := h
    refine op_in (M := M) (E := E) ?_
    exact (tst_in (f := dOp r f g) ⟨io, hp, as, rl, S, P⟩ : tB (tD W M E (dOp r f g)) σ H Q)
theorem chT {op op' : CmpOp} (ho : OpR X (compareOp op) (t2 W r)) (ho' : OpR X (compareOp op') (t2 W r')) (ha : PE X a (tD W M E f)) (hb : PE X b (tD W M E g)) (hc : PE X c (tD W M E k)) (hm : lastMarks [op, op'] [b, c] = false := by rfl) : PT X (.Compare a [op, op'] [b, c] pos) (tDT W M E (dTst (dChn r r' f g k))) :=
  ptI (pt_chain ho ho' ha hb hc hm) fun σ H Q h => chn_in (M := M) (E := E) (tst_in (f := dChn r r' f g k) h : tB (tD W M E (dChn r r' f g k)) σ H Q)
end

def dSkip : DS := fun s h => .nx s h
def dSeq (f g : DS) : DS := fun s h => (f s h).then g
def dDrop (f : DE) : DS := fun s h => (f s h).st s fun _ h1 => .nx s h1
def dRet (f : DE) : DS := fun s h => (f s h).st s fun v h1 => .rt v h1
def dSet (i : Nat) (f : DE) : DS := fun s h => (f s h).st s fun v h1 => .nx (s.set i (some v)) h1
def dIfS (c : DT) (f g : DS) : DS := fun s h => (c s h).st s fun b h1 => match b with
  | true => f s h1
  | false => g s h1
section
variable {W : Wd} {M : Md W} {E : WX} {X : Cx} {a b c : Expr} {st : Stmt} {sts sts' : List Stmt} {f g k : DE} {ft gt : DT} {fs gs : DS} {pos : Pos}
theorem skip_in {D : Ends} {σ : L2.St} {H : Hp} (h : tS W M E dSkip D σ H) : tNext D σ H := by
  obtain ⟨io, hp, as, rl, S, P⟩ := h
  exact P io H σ Ext.refl rl S
theorem seq_in {D : Ends} {σ : L2.St} {H : Hp} (h : tS W M E (dSeq fs gs) D σ H) : tSeq (tS W M E fs) (tS W M E gs) D σ H := by
  obtain ⟨io, hp, as, rl, S, P⟩ := h
  refine ⟨io, hp, as, rl, S, ?_⟩
  have P' : Pss W M E D io H ((fs as hp).then gs) := P
  cases z : fs as hp with
  | nx s h =>
    rw [z] at P'
    exact fun io' H' σ' e rl' S' => ⟨io', h, s, rl', S', Pss.later P' e⟩
  | rt s h =>
    rw [z] at P'
    exact P'
  | bk s h =>
    rw [z] at P'
    exact P'
  | ct s h =>
    rw [z] at P'
    exact P'
  | exc t fs s h =>
    rw [z] at P'
    exact P'
  | stuck =>
    rw [z] at P'
    exact P'
theorem ss0 : PSs X [] (tS W M E dSkip) := pssI pss_nil fun _ _ _ h => skip_in h
theorem ssC (h1 : PS X st (tS W M E fs)) (h2 : PSs X sts (tS W M E gs)) : PSs X (st :: sts) (tS W M E (dSeq fs gs)) := pssI (pss_cons h1 h2) fun _ _ _ h => seq_in h
theorem ss1 (h1 : PS X st (tS W M E fs)) : PSs X [st] (tS W M E fs) := pss_one h1
theorem sExpr (he : PE X a (tD W M E f)) (hs : swapsWith a none pos.line X.env = pure false := by rfl) : PS X (.Expr a pos) (tS W M E (dDrop f)) := psI (ps_expr he hs) fun D σ H h => by
  obtain ⟨io, hp, as, rl, S, P⟩ := h
  exact (stepS (rh := RV W) (f := f) rl S P).imp fun x H1 ⟨io2, hp2, a, e2, rl2, ra, P2⟩ => P2 io2 H1 σ Ext.refl rl2 (M.mono e2 S)
theorem sRet (he : PE X a (tD W M E f)) : PS X (.Return (some a) pos) (tS W M E (dRet f)) := psI (ps_ret he) fun D σ H h => by
  obtain ⟨io, hp, as, rl, S, P⟩ := h
  exact (stepS (rh := RV W) (f := f) rl S P).imp fun x H1 ⟨io2, hp2, a, e2, rl2, ra, P2⟩ => P2 io2 H1 x Ext.refl rl2 ra
theorem sSet {i : Nat} {x : Str} {pos' : Pos} (hN : X.N.Nodup) (hi : X.N[i]? = some x) (hx : Loc X.env.scope x) (he : PE X a (tD W M E f)) (ho : M.ok i) (hs : swapsWith a (some (.Name x pos')) pos.line X.env = pure false := by rfl)
    (hf : X.fn x = true ∨ X.env.scope.names.lookup x = some .local := by first | exact .inl rfl | exact .inr rfl | assumption) : PS X (.Assign [.Name x pos'] a pos) (tS W M E (dSet i f)) := psI (ps_set hN hi hx he hs hf) fun D σ H h => by
  obtain ⟨io, hp, as, rl, S, P⟩ := h
  exact (stepS (rh := RV W) (f := f) rl S P).imp fun x H1 ⟨io2, hp2, a, e2, rl2, ra, P2⟩ => P2 io2 H1 _ Ext.refl rl2 (M.set (M.mono e2 S) ra ho)
theorem sIf (hc : PT X c (tDT W M E ft)) (ha : PSs X sts (tS W M E fs)) (hb : PSs X sts' (tS W M E gs)) : PS X (.If c sts sts' pos) (tS W M E (dIfS ft fs gs)) := psI (ps_if hc ha hb) fun D σ H h => by
  obtain ⟨io, hp, as, rl, S, P⟩ := h
  refine (stepS (rh := fun _ _ b c => b = c) (f := ft) rl S P).imp fun x H1 ⟨io2, hp2, a, e2, rl2, ra, P2⟩ => ?_
  subst ra
  cases a with
  | true => exact iteT ⟨io2, hp2, as, rl2, M.mono e2 S, P2⟩
  | false => exact iteF ⟨io2, hp2, as, rl2, M.mono e2 S, P2⟩
end
end Dn
namespace L2
open PySem PySem.Spec PyProof.Rows
theorem tuple_mul1 (l : Addr) (items : Array Value) (n : Nat) (dd : Option Addr) (sl : Array (Option Value)) (u : Tok) :
    Meets (Builtin.«tuple.__mul__» ⟨[.ref l, .int 1 u], []⟩) (fun _ R s => s.heap.get? l = some { cls := .type "tuple", dict := dd, data := .seq items n, slots := sl } ∧ R (.ok (.ret (Value.ref l))) s) :=
  .of_wp fun prog w A R s h => by
    obtain ⟨hp, g, d, tk, os⟩ := s
    obtain ⟨hl, h⟩ := h
    have f1 := AutoSeq1.idx_int
    wp_walk using wpAny_loadPart' hl
    exact ⟨_, rfl, h⟩
theorem tuple_mul0 (l : Addr) (items : Array Value) (n : Nat) (dd : Option Addr) (sl : Array (Option Value)) (u : Tok) (c1 : items.isEmpty = false) :
    Meets (Builtin.«tuple.__mul__» ⟨[.ref l, .int 0 u], []⟩) (fun _ R s => s.heap.get? l = some { cls := .type "tuple", dict := dd, data := .seq items n, slots := sl } ∧
      R (.ok (.ret (Value.ref s.heap.objs.size))) { s with heap := s.heap.push { cls := Value.type "tuple", data := Data.seq #[] }, toks := s.toks }) :=
  .of_wp fun prog w A R s h => by
    obtain ⟨hp, g, d, tk, os⟩ := s
    obtain ⟨hl, h⟩ := h
    have f1 := AutoSeq1.idx_int
    wp_walk using wpAny_loadPart' hl
    exact ⟨_, rfl, h⟩
def rRepT1 (K : PySem.W.Frag) : R2 := fun x y H Q => ∃ l xs, x = .ref l ∧ y = .int 1 ∧ SqT K H l xs ∧ Q (.ref l) H
def rRepT0 (K : PySem.W.Frag) : R2 := fun x y H Q => ∃ l xs, x = .ref l ∧ y = .int 0 ∧ SqT K H l xs ∧ xs ≠ [] ∧ ∀ p, H p = none → Q (.ref p) (upd H p (.tup []))
section
variable {X : Cx}
theorem op_repT1 : OpR X (binaryOp .Mult) (rRepT1 X.K) := by
  intro pins s σ H x y v u Q I rx ry h
  obtain ⟨l, xs, rfl, rfl, hT, q⟩ := h
  cases rx
  obtain ⟨t, rfl⟩ := ry
  obtain ⟨its, r, ⟨⟨cls, dd, data, sl⟩, ho, hc, n, hd⟩, hs⟩ := I.tuple hT
  simp only at hc hd
  subst hc hd
  refine wpAny_binaryOp_repeat_ref (T := "tuple") (U := "int") (by decide) ⟨_, ho, rfl⟩ (fun s' => typeIs_int s' 1 t) noFill_tuple_mul F.fills_int_mul F.slot_int_rmul repeat_tuple F.slot_int_index.lookup
    (call_meets F.slot_int_rmul (typeIs_int s 1 t) F.entry_int_rmul (F.args_int_rmul_2 _ _) (int_rmul_tuple 1 t l its.toArray n dd sl)
      ⟨ho, rfl, ⟨_, ho, rfl⟩, call_meets F.slot_tuple_mul ⟨_, ho, rfl⟩ F.entry_tuple_mul (F.args_tuple_mul_2 _ _) (tuple_mul1 l its.toArray n dd sl t) ⟨ho, ?_⟩⟩)
  exact ⟨.ref l, H, I, rfl, q⟩
theorem op_repT0 : OpR X (binaryOp .Mult) (rRepT0 X.K) := by
  intro pins s σ H x y v u Q I rx ry h
  obtain ⟨l, xs, rfl, rfl, hT, hne, q⟩ := h
  cases rx
  obtain ⟨t, rfl⟩ := ry
  obtain ⟨its, r, ⟨⟨cls, dd, data, sl⟩, ho, hc, n, hd⟩, hs⟩ := I.tuple hT
  simp only at hc hd
  subst hc hd
  have hle : its.length = xs.length := r.length.symm
  have hi : its.toArray.isEmpty = false := by
    cases its with
    | nil => exact absurd (List.eq_nil_of_length_eq_zero hle.symm) hne
    | cons a b => rfl
  refine wpAny_binaryOp_repeat_ref (T := "tuple") (U := "int") (by decide) ⟨_, ho, rfl⟩ (fun s' => typeIs_int s' 0 t) noFill_tuple_mul F.fills_int_mul F.slot_int_rmul repeat_tuple F.slot_int_index.lookup
    (call_meets F.slot_int_rmul (typeIs_int s 0 t) F.entry_int_rmul (F.args_int_rmul_2 _ _) (int_rmul_tuple 0 t l its.toArray n dd sl)
      ⟨ho, rfl, ⟨_, ho, rfl⟩, call_meets F.slot_tuple_mul ⟨_, ho, rfl⟩ F.entry_tuple_mul (F.args_tuple_mul_2 _ _) (tuple_mul0 l its.toArray n dd sl t hi) ⟨ho, ?_⟩⟩)
  refine ⟨.ref s.heap.objs.size, _, I.laid (t' := s.toks) (o := .tup []) (fun b ob q => Heap.get?_push_of_some _ q) (Nat.le_refl _) ?_, rfl, q _ (I.hok.fresh (Nat.le_refl _))⟩
  exact ⟨by decide, [], .nil, IsTup.new _ _⟩
end
end L2
namespace Dn
open PySem PySem.Spec PyProof.Rows L2

/-- the longest list, the longest text -/
abbrev SZ : Nat := 1000000
theorem szL {n : Nat} (h : n ≤ SZ) : n ≤ sizeLine := by
  rw [sizeLine_eq]
  exact Nat.le_trans h (by decide)
theorem szT {n : Nat} (h : n < SZ) : n < sizeLine := by
  rw [sizeLine_eq]
  exact Nat.lt_of_lt_of_le h (by decide)

def mkL (xs : List AV) (h : Hep) : Op AV := if xs.length ≤ SZ then some (.ref h.length, h ++ [AO.lst xs]) else none
def mkT (xs : List AV) (h : Hep) : Op AV := if xs.length ≤ SZ then some (.tup xs, h) else none
/-- a list that may be read -/
def lstOf (h : Hep) : AV → Option (List AV)
  | .ref n => match h[n]? with
    | some (.lst xs) => some xs
    | _ => none
  | .rol xs => some xs
  | _ => none
def seqOf (h : Hep) (a : AV) : Option (List AV) := match tupOf a with
  | some xs => some xs
  | none => lstOf h a

section
variable {W : Wd} {io : List Addr} {H : Hp} {hp : Hep}
theorem Rl.atLen (R : Rl W io hp H) (p : Addr) : (io ++ [p])[hp.length]? = some p := by
  rw [List.getElem?_append_right (by rw [R.len]; exact Nat.le_refl _), R.len]
  simp
theorem mkL_in {Q : VK} {xs : List AV} {vs : List V} (P : Pop W (RV W) Q io H (mkL xs hp)) (R : Rl W io hp H) (r : RVs W io H xs vs) : vs.length ≤ sizeLine ∧ ∀ p, H p = none → Q (.ref p) (upd H p (.lst vs)) := by
  unfold mkL at P
  by_cases h : xs.length ≤ SZ
  · rw [if_pos h] at P
    refine ⟨by rw [← r.len]; exact szL h, fun p hn => ?_⟩
    have e := Ext.new (W := W) io (.lst vs) hn [p]
    exact P _ _ _ e (R.new hn (.lst (r.mono e))) (.ref (R.atLen p))
  · rw [if_neg h] at P
    exact P.elim
theorem mkT_in {Q : VK} {xs : List AV} {vs : List V} (P : Pop W (RV W) Q io H (mkT xs hp)) (R : Rl W io hp H) (r : RVs W io H xs vs) :
    vs.length ≤ sizeLine ∧ (∀ p, H p = none → Q (.ref p) (upd H p (.tup vs))) ∧ ∀ a, SqT W.K H a vs → Q (.ref a) H := by
  unfold mkT at P
  by_cases h : xs.length ≤ SZ
  · rw [if_pos h] at P
    refine ⟨by rw [← r.len]; exact szL h, fun p hn => ?_, fun a ha => ?_⟩
    · have e : Ext W io H io (upd H p (.tup vs)) := Ext.new0 hn
      exact P _ _ _ e (R.other hn) (.tup (SqT.of upd_same) (r.mono e))
    · exact P _ _ _ Ext.refl R (.tup ha r)
  · rw [if_neg h] at P
    exact P.elim
theorem roL_sq {K : PySem.W.Frag} {a : Addr} {vs : List V} (h : RoL K H a vs) : SqL K H a vs := by
  rcases h with ⟨o, h⟩ | (h | h)
  · exact .inl (.inr ⟨o, h⟩)
  · rcases h with h | ⟨o, h⟩
    · cases h
    · cases h
  · exact .inr h
theorem lstOf_in {a : AV} {v : V} {xs : List AV} (e : lstOf hp a = some xs) (R : Rl W io hp H) (r : RV W io H a v) : ∃ p vs, v = .ref p ∧ SqL W.K H p vs ∧ RVs W io H xs vs := by
  cases r with
  | ref h =>
    rename_i n p
    unfold lstOf at e
    cases z : hp[n]? with
    | none =>
      simp only [z] at e
      cases e
    | some o =>
      simp only [z] at e
      cases o with
      | lst ys =>
        cases e
        obtain ⟨vs, e1, r1⟩ := R.lst h z
        exact ⟨p, vs, rfl, SqL.of e1, r1⟩
      | _ => cases e
  | rol h q =>
    cases e
    exact ⟨_, _, rfl, roL_sq h, q⟩
  | _ => cases e
theorem tupOf_in {a : AV} {v : V} {xs : List AV} (e : tupOf a = some xs) (r : RV W io H a v) : ∃ p vs, v = .ref p ∧ SqT W.K H p vs ∧ RVs W io H xs vs := by
  cases r with
  | tup h q =>
    cases e
    exact ⟨_, _, rfl, h, q⟩
  | _ => cases e
theorem seqOf_in {a : AV} {v : V} {xs : List AV} (e : seqOf hp a = some xs) (R : Rl W io hp H) (r : RV W io H a v) : ∃ p vs, v = .ref p ∧ (SqL W.K H p vs ∨ SqT W.K H p vs) ∧ RVs W io H xs vs := by
  unfold seqOf at e
  cases z : tupOf a with
  | some ys =>
    rw [z] at e
    cases e
    obtain ⟨p, vs, a1, a2, a3⟩ := tupOf_in z r
    exact ⟨p, vs, a1, .inr a2, a3⟩
  | none =>
    rw [z] at e
    obtain ⟨p, vs, a1, a2, a3⟩ := lstOf_in e R r
    exact ⟨p, vs, a1, .inl a2, a3⟩
end

def mulOk (i j : Int) : Bool := decide (-(2 ^ 64) < i ∧ i < 2 ^ 64) || (decide (-(2 ^ 64) < j ∧ j < 2 ^ 64) || decide (i.natAbs < 2 ^ 1000 ∧ j.natAbs < 2 ^ 1000))
def addAV : D2 := fun a b h => match a, b with
  | .int i, .int j => some (.int (i + j), h)
  | .str x, .str y => if x.length + y.length ≤ SZ then some (.str (x ++ y), h) else none
  | .tup xs, .tup ys => mkT (xs ++ ys) h
  | .ref m, .ref n => (match h[m]?, h[n]? with
    | some (.lst xs), some (.lst ys) => mkL (xs ++ ys) h
    | _, _ => none)
  | _, _ => none
def subAV : D2 := fun a b h => match a, b with
  | .int i, .int j => some (.int (i - j), h)
  | _, _ => none
def mulAV : D2 := fun a b h => match a, b with
  | .int i, .int j => if mulOk i j = true then some (.int (i * j), h) else none
  | .ref m, .int k => (match h[m]? with
    | some (.lst xs) => if -(2 ^ 63) ≤ k ∧ k < 2 ^ 63 then mkL (List.replicate k.toNat xs).flatten h else none
    | _ => none)
  | .tup xs, .int k => if xs ≠ [] ∧ xs.length ≤ 1000 ∧ 0 ≤ k ∧ k ≤ 1000 then mkT (List.replicate k.toNat xs).flatten h else none
  | _, _ => none
def fdivAV : D2 := fun a b h => match a, b with
  | .int i, .int j => if 0 < j ∧ j < 1073741824 then some (.int (i / j), h) else none
  | _, _ => none
def modAV : D2 := fun a b h => match a, b with
  | .int i, .int j => if 0 < j then some (.int (i % j), h) else none
  | _, _ => none
def powAV : D2 := fun a b h => match a, b with
  | .int i, .int j => if 0 ≤ j ∧ j ≤ 100 ∧ i.natAbs < 2 ^ 1000 then some (.int (i ^ j.toNat), h) else none
  | _, _ => none
def negAV : D1 := fun a h => match a with
  | .int i => some (.int (-i), h)
  | _ => none

section
variable {W : Wd} {X : Cx}
theorem oAdd (hK : X.K = W.K) : OpR X (binaryOp .Add) (t2 W addAV) := op_imp (((op_add.or op_add_str).or op_cat).or op_catA) fun x y H Q ⟨io, hp, a, b, rl, ra, rb, P⟩ => by
  rw [hK]
  cases a with
  | int i =>
    cases b with
    | int j =>
      obtain rfl := ra.int_inv
      obtain rfl := rb.int_inv
      exact .inl (.inl (.inl ⟨i, j, rfl, rfl, P.ok rl (.int _)⟩))
    | _ => exact P.elim
  | str i =>
    cases b with
    | str j =>
      obtain rfl := ra.str_inv
      obtain rfl := rb.str_inv
      have P' : Pop W (RV W) Q io H (if i.length + j.length ≤ SZ then some (.str (i ++ j), hp) else none) := P
      by_cases h : i.length + j.length ≤ SZ
      · rw [if_pos h] at P'
        exact .inl (.inl (.inr ⟨i, j, rfl, rfl, szL h, P'.ok rl (.str _)⟩))
      · rw [if_neg h] at P'
        exact P'.elim
    | _ => exact P.elim
  | tup xs =>
    cases b with
    | tup ys =>
      obtain ⟨p, vs, rfl, h1, r1⟩ := tupOf_in (xs := xs) rfl ra
      obtain ⟨q, ws, rfl, h2, r2⟩ := tupOf_in (xs := ys) rfl rb
      obtain ⟨z, k1, k2⟩ := mkT_in P rl (r1.app r2)
      refine .inr ⟨p, q, vs, ws, rfl, rfl, h1, h2, by simpa using z, fun e => ?_, fun _ e => ?_, fun _ _ => k1⟩
      · subst e
        exact k2 q (by simpa using h2)
      · subst e
        exact k2 p (by simpa using h1)
    | _ => exact P.elim
  | ref m =>
    cases b with
    | ref n =>
      have P' : Pop W (RV W) Q io H (match hp[m]?, hp[n]? with
        | some (.lst xs), some (.lst ys) => mkL (xs ++ ys) hp
        | _, _ => none) := P
      cases z1 : hp[m]? with
      | none =>
        rw [z1] at P'
        exact P'.elim
      | some o1 =>
        cases o1 with
        | lst xs =>
          cases z2 : hp[n]? with
          | none =>
            rw [z1, z2] at P'
            exact P'.elim
          | some o2 =>
            cases o2 with
            | lst ys =>
              rw [z1, z2] at P'
              cases ra with
              | ref e1 =>
                cases rb with
                | ref e2 =>
                  obtain ⟨vs, a1, r1⟩ := rl.lst e1 z1
                  obtain ⟨ws, a2, r2⟩ := rl.lst e2 z2
                  obtain ⟨z, k1⟩ := mkL_in P' rl (r1.app r2)
                  exact .inl (.inr ⟨_, _, vs, ws, rfl, rfl, a1, a2, by simpa using z, k1⟩)
            | _ =>
              rw [z1, z2] at P'
              exact P'.elim
        | _ =>
          rw [z1] at P'
          exact P'.elim
    | _ => exact P.elim
  | _ => exact P.elim
theorem oSub : OpR X (binaryOp .Sub) (t2 W subAV) := op_imp op_sub fun x y H Q ⟨io, hp, a, b, rl, ra, rb, P⟩ => by
  cases a with
  | int i =>
    cases b with
    | int j =>
      obtain rfl := ra.int_inv
      obtain rfl := rb.int_inv
      exact ⟨i, j, rfl, rfl, P.ok rl (.int _)⟩
    | _ => exact P.elim
  | _ => exact P.elim
theorem mulOk_ok {i j : Int} (h : mulOk i j = true) : IntMulOk i j := by
  unfold mulOk at h
  simp only [Bool.or_eq_true, decide_eq_true_eq] at h
  rcases h with h | h | h
  · exact CMul.ok (.inl h)
  · exact CMul.ok (.inr h)
  · exact CMulW.ok (wide_mul h.1 h.2 (by decide) (by decide) (by decide))
theorem op_mulA : OpR X (binaryOp .Mult) (rI (fun i j => mulOk i j = true) fun i j => .int (i * j)) := opI fun _ _ _ _ _ _ _ hc q => mul_int q (mulOk_ok hc)
theorem oMul (hK : X.K = W.K) : OpR X (binaryOp .Mult) (t2 W mulAV) := op_imp ((op_mulA.or op_rep).or ((op_repT.or op_repT1).or op_repT0)) fun x y H Q ⟨io, hp, a, b, rl, ra, rb, P⟩ => by
  rw [hK]
  cases a with
  | int i =>
    cases b with
    | int j =>
      obtain rfl := ra.int_inv
      obtain rfl := rb.int_inv
      have P' : Pop W (RV W) Q io H (if mulOk i j = true then some (.int (i * j), hp) else none) := P
      by_cases h : mulOk i j = true
      · rw [if_pos h] at P'
        exact .inl (.inl ⟨i, j, rfl, rfl, h, P'.ok rl (.int _)⟩)
      · rw [if_neg h] at P'
        exact P'.elim
    | _ => exact P.elim
  | ref m =>
    cases b with
    | int k =>
      obtain rfl := rb.int_inv
      have P' : Pop W (RV W) Q io H (match hp[m]? with
        | some (.lst xs) => if -(2 ^ 63) ≤ k ∧ k < 2 ^ 63 then mkL (List.replicate k.toNat xs).flatten hp else none
        | _ => none) := P
      cases z1 : hp[m]? with
      | none =>
        rw [z1] at P'
        exact P'.elim
      | some o1 =>
        rw [z1] at P'
        cases o1 with
        | lst xs =>
          have P2 : Pop W (RV W) Q io H (if -(2 ^ 63) ≤ k ∧ k < 2 ^ 63 then mkL (List.replicate k.toNat xs).flatten hp else none) := P'
          by_cases h : -(2 ^ 63) ≤ k ∧ k < 2 ^ 63
          · rw [if_pos h] at P2
            cases ra with
            | ref e1 =>
              obtain ⟨vs, a1, r1⟩ := rl.lst e1 z1
              obtain ⟨z, k1⟩ := mkL_in P2 rl (r1.rep k.toNat)
              refine .inl (.inr ⟨_, k, vs, rfl, rfl, a1, h.1, h.2, ?_, k1⟩)
              simpa [Nat.mul_comm] using z
          · rw [if_neg h] at P2
            exact P2.elim
        | _ => exact P'.elim
    | _ => exact P.elim
  | tup xs =>
    cases b with
    | int k =>
      obtain rfl := rb.int_inv
      have P' : Pop W (RV W) Q io H (if xs ≠ [] ∧ xs.length ≤ 1000 ∧ 0 ≤ k ∧ k ≤ 1000 then mkT (List.replicate k.toNat xs).flatten hp else none) := P
      by_cases h : xs ≠ [] ∧ xs.length ≤ 1000 ∧ 0 ≤ k ∧ k ≤ 1000
      · rw [if_pos h] at P'
        obtain ⟨p, vs, rfl, h1, r1⟩ := tupOf_in (xs := xs) rfl ra
        obtain ⟨z, k1, k2⟩ := mkT_in P' rl (r1.rep k.toNat)
        have hl : vs.length = xs.length := r1.len.symm
        have hne : vs ≠ [] := fun e => h.1 (List.eq_nil_of_length_eq_zero (by rw [← hl, e]; rfl))
        by_cases h2 : 2 ≤ k
        · exact .inr (.inl (.inl ⟨p, k, vs, rfl, rfl, h1, hne, h2, h.2.2.2, by rw [hl]; exact h.2.1, k1⟩))
        · by_cases h3 : k = 1
          · subst h3
            exact .inr (.inl (.inr ⟨p, vs, rfl, rfl, h1, k2 p (by simpa using h1)⟩))
          · have h4 : k = 0 := by omega
            subst h4
            exact .inr (.inr ⟨p, vs, rfl, rfl, h1, hne, k1⟩)
      · rw [if_neg h] at P'
        exact P'.elim
    | _ => exact P.elim
  | _ => exact P.elim
theorem oFdiv : OpR X (binaryOp .FloorDiv) (t2 W fdivAV) := op_imp op_fdiv fun x y H Q ⟨io, hp, a, b, rl, ra, rb, P⟩ => by
  cases a with
  | int i =>
    cases b with
    | int j =>
      obtain rfl := ra.int_inv
      obtain rfl := rb.int_inv
      have P' : Pop W (RV W) Q io H (if 0 < j ∧ j < 1073741824 then some (.int (i / j), hp) else none) := P
      by_cases h : 0 < j ∧ j < 1073741824
      · rw [if_pos h] at P'
        exact ⟨i, j, rfl, rfl, h, P'.ok rl (.int _)⟩
      · rw [if_neg h] at P'
        exact P'.elim
    | _ => exact P.elim
  | _ => exact P.elim
theorem oMod : OpR X (binaryOp .Mod) (t2 W modAV) := op_imp op_mod fun x y H Q ⟨io, hp, a, b, rl, ra, rb, P⟩ => by
  cases a with
  | int i =>
    cases b with
    | int j =>
      obtain rfl := ra.int_inv
      obtain rfl := rb.int_inv
      have P' : Pop W (RV W) Q io H (if 0 < j then some (.int (i % j), hp) else none) := P
      by_cases h : 0 < j
      · rw [if_pos h] at P'
        exact ⟨i, j, rfl, rfl, h, P'.ok rl (.int _)⟩
      · rw [if_neg h] at P'
        exact P'.elim
    | _ => exact P.elim
  | _ => exact P.elim
theorem op_powA : OpR X (binaryOp .Pow) (rI (fun i j => 0 ≤ j ∧ j ≤ 100 ∧ i.natAbs < 2 ^ 1000) fun i j => .int (i ^ j.toNat)) := opI fun i j _ _ _ _ _ hc q => pow_int hc.1 (by
  have hb : Builtin.Int.intBits i ≤ 1000 := by
    unfold Builtin.Int.intBits
    split
    · omega
    · have := PySem.Flt.log2_lt_of (k := 1000) (by decide) hc.2.2
      omega
  have h2 := hc.2.1
  have h0 := hc.1
  have : (Builtin.Int.intBits i : Int) * j ≤ 1000 * 100 := Int.mul_le_mul (by omega) h2 h0 (by decide)
  exact Int.le_trans this (by decide)) q
theorem oPow : OpR X (binaryOp .Pow) (t2 W powAV) := op_imp op_powA fun x y H Q ⟨io, hp, a, b, rl, ra, rb, P⟩ => by
  cases a with
  | int i =>
    cases b with
    | int j =>
      obtain rfl := ra.int_inv
      obtain rfl := rb.int_inv
      have P' : Pop W (RV W) Q io H (if 0 ≤ j ∧ j ≤ 100 ∧ i.natAbs < 2 ^ 1000 then some (.int (i ^ j.toNat), hp) else none) := P
      by_cases h : 0 ≤ j ∧ j ≤ 100 ∧ i.natAbs < 2 ^ 1000
      · rw [if_pos h] at P'
        exact ⟨i, j, rfl, rfl, h, P'.ok rl (.int _)⟩
      · rw [if_neg h] at P'
        exact P'.elim
    | _ => exact P.elim
  | _ => exact P.elim
theorem uNeg : UnR X (unaryOp .USub) (t1 W negAV) := fun pins s σ H x v Q I rx ⟨io, hp, a, rl, ra, P⟩ => by
  cases a with
  | int i =>
    obtain rfl := ra.int_inv
    exact un_neg pins s σ H _ v Q I rx ⟨i, rfl, P.ok rl (.int _)⟩
  | _ => exact P.elim
end

section
variable {W : Wd} {io : List Addr} {H : Hp} {hp : Hep}
theorem mapM_cons_some {A B : Type} {f : A → Option B} {x : A} {xs : List A} {ds : List B} (h : (x :: xs).mapM f = some ds) : ∃ d r, f x = some d ∧ xs.mapM f = some r ∧ ds = d :: r := by
  rw [List.mapM_cons] at h
  cases e : f x with
  | none =>
    rw [e] at h
    cases h
  | some d =>
    rw [e] at h
    cases e2 : xs.mapM f with
    | none =>
      rw [e2] at h
      cases h
    | some r =>
      rw [e2] at h
      cases h
      exact ⟨d, r, rfl, rfl, rfl⟩
theorem toD_list (n : Nat) (ih : ∀ (a : AV) (v : V) (d : PyData), toD n hp a = some d → RV W io H a v → Dp W.K H v d) : ∀ (xs : List AV) (vs : List V) (ds : List PyData), xs.mapM (toD n hp) = some ds → RVs W io H xs vs → DpAll W.K H vs ds
  | [], _, ds, h, .nil => by
    cases h
    exact .nil
  | x :: xs, _, ds, h, .cons r q => by
    obtain ⟨d, rr, h1, h2, rfl⟩ := mapM_cons_some h
    exact .cons (ih x _ d h1 r) (toD_list n ih xs _ rr h2 q)
theorem toD_in (R : Rl W io hp H) : ∀ (n : Nat) (a : AV) (v : V) (d : PyData), toD n hp a = some d → RV W io H a v → Dp W.K H v d
  | 0, _, _, _, h, _ => by cases h
  | n + 1, a, v, d, h, r => by
    have ih := toD_in R n
    cases r with
    | non =>
      cases h
      exact .non
    | bl b =>
      cases h
      exact .bl b
    | int i =>
      cases h
      exact .int i
    | str x =>
      cases h
      exact .str x
    | tup s q =>
      rename_i xs
      have h' : (xs.mapM (toD n hp)).map .tuple = some d := h
      obtain ⟨ds, h1, rfl⟩ := Option.map_eq_some_iff.mp h'
      exact .tup s (toD_list n ih _ _ ds h1 q)
    | rol s q =>
      rename_i xs
      have h' : (xs.mapM (toD n hp)).map .list = some d := h
      obtain ⟨ds, h1, rfl⟩ := Option.map_eq_some_iff.mp h'
      exact .lst (roL_sq s) (toD_list n ih _ _ ds h1 q)
    | ref e =>
      rename_i k p
      have h' : (match hp[k]? with
        | some (.lst xs) => (xs.mapM (toD n hp)).map .list
        | _ => none) = some d := h
      cases z : hp[k]? with
      | none =>
        rw [z] at h'
        cases h'
      | some o =>
        rw [z] at h'
        cases o with
        | lst xs =>
          have h2 : (xs.mapM (toD n hp)).map .list = some d := h'
          obtain ⟨ds, h1, rfl⟩ := Option.map_eq_some_iff.mp h2
          obtain ⟨vs, e1, r1⟩ := R.lst e z
          exact .lst (SqL.of e1) (toD_list n ih _ _ ds h1 r1)
        | _ => cases h'
    | adr a => cases h
    | exi _ => cases h
    | ndc _ => cases h
    | slc => cases h
    | ty a => cases h
    | cls a => cases h
end
/-- the depth of data -/
abbrev DD : Nat := 50
def eqD (a b : AV) (h : Hep) : Option Bool := match toD DD h a, toD DD h b with
  | some d, some e => if SeqAt.shaped d = true ∧ SeqAt.shaped e = true then some (PyData.eqv d e) else none
  | _, _ => none
def eqAV : D2 := fun a b h => (eqD a b h).map fun c => (.bl c, h)
def neAV : D2 := fun a b h => (eqD a b h).map fun c => (.bl (!c), h)
section
variable {W : Wd} {X : Cx}
theorem eqD_in {io : List Addr} {H : Hp} {hp : Hep} {a b : AV} {x y : V} {c : Bool} (e : eqD a b hp = some c) (R : Rl W io hp H) (ra : RV W io H a x) (rb : RV W io H b y) :
    ∃ d f, Dp W.K H x d ∧ Dp W.K H y f ∧ SeqAt.shaped d = true ∧ SeqAt.shaped f = true ∧ c = PyData.eqv d f := by
  unfold eqD at e
  cases z1 : toD DD hp a with
  | none =>
    rw [z1] at e
    cases e
  | some d =>
    cases z2 : toD DD hp b with
    | none =>
      rw [z1, z2] at e
      cases e
    | some f =>
      rw [z1, z2] at e
      have e' : (if SeqAt.shaped d = true ∧ SeqAt.shaped f = true then some (PyData.eqv d f) else none) = some c := e
      by_cases h : SeqAt.shaped d = true ∧ SeqAt.shaped f = true
      · rw [if_pos h] at e'
        cases e'
        exact ⟨d, f, toD_in R DD a x d z1 ra, toD_in R DD b y f z2 rb, h.1, h.2, rfl⟩
      · rw [if_neg h] at e'
        cases e'
theorem oEq (hK : X.K = W.K) (hu : X.A.units + 64 < cLine) : OpR X (compareOp .Eq) (t2 W eqAV) := op_imp (op_eqD hu) fun x y H Q ⟨io, hp, a, b, rl, ra, rb, P⟩ => by
  rw [hK]
  unfold eqAV at P
  cases z : eqD a b hp with
  | none =>
    rw [z] at P
    exact P.elim
  | some c =>
    rw [z] at P
    obtain ⟨d, f, h1, h2, h3, h4, rfl⟩ := eqD_in z rl ra rb
    exact ⟨d, f, h1, h2, h3, h4, Pop.ok P rl (.bl _)⟩
theorem oNe (hK : X.K = W.K) (hu : X.A.units + 64 < cLine) : OpR X (compareOp .NotEq) (t2 W neAV) := op_imp (op_neD hu) fun x y H Q ⟨io, hp, a, b, rl, ra, rb, P⟩ => by
  rw [hK]
  unfold neAV at P
  cases z : eqD a b hp with
  | none =>
    rw [z] at P
    exact P.elim
  | some c =>
    rw [z] at P
    obtain ⟨d, f, h1, h2, h3, h4, rfl⟩ := eqD_in z rl ra rb
    exact ⟨d, f, h1, h2, h3, h4, Pop.ok P rl (.bl _)⟩
end
end Dn
namespace Dn
open PySem PySem.Spec PyProof.Rows L2

section
variable {k : Type} [DecidableEq k]
def ddrop (kvs : List (k × AV)) (q : k) : List (k × AV) := kvs.filter fun kv => decide (kv.1 ≠ q)
variable {W : Wd} {io : List Addr} {H : Hp}
theorem RKs.drop : ∀ {xs : List (k × AV)} {vs : List (k × V)} (q : k), RKs W io H xs vs → RKs W io H (ddrop xs q) (dropK vs q)
  | _, _, _, .nil => .nil
  | (q', x) :: xs, (_, w) :: vs, q, .cons r t => by
    have ih := RKs.drop q t
    unfold ddrop dropK at ih ⊢
    by_cases e : q' = q
    · simp only [List.filter_cons, e, ne_eq, not_true_eq_false, decide_false]
      exact ih
    · simp only [List.filter_cons, ne_eq, e, not_false_eq_true, decide_true, if_true]
      exact .cons r ih
end
def keyOf : AV → Option Key
  | .int i => some (.inl i)
  | .str x => some (.inr x)
  | _ => none
section
variable {W : Wd} {io : List Addr} {H : Hp}
theorem keyOf_in {a : AV} {v : V} {q : Key} (e : keyOf a = some q) (r : RV W io H a v) : v = kV q := by
  cases r with
  | int i =>
    cases e
    rfl
  | str x =>
    cases e
    rfl
  | _ => cases e
theorem rv_key (q : Key) : RV W io H (ofKey q) (kV q) := by
  cases q with
  | inl i => exact .int i
  | inr x => exact .str x
end

def cmpAV (fi : Int → Int → Bool) (fs : List Nat → List Nat → Bool) : D2 := fun a b h => match a, b with
  | .int i, .int j => some (.bl (fi i j), h)
  | .str x, .str y => some (.bl (fs x.cps.toList y.cps.toList), h)
  | _, _ => none
abbrev ltAV : D2 := cmpAV (fun i j => decide (i < j)) (fun x y => decide (x < y))
abbrev leAV : D2 := cmpAV (fun i j => decide (i ≤ j)) (fun x y => !decide (y < x))
abbrev gtAV : D2 := cmpAV (fun i j => decide (j < i)) (fun x y => decide (y < x))
abbrev geAV : D2 := cmpAV (fun i j => decide (j ≤ i)) (fun x y => !decide (x < y))
def isNonB : AV → Bool
  | .non => true
  | _ => false
def isNonAV : D2 := fun a b h => match b with
  | .non => some (.bl (isNonB a), h)
  | _ => none
def notNonAV : D2 := fun a b h => match b with
  | .non => some (.bl (!isNonB a), h)
  | _ => none
section
variable {W : Wd} {X : Cx}
theorem cmp_in {op : CmpOp} {fi : Int → Int → Bool} {fs : List Nat → List Nat → Bool} (h1 : OpR X (compareOp op) (rI0 fun i j => .bl (fi i j))) (h2 : OpR X (compareOp op) (fun x y H Q => ∃ i j, x = .str i ∧ y = .str j ∧ Q (.bl (fs i.cps.toList j.cps.toList)) H)) :
    OpR X (compareOp op) (t2 W (cmpAV fi fs)) := op_imp (h1.or h2) fun x y H Q ⟨io, hp, a, b, rl, ra, rb, P⟩ => by
  cases a with
  | int i =>
    cases b with
    | int j =>
      obtain rfl := ra.int_inv
      obtain rfl := rb.int_inv
      exact .inl ⟨i, j, rfl, rfl, P.ok rl (.bl _)⟩
    | _ => exact P.elim
  | str i =>
    cases b with
    | str j =>
      obtain rfl := ra.str_inv
      obtain rfl := rb.str_inv
      exact .inr ⟨i, j, rfl, rfl, P.ok rl (.bl _)⟩
    | _ => exact P.elim
  | _ => exact P.elim
theorem oLt : OpR X (compareOp .Lt) (t2 W ltAV) := cmp_in op_lt op_lt_str
theorem oLe : OpR X (compareOp .LtE) (t2 W leAV) := cmp_in op_le op_le_str
theorem oGt : OpR X (compareOp .Gt) (t2 W gtAV) := cmp_in op_gt op_gt_str
theorem oGe : OpR X (compareOp .GtE) (t2 W geAV) := cmp_in op_ge op_ge_str
theorem non_dec {io : List Addr} {H : Hp} {a : AV} {v : V} (r : RV W io H a v) : isNonB a = decide (v = .non) := by
  cases r <;> rfl
theorem oIs : OpR X (compareOp .Is) (t2 W isNonAV) := op_imp op_isN fun x y H Q ⟨io, hp, a, b, rl, ra, rb, P⟩ => by
  cases b with
  | non =>
    obtain rfl := rb.non_inv
    refine ⟨rfl, ?_⟩
    rw [← non_dec ra]
    exact Pop.ok P rl (.bl _)
  | _ => exact P.elim
theorem oIsNot : OpR X (compareOp .IsNot) (t2 W notNonAV) := op_imp op_notN fun x y H Q ⟨io, hp, a, b, rl, ra, rb, P⟩ => by
  cases b with
  | non =>
    obtain rfl := rb.non_inv
    refine ⟨rfl, ?_⟩
    rw [← non_dec ra]
    exact Pop.ok P rl (.bl _)
  | _ => exact P.elim
end

def flatA : AV → Bool
  | .non => true
  | .bl _ => true
  | .int _ => true
  | .str _ => true
  | _ => false
def toV0 : AV → V
  | .bl b => .bl b
  | .int i => .int i
  | .str x => .str x
  | _ => .non
def inStr (x y : Str) : Bool := !(Builtin.Str.occurrences y x 0 y.length 1).isEmpty
/-- is a in b -/
def inB (a b : AV) (h : Hep) : Option Bool := match b with
  | .str y => (match a with
    | .str x => some (inStr x y)
    | _ => none)
  | .tup xs => if flatA a = true ∧ xs.all flatA = true then some (inV (toV0 a) (xs.map toV0)) else none
  | .ref n => (match h[n]? with
    | some (.lst xs) => (match toD DD h a, xs.mapM (toD DD h) with
      | some d, some ds => if SeqAt.shaped d = true ∧ SeqAt.shaped (.list ds) = true then some (ds.any fun z => PyData.eqv z d) else none
      | _, _ => none)
    | some (.dK kvs) => (keyOf a).map fun q => (dget kvs q).isSome
    | some (.frz (.dK kvs)) => (keyOf a).map fun q => (dget kvs q).isSome
    | _ => none)
  | _ => none
def inAV : D2 := fun a b h => (inB a b h).map fun c => (.bl c, h)
section
variable {W : Wd} {X : Cx}
theorem flat_in {io : List Addr} {H : Hp} {a : AV} {v : V} (r : RV W io H a v) (f : flatA a = true) : v = toV0 a ∧ flatV v = true := by
  cases r with
  | non => exact ⟨rfl, rfl⟩
  | bl b => exact ⟨rfl, rfl⟩
  | int b => exact ⟨rfl, rfl⟩
  | str b => exact ⟨rfl, rfl⟩
  | _ => cases f
theorem flats_in {io : List Addr} {H : Hp} : ∀ {xs : List AV} {vs : List V}, RVs W io H xs vs → xs.all flatA = true → vs = xs.map toV0 ∧ vs.all flatV = true
  | _, _, .nil, _ => ⟨rfl, rfl⟩
  | _, _, .cons r t, f => by
    rw [List.all_cons, Bool.and_eq_true] at f
    obtain ⟨e1, e2⟩ := flat_in r f.1
    obtain ⟨e3, e4⟩ := flats_in t f.2
    refine ⟨by rw [List.map_cons, ← e1, ← e3], ?_⟩
    rw [List.all_cons, e2, e4]
    rfl
/-- what a dict gives, by values -/
def rDIn (neg : Bool) : R2 := fun y x H Q => ∃ a o, x = .ref a ∧ DGet H a y o ∧ Q (.bl (if neg then !o.isSome else o.isSome)) H
theorem op_dIn (hu : X.A.units + 1 < cLine) : OpR X (compareOp .In) (rDIn false) := fun pins s σ H x y v u Q I rx ry ⟨a, o, ey, g, q⟩ => by
  subst ey
  obtain rfl : u = Value.ref a := ry
  exact d_in hu I g rx fun s3 I3 => ⟨.bl o.isSome, H, I3, rfl, q⟩
/-- the four ways of «in» -/
def rIn4 (K : PySem.W.Frag) (neg : Bool) : R2 := fun x y H Q =>
  ((∃ i j, x = .str i ∧ y = .str j ∧ Q (.bl (if neg then !(inStr i j) else inStr i j)) H) ∨ rIn K neg x y H Q) ∨
  ((∃ d ds, Dp K H x d ∧ Dp K H y (.list ds) ∧ SeqAt.shaped d = true ∧ SeqAt.shaped (.list ds) = true ∧ Q (.bl (if neg then !(ds.any fun z => PyData.eqv z d) else ds.any fun z => PyData.eqv z d)) H) ∨ rDIn neg x y H Q)
theorem op_in4 (hu : X.A.units + 65 < cLine) : OpR X (compareOp .In) (rIn4 X.K false) :=
  OpR.or (OpR.or op_in_str op_in_seq) (OpR.or (op_inD hu) (op_dIn (by omega)))
theorem dget_in {io : List Addr} {H : Hp} {p : Addr} {kvs : List (Key × AV)} {vs : List (Key × V)} {a : AV} {x : V} {q : Key} (hr : Rd H p (.dK vs)) (r : RKs W io H kvs vs) (e : keyOf a = some q) (ra : RV W io H a x) :
    ∃ o, DGet H p x o ∧ RVo W io H (dget kvs q) o := ⟨_, .inl ⟨vs, q, hr, keyOf_in e ra, rfl⟩, r.get q⟩
theorem RVo.some_eq {io : List Addr} {H : Hp} {o : Option AV} {o' : Option V} (r : RVo W io H o o') : o.isSome = o'.isSome := by
  cases o <;> cases o' <;> first | rfl | exact r.elim
theorem inB_in {io : List Addr} {H : Hp} {hp : Hep} {neg : Bool} {a b : AV} {x y : V} {c : Bool} {Q : VK} (e : inB a b hp = some c) (R : Rl W io hp H) (ra : RV W io H a x) (rb : RV W io H b y)
    (q : Q (.bl (if neg then !c else c)) H) : rIn4 W.K neg x y H Q := by
  cases b with
  | str j =>
    cases a with
    | str i =>
      cases e
      obtain rfl := ra.str_inv
      obtain rfl := rb.str_inv
      exact .inl (.inl ⟨i, j, rfl, rfl, q⟩)
    | _ => cases e
  | tup xs =>
    have e' : (if flatA a = true ∧ xs.all flatA = true then some (inV (toV0 a) (xs.map toV0)) else none) = some c := e
    by_cases h : flatA a = true ∧ xs.all flatA = true
    · rw [if_pos h] at e'
      cases e'
      obtain ⟨p, vs, rfl, h1, r1⟩ := tupOf_in (xs := xs) rfl rb
      obtain ⟨e1, e2⟩ := flat_in ra h.1
      obtain ⟨e3, e4⟩ := flats_in r1 h.2
      rw [← e1, ← e3] at q
      exact .inl (.inr ⟨p, vs, rfl, .inr h1, e2, e4, q⟩)
    · rw [if_neg h] at e'
      cases e'
  | ref n =>
    cases rb with
    | ref hi =>
      rename_i p
      have e0 : (match hp[n]? with
        | some (.lst xs) => (match toD DD hp a, xs.mapM (toD DD hp) with
          | some d, some ds => if SeqAt.shaped d = true ∧ SeqAt.shaped (.list ds) = true then some (ds.any fun z => PyData.eqv z d) else none
          | _, _ => none)
        | some (.dK kvs) => (keyOf a).map fun q => (dget kvs q).isSome
        | some (.frz (.dK kvs)) => (keyOf a).map fun q => (dget kvs q).isSome
        | _ => none) = some c := e
      cases z : hp[n]? with
      | none =>
        rw [z] at e0
        cases e0
      | some o =>
        rw [z] at e0
        cases o with
        | lst xs =>
          have e1 : (match toD DD hp a, xs.mapM (toD DD hp) with
            | some d, some ds => if SeqAt.shaped d = true ∧ SeqAt.shaped (.list ds) = true then some (ds.any fun z => PyData.eqv z d) else none
            | _, _ => none) = some c := e0
          cases z1 : toD DD hp a with
          | none =>
            rw [z1] at e1
            cases e1
          | some d =>
            cases z2 : xs.mapM (toD DD hp) with
            | none =>
              rw [z1, z2] at e1
              cases e1
            | some ds =>
              rw [z1, z2] at e1
              have e2 : (if SeqAt.shaped d = true ∧ SeqAt.shaped (.list ds) = true then some (ds.any fun z => PyData.eqv z d) else none) = some c := e1
              by_cases h : SeqAt.shaped d = true ∧ SeqAt.shaped (.list ds) = true
              · rw [if_pos h] at e2
                cases e2
                obtain ⟨vs, e3, r3⟩ := R.lst hi z
                exact .inr (.inl ⟨d, ds, toD_in R DD a x d z1 ra, .lst (SqL.of e3) (toD_list DD (toD_in R DD) xs vs ds z2 r3), h.1, h.2, q⟩)
              · rw [if_neg h] at e2
                cases e2
        | dK kvs =>
          obtain ⟨w, e1, rfl⟩ := Option.map_eq_some_iff.mp (show (keyOf a).map (fun q => (dget kvs q).isSome) = some c from e0)
          obtain ⟨vs, e3, r3⟩ := R.dK hi z
          obtain ⟨o, g, ro⟩ := dget_in (.inl e3) r3 e1 ra
          rw [ro.some_eq] at q
          exact .inr (.inr ⟨p, o, rfl, g, q⟩)
        | frz o2 =>
          cases o2 with
          | dK kvs =>
            obtain ⟨w, e1, rfl⟩ := Option.map_eq_some_iff.mp (show (keyOf a).map (fun q => (dget kvs q).isSome) = some c from e0)
            obtain ⟨u, e3, r3⟩ := R.at hi z
            cases r3 with
            | frz r4 =>
              cases r4 with
              | dK r5 =>
                obtain ⟨o, g, ro⟩ := dget_in (.inr ⟨_, e3⟩) r5 e1 ra
                rw [ro.some_eq] at q
                exact .inr (.inr ⟨p, o, rfl, g, q⟩)
          | _ => cases e0
        | ins t fs => cases e0
        | dT kvs => cases e0
  | _ => cases e
theorem oIn (hK : X.K = W.K) (hu : X.A.units + 65 < cLine) : OpR X (compareOp .In) (t2 W inAV) := op_imp (op_in4 hu) fun x y H Q ⟨io, hp, a, b, rl, ra, rb, P⟩ => by
  rw [hK]
  unfold inAV at P
  cases z : inB a b hp with
  | none =>
    rw [z] at P
    exact P.elim
  | some c =>
    rw [z] at P
    exact inB_in (neg := false) z rl ra rb (Pop.ok P rl (.bl _))
end

def cutA (xs : List AV) (lo hi : Option Int) : List AV := (xs.drop (HT.sIx xs.length 0 lo)).take (HT.sIx xs.length xs.length hi - HT.sIx xs.length 0 lo)
def idxAV : D2 := fun a b h => match seqOf h a with
  | some xs => (match b with
    | .int i => (atI xs i).map fun v => (v, h)
    | _ => none)
  | none => (match a with
    | .str z => (match b with
      | .int i => if z.length ≤ SZ then (atI z.cps.toList i).map fun c => (.str ⟨#[c]⟩, h) else none
      | _ => none)
    | .ref n => (match h[n]? with
      | some (.dK kvs) => (keyOf b).bind fun q => (dget kvs q).map fun v => (v, h)
      | some (.frz (.dK kvs)) => (keyOf b).bind fun q => (dget kvs q).map fun v => (v, h)
      | _ => none)
    | _ => none)
def sliceAV (a : AV) (lo hi : Option Int) (h : Hep) : Op AV := match tupOf a with
  | some xs => mkT (cutA xs lo hi) h
  | none => (match lstOf h a with
    | some xs => mkL (cutA xs lo hi) h
    | none => (match a with
      | .str z => if z.length ≤ SZ then some (.str (cutS z lo hi), h) else none
      | _ => none))
section
variable {W : Wd} {X : Cx}
theorem ix_imp {r r' : R2} (h : IxR X r) (i : ∀ x y H Q, r' x y H Q → r x y H Q) : IxR X r' := fun value slice pins s σ H x y v u Q I r1 r2 q => h value slice pins s σ H x y v u Q I r1 r2 (i x y H Q q)
def rIxDk : R2 := fun x y H Q => ∃ a v, x = .ref a ∧ DGet H a y (some v) ∧ Q v H
theorem ix_dict (hu : X.A.units + 1 < cLine) : IxR X rIxDk := by
  intro value slice pins s σ H x y v u Q I rx ry h hs
  obtain ⟨a, w, rfl, g, q⟩ := h
  obtain rfl : v = Value.ref a := rx
  exact tail_any (dict_typeIs I g) PySem.F.slot_dict_getitem.lookup (d_getItem hu I g ry fun w' s3 I3 rw' => ⟨w, H, I3, rw', q⟩) hs
theorem RVs.atI {io : List Addr} {H : Hp} {xs : List AV} {vs : List V} {i : Int} {x : AV} (r : RVs W io H xs vs) (e : L2.atI xs i = some x) : ∃ v, L2.atI vs i = some v ∧ RV W io H x v := by
  unfold L2.atI at e ⊢
  rw [← r.len]
  cases z : ixN xs.length i with
  | none =>
    rw [z] at e
    cases e
  | some j =>
    rw [z] at e
    exact r.get e
theorem xIdx (hK : X.K = W.K) (hu : X.A.units + 1 < cLine) : IxR X (t2 W idxAV) := ix_imp (IxR.or ix_seq (ix_dict hu)) fun x y H Q ⟨io, hp, a, b, rl, ra, rb, P⟩ => by
  rw [hK]
  unfold idxAV at P
  cases z : seqOf hp a with
  | some xs =>
    rw [z] at P
    obtain ⟨p, vs, rfl, h1, r1⟩ := seqOf_in z rl ra
    cases b with
    | int i =>
      obtain rfl := rb.int_inv
      have P' : Pop W (RV W) Q io H ((L2.atI xs i).map fun v => (v, hp)) := P
      cases z2 : L2.atI xs i with
      | none =>
        rw [z2] at P'
        exact P'.elim
      | some v =>
        rw [z2] at P'
        obtain ⟨w, e2, r2⟩ := r1.atI z2
        have q : Q w H := Pop.ok P' rl r2
        rcases h1 with h1 | h1
        · exact .inl (.inl ⟨p, vs, i, w, rfl, rfl, h1, e2, q⟩)
        · exact .inl (.inr (.inl ⟨p, vs, i, w, rfl, rfl, h1, e2, q⟩))
    | _ => exact P.elim
  | none =>
    rw [z] at P
    cases a with
    | str t =>
      obtain rfl := ra.str_inv
      cases b with
      | int i =>
        obtain rfl := rb.int_inv
        have P' : Pop W (RV W) Q io H (if t.length ≤ SZ then (L2.atI t.cps.toList i).map (fun c => (AV.str ⟨#[c]⟩, hp)) else none) := P
        by_cases h : t.length ≤ SZ
        · rw [if_pos h] at P'
          cases z2 : L2.atI t.cps.toList i with
          | none =>
            rw [z2] at P'
            exact P'.elim
          | some c =>
            rw [z2] at P'
            exact .inl (.inr (.inr ⟨t, i, c, rfl, rfl, szL h, z2, Pop.ok P' rl (.str _)⟩))
        · rw [if_neg h] at P'
          exact P'.elim
      | _ => exact P.elim
    | ref n =>
      cases ra with
      | @ref _ p hi =>
        have P0 : Pop W (RV W) Q io H (match hp[n]? with
          | some (.dK kvs) => (keyOf b).bind fun q => (dget kvs q).map fun v => (v, hp)
          | some (.frz (.dK kvs)) => (keyOf b).bind fun q => (dget kvs q).map fun v => (v, hp)
          | _ => none) := P
        have fin : ∀ {kvs : List (Key × AV)} {vs : List (Key × V)}, Rd H p (.dK vs) → RKs W io H kvs vs → Pop W (RV W) Q io H ((keyOf b).bind fun q => (dget kvs q).map fun v => (v, hp)) → rIxDk (.ref p) y H Q := by
          intro kvs vs hr r P1
          cases z2 : keyOf b with
          | none =>
            rw [z2] at P1
            exact P1.elim
          | some q =>
            rw [z2] at P1
            obtain ⟨o, g, ro⟩ := dget_in hr r z2 rb
            have P2 : Pop W (RV W) Q io H ((dget kvs q).map fun v => (v, hp)) := P1
            cases z3 : dget kvs q with
            | none =>
              rw [z3] at P2
              exact P2.elim
            | some v =>
              rw [z3] at P2 ro
              cases o with
              | none => exact ro.elim
              | some w => exact ⟨p, w, rfl, g, Pop.ok P2 rl ro⟩
        cases z1 : hp[n]? with
        | none =>
          rw [z1] at P0
          exact P0.elim
        | some o =>
          rw [z1] at P0
          cases o with
          | dK kvs =>
            obtain ⟨vs, e3, r3⟩ := rl.dK hi z1
            exact .inr (fin (.inl e3) r3 P0)
          | frz o2 =>
            cases o2 with
            | dK kvs =>
              obtain ⟨u, e3, r3⟩ := rl.at hi z1
              cases r3 with
              | frz r4 =>
                cases r4 with
                | dK r5 => exact .inr (fin (.inr ⟨_, e3⟩) r5 P0)
            | _ => exact P0.elim
          | _ => exact P0.elim
    | _ => exact P.elim
theorem ixD {a b : Expr} {f g : DE} {r : D2} {M : Md W} {E : WX} {pos : Pos} (hr : IxR X (t2 W r)) (ha : PE X a (tD W M E f)) (hb : PE X b (tD W M E g)) (hs : PlainIx b) : PE X (.Subscript a b pos) (tD W M E (dOp r f g)) := peI (pe_ix hr ha hb hs) fun _ _ _ h => op_in h

abbrev DO := Sl → Hep → R (Option Int)
def dNoP : DO := fun _ h => .ok none h
def dPrt (f : DE) : DO := fun s h => (f s h).bind fun a h1 => match a with
  | .int i => .ok (some i) h1
  | _ => .stuck
def dSlc (f : DE) (l u : DO) : DE := fun s h => (f s h).bind fun a h1 => (l s h1).bind fun lo h2 => (u s h2).bind fun hi h3 => R.of (sliceAV a lo hi h3)
abbrev rlO : Rel (Option Int) (Option Int) := fun _ _ a b => a = b
theorem poI {e : Option Expr} {t t' : TO} (h : PO X e t) (i : ∀ σ H Q, t' σ H Q → t σ H Q) : PO X e t' := ⟨fun pins s σ H Q I q => h.run pins s σ H Q I (i σ H Q q)⟩
section
variable {M : Md W} {E : WX} {e : Expr} {lo hi : Option Expr} {f : DE} {l u : DO} {pos p2 : Pos}
theorem noP : PO X none (tG W M rlO E dNoP) := poI po_none fun σ H Q ⟨io, hp, as, rl, S, P⟩ => P.ok rl rfl
theorem prtD (h : PE X e (tD W M E f)) : PO X (some e) (tG W M rlO E (dPrt f)) := poI (po_some h) fun σ H Q ⟨io, hp, as, rl, S, P⟩ =>
  (step (rh := RV W) (f := f) rl S P).imp fun x H1 ⟨io2, hp2, a, e2, rl2, ra, P2⟩ => by
    cases a with
    | int i =>
      obtain rfl := ra.int_inv
      exact ⟨i, rfl, P2.ok rl2 rfl⟩
    | _ => exact P2.elim
theorem RVs.cut {io : List Addr} {H : Hp} {xs : List AV} {vs : List V} (r : RVs W io H xs vs) (lo hi : Option Int) : RVs W io H (cutA xs lo hi) (cutV vs lo hi) := by
  unfold cutA cutV
  rw [r.len]
  exact (r.drop _).take _
theorem cut_whole {vs : List V} {lo hi : Option Int} (h : HT.sIx vs.length 0 lo = 0 ∧ HT.sIx vs.length vs.length hi = vs.length) : cutV vs lo hi = vs := by
  unfold cutV
  rw [h.1, h.2]
  simp
def rSl3 (K : PySem.W.Frag) : V → Option Int → Option Int → Hp → VK → Prop := fun x lo hi H Q => (rSlA K x lo hi H Q ∨ rSlL K x lo hi H Q) ∨ rSlS x lo hi H Q
theorem sl3 : SlR X (rSl3 X.K) := SlR.or (SlR.or sl_tupA sl_list) sl_str
theorem slcD (hK : X.K = W.K) (he : PE X e (tD W M E f)) (hl : PO X lo (tG W M rlO E l)) (hu : PO X hi (tG W M rlO E u)) : PE X (.Subscript e (.Slice lo hi none p2) pos) (tD W M E (dSlc f l u)) :=
  peI (pe_slice sl3 he hl hu) fun σ H Q ⟨io, hp, as, rl, S, P⟩ =>
    (step (rh := RV W) (f := f) rl S P).imp fun x H1 ⟨io1, hp1, a, e1, rl1, ra, P1⟩ =>
      (step (rh := rlO) (f := l) rl1 (M.mono e1 S) P1).imp fun o H2 ⟨io2, hp2, o2, e2, rl2, ro, P2⟩ =>
        (step (rh := rlO) (f := u) rl2 (M.mono e2 (M.mono e1 S)) P2).imp fun o' H3 ⟨io3, hp3, o3, e3, rl3, ro', P3⟩ => by
          subst ro ro'
          rw [hK]
          have ra := (ra.mono e2).mono e3
          have P4 := P3.of
          unfold sliceAV at P4
          cases z : tupOf a with
          | some xs =>
            rw [z] at P4
            obtain ⟨p, vs, rfl, h1, r1⟩ := tupOf_in z ra
            obtain ⟨_, k1, k2⟩ := mkT_in P4 rl3 (r1.cut o2 o3)
            exact .inl (.inl ⟨p, vs, rfl, h1, fun hw => k2 p (by rw [cut_whole hw]; exact h1), fun _ => k1⟩)
          | none =>
            rw [z] at P4
            cases z2 : lstOf hp3 a with
            | some xs =>
              rw [z2] at P4
              obtain ⟨p, vs, rfl, h1, r1⟩ := lstOf_in z2 rl3 ra
              obtain ⟨_, k1⟩ := mkL_in P4 rl3 (r1.cut o2 o3)
              exact .inl (.inr ⟨p, vs, rfl, h1, k1⟩)
            | none =>
              rw [z2] at P4
              cases a with
              | str t =>
                obtain rfl := ra.str_inv
                have P5 : Pop W (RV W) Q io3 H3 (if t.length ≤ SZ then some (AV.str (cutS t o2 o3), hp3) else none) := P4
                by_cases h : t.length ≤ SZ
                · rw [if_pos h] at P5
                  exact .inr ⟨t, rfl, szL h, Pop.ok P5 rl3 (.str _)⟩
                · rw [if_neg h] at P5
                  exact P5.elim
              | _ => exact P4.elim
end
end

def dLst (f : DA) : DE := fun s h => (f s h).bind fun xs h1 => R.of (mkL xs h1)
def dTup (f : DA) : DE := fun s h => (f s h).bind fun xs h1 => R.of (mkT xs h1)
section
variable {W : Wd} {X : Cx} {M : Md W} {E : WX} {es : List Expr} {f : DA} {pos : Pos}
theorem lstD (h : PA X es (tDA W M E f)) : PE X (.List es pos) (tD W M E (dLst f)) := peI (pe_lst h) fun σ H Q ⟨io, hp, as, rl, S, P⟩ =>
  (step (rh := RVs W) (f := f) rl S P).imp fun x H1 ⟨io2, hp2, a, e2, rl2, ra, P2⟩ => mkL_in P2.of rl2 ra
theorem tupD {k : Nat} (h : PA X es (tDA W M E f)) : PE X (.Tuple es k pos) (tD W M E (dTup f)) := peI (pe_tup h) fun σ H Q ⟨io, hp, as, rl, S, P⟩ =>
  (step (rh := RVs W) (f := f) rl S P).imp fun x H1 ⟨io2, hp2, a, e2, rl2, ra, P2⟩ => by
    obtain ⟨k1, k2, _⟩ := mkT_in P2.of rl2 ra
    exact ⟨k1, k2⟩
end
end Dn
namespace Dn
open PySem PySem.Spec PyProof.Rows L2

abbrev DI := Sl → Hep → R Src
/-- the iterator J gives what the source gives, in every later heap -/
def RSrc (W : Wd) : Rel Src It := fun io H src J => ∀ io' H' hp, Ext W io H io' H' → Rl W io' hp H' →
  (∀ i, src.next i hp = some none → J.stop i H') ∧
  ∀ i x, src.next i hp = some (some x) → J.go i H' ∧ ∀ v H2, J.yld i H' v H2 → Ext W io' H' io' H2 ∧ Rl W io' hp H2 ∧ RV W io' H2 x v

/-- a target -/
abbrev DG := AV → Sl → Option Sl
abbrev DGs := List AV → Sl → Option Sl
def dgN (i : Nat) : DG := fun v s => some (s.set i (some v))
def dgT (g : DGs) : DG := fun v s => match tupOf v with
  | some xs => g xs s
  | none => none
def dg0 : DGs := fun xs s => match xs with
  | [] => some s
  | _ => none
def dgC (g : DG) (r : DGs) : DGs := fun xs s => match xs with
  | x :: t => (g x s).bind fun s1 => r t s1
  | [] => none
/-- C: what is kept of the slots -/
abbrev CS := L2.St → L2.St → Prop
def tgG (W : Wd) (M : Md W) (C : CS) (g : DG) : TG := fun v σ H Q => ∃ io hp as x, Rl W io hp H ∧ M.rel io H as σ ∧ RV W io H x v ∧ match g x as with
  | some as' => ∀ σ', M.rel io H as' σ' → C σ σ' → Q σ' H
  | none => False
def tgGs (W : Wd) (M : Md W) (C : CS) (g : DGs) : TGs := fun vs σ H Q => ∃ io hp as xs, Rl W io hp H ∧ M.rel io H as σ ∧ RVs W io H xs vs ∧ match g xs as with
  | some as' => ∀ σ', M.rel io H as' σ' → C σ σ' → Q σ' H
  | none => False
def anyC : CS := fun _ _ => True
def wipC (vs : List Nat) : CS := fun σ σ' => wipe σ' vs = wipe σ vs
structure CSok (C : CS) : Prop where
  rf : ∀ σ, C σ σ
  tr : ∀ a b c, C a b → C b c → C a c
theorem anyC_ok : CSok anyC := ⟨fun _ => trivial, fun _ _ _ _ _ => trivial⟩
theorem wipe_set {i : Nat} {x : Option V} : ∀ {vs : List Nat} (σ : L2.St), i ∈ vs → wipe (σ.set i x) vs = wipe σ vs
  | v :: vs, σ, h => by
    unfold wipe
    by_cases e : i ∈ vs
    · rw [wipe_set σ e]
    · have ev : i = v := by
        rcases List.mem_cons.mp h with h | h
        · exact h
        · exact absurd h e
      subst ev
      apply List.ext_getElem?
      intro j
      by_cases hj : i = j
      · subst hj
        by_cases hl : i < σ.length
        · rw [List.getElem?_set_self (by rw [wipe_length]; simpa using hl), List.getElem?_set_self (by rw [wipe_length]; exact hl)]
        · rw [List.getElem?_eq_none (by simp [wipe_length]; omega), List.getElem?_eq_none (by simp [wipe_length]; omega)]
      · rw [List.getElem?_set_ne hj, List.getElem?_set_ne hj]
        by_cases hm : j ∈ vs
        · have h1 : ∀ (τ : L2.St), τ.length = σ.length → (wipe τ vs)[j]? = if j < σ.length then some none else none := fun τ hl => by
            have := wipe_at (vs := vs) τ hm
            rw [this, hl]
          rw [h1 _ (by simp), h1 _ rfl]
        · rw [wipe_out hm, wipe_out hm, List.getElem?_set_ne hj]
where
  wipe_at {j : Nat} : ∀ {vs : List Nat} (τ : L2.St), j ∈ vs → (wipe τ vs)[j]? = if j < τ.length then some none else none
    | v :: vs, τ, h => by
      unfold wipe
      by_cases e : v = j
      · subst e
        by_cases hl : v < τ.length
        · rw [List.getElem?_set_self (by rw [wipe_length]; exact hl), if_pos hl]
        · rw [List.getElem?_eq_none (by simp [wipe_length]; omega), if_neg hl]
      · rw [List.getElem?_set_ne e]
        rcases List.mem_cons.mp h with h | h
        · exact absurd h.symm e
        · exact wipe_at τ h
theorem wipe_wipe (σ : L2.St) (vs : List Nat) : wipe (wipe σ vs) vs = wipe σ vs := by
  have go : ∀ ws : List Nat, (∀ w ∈ ws, w ∈ vs) → wipe (wipe σ ws) vs = wipe σ vs := by
    intro ws
    induction ws with
    | nil => intro _; rfl
    | cons w ws ih =>
      intro h
      show wipe ((wipe σ ws).set w none) vs = _
      rw [wipe_set _ (h w List.mem_cons_self)]
      exact ih fun v hv => h v (List.mem_cons_of_mem _ hv)
  exact go vs fun _ h => h

section
variable {W : Wd} {M : Md W} {X : Cx} {pos : Pos} {C : CS}
theorem pgI {e : Expr} {t t' : TG} (h : PG X e t) (i : ∀ v σ H Q, t' v σ H Q → t v σ H Q) : PG X e t' := ⟨fun pins s σ H v u Q I r q => h.run pins s σ H v u Q I r (i v σ H Q q)⟩
theorem pgsI {e : List Expr} {t t' : TGs} (h : PGs X e t) (i : ∀ v σ H Q, t' v σ H Q → t v σ H Q) : PGs X e t' := ⟨fun pins s σ H v u Q I r q => h.run pins s σ H v u Q I r (i v σ H Q q)⟩
theorem gN {i : Nat} {x : Str} (hN : X.N.Nodup) (hi : X.N[i]? = some x) (hx : Loc X.env.scope x) (ho : M.ok i) (hC : ∀ σ v, C σ (σ.set i (some v))) (hf : X.fn x = true ∨ X.env.scope.names.lookup x = some .local := by first | exact .inl rfl | exact .inr rfl | assumption) : PG X (.Name x pos) (tgG W M C (dgN i)) :=
  pgI (pg_name hN hi hx hf) fun v σ H Q ⟨io, hp, as, y, rl, S, r, k⟩ => k _ (M.set S r ho) (hC _ _)
theorem gs0 (hC : CSok C) : PGs X [] (tgGs W M C dg0) := pgsI pgs_nil fun v σ H Q ⟨io, hp, as, xs, rl, S, r, k⟩ => by
  cases xs with
  | nil =>
    cases r
    exact ⟨rfl, k σ S (hC.rf σ)⟩
  | cons x t => exact k.elim
theorem gsC {e : Expr} {es : List Expr} {g : DG} {gs : DGs} (hC : CSok C) (h1 : PG X e (tgG W M C g)) (h2 : PGs X es (tgGs W M C gs)) (hs : (assignEach (e :: es) X.env).map (·.2) = assign e X.env :: (assignEach es X.env).map (·.2) := by rfl) : PGs X (e :: es) (tgGs W M C (dgC g gs)) :=
  pgsI (pgs_cons h1 h2 hs) fun v σ H Q ⟨io, hp, as, xs, rl, S, r, k⟩ => by
    cases xs with
    | nil => exact k.elim
    | cons x t =>
      cases r with
      | cons r1 r2 =>
        refine ⟨_, _, rfl, io, hp, as, x, rl, S, r1, ?_⟩
        have k' : match (g x as).bind (fun s1 => gs t s1) with
          | some as' => ∀ σ', M.rel io H as' σ' → C σ σ' → Q σ' H
          | none => False := k
        cases z : g x as with
        | none =>
          rw [z] at k'
          exact k'
        | some as' =>
          rw [z] at k'
          have k2 : match gs t as' with
            | some as' => ∀ σ', M.rel io H as' σ' → C σ σ' → Q σ' H
            | none => False := k'
          intro σ' S' c1
          refine ⟨io, hp, as', t, rl, S', r2, ?_⟩
          cases z2 : gs t as' with
          | none =>
            rw [z2] at k2
            exact k2
          | some as3 =>
            rw [z2] at k2
            exact fun σ3 S3 c3 => k2 σ3 S3 (hC.tr _ _ _ c1 c3)
theorem gT {es : List Expr} {kk : Nat} {gs : DGs} {n : Nat} (hK : X.K = W.K) (hc : X.calm = true) (h : PGs X es (tgGs W M C gs)) (hl : ∀ xs s, gs xs s ≠ none → xs.length = n) (hn : (assignEach es X.env).length = n := by rfl) (hst : (assignEach es X.env).findIdx? (·.1) = none := by rfl) :
    PG X (.Tuple es kk pos) (tgG W M C (dgT gs)) := pgI (pg_tup hc h hn hst) fun v σ H Q ⟨io, hp, as, y, rl, S, r, k⟩ => by
  unfold dgT at k
  cases z : tupOf y with
  | none =>
    rw [z] at k
    exact k.elim
  | some xs =>
    rw [z] at k
    obtain ⟨p, vs, rfl, h1, r1⟩ := tupOf_in z r
    rw [hK]
    refine ⟨p, vs, rfl, h1, ?_, io, hp, as, xs, rl, S, r1, k⟩
    rw [← r1.len]
    refine hl xs as fun q => ?_
    simp only [q] at k
theorem dg0_len : ∀ xs s, dg0 xs s ≠ none → xs.length = 0 := fun xs s h => by
  cases xs with
  | nil => rfl
  | cons x t => exact absurd rfl h
theorem dgC_len {g : DG} {gs : DGs} {n : Nat} (h : ∀ xs s, gs xs s ≠ none → xs.length = n) : ∀ xs s, dgC g gs xs s ≠ none → xs.length = n + 1 := fun xs s k => by
  cases xs with
  | nil => exact absurd rfl k
  | cons x t =>
    have k' : (g x s).bind (fun s1 => gs t s1) ≠ none := k
    cases z : g x s with
    | none =>
      rw [z] at k'
      exact absurd rfl k'
    | some s1 =>
      rw [z] at k'
      have := h t s1 k'
      simp [this]
end

def SR.loop (r : SR) (k : Sl → Hep → SR) : SR := match r with
  | .nx s h => k s h
  | .ct s h => k s h
  | .bk s h => .nx s h
  | r => r
def dLoop (src : Src) (g : DG) (body : DS) : Nat → Nat → Sl → Hep → SR
  | 0, _, _, _ => .stuck
  | k + 1, i, s, h => match src.next i h with
    | none => .stuck
    | some none => .nx s h
    | some (some x) => match g x s with
      | none => .stuck
      | some s1 => (body s1 h).loop fun s2 h2 => dLoop src g body k (i + 1) s2 h2
def dFor (f : DI) (g : DG) (body : DS) : DS := fun s h => (f s h).st s fun src h1 => dLoop src g body (src.len h1 + 1) 0 s h1
section
variable {W : Wd} {M : Md W} {E : WX} {X : Cx} {tg iter : Expr} {body : List Stmt} {f : DI} {g : DG} {fb : DS} {pos : Pos}
theorem sFor (hp : PassesOwn (model X.prog X.w) X.A X.env X.xe) (hc : X.calm = true) (hi : PI X tg iter (tG W M (RSrc W) E f)) (hg : PG X tg (tgG W M anyC g)) (hb : PSs X body (tS W M E fb))
    (hs : ∀ x, foldedSetIterable iter X.env x = pure x := by intro _; rfl) : PS X (.For tg iter body [] pos) (tS W M E (dFor f g fb)) :=
  psI (ps_for hp hc hi hg hb hs) fun D σ H ⟨io, hp, as, rl, S, P⟩ => by
    refine (stepS (rh := RSrc W) (f := f) rl S P).imp fun J H1 ⟨io1, hp1, src, e1, rl1, rs, P1⟩ => ?_
    refine ⟨fun i m σ2 H2 => ∃ io2 hp2 as2, Ext W io1 H1 io2 H2 ∧ Rl W io2 hp2 H2 ∧ M.rel io2 H2 as2 σ2 ∧ Pss W M E D io2 H2 (dLoop src g fb m i as2 hp2), ⟨_, io1, hp1, as, Ext.refl, rl1, M.mono e1 S, P1⟩, ?_⟩
    rintro i m σ2 H2 ⟨io2, hp2, as2, e2, rl2, S2, P2⟩
    obtain ⟨hstop, hgo⟩ := rs io2 H2 hp2 e2 rl2
    cases m with
    | zero => exact P2.elim
    | succ m =>
      unfold dLoop at P2
      cases z : src.next i hp2 with
      | none =>
        rw [z] at P2
        exact P2.elim
      | some o =>
        cases o with
        | none =>
          rw [z] at P2
          exact .inl ⟨hstop i z, P2 io2 H2 σ2 Ext.refl rl2 S2⟩
        | some x =>
          rw [z] at P2
          obtain ⟨go, hy⟩ := hgo i x z
          refine .inr ⟨go, fun σ3 H3 => ∃ io3 hp3 as3, Ext W io1 H1 io3 H3 ∧ Rl W io3 hp3 H3 ∧ M.rel io3 H3 as3 σ3 ∧ Pss W M E D io3 H3 (dLoop src g fb m (i + 1) as3 hp3), fun σ' H' q => ⟨m, Nat.lt_succ_self m, q⟩, fun v H3 hyl => ?_⟩
          obtain ⟨e3, rl3, r3⟩ := hy v H3 hyl
          refine ⟨io2, hp2, as2, x, rl3, M.mono e3 S2, r3, ?_⟩
          have P3 := Pss.later P2 e3
          cases z2 : g x as2 with
          | none =>
            simp only [z2] at P3
            exact P3
          | some as3 =>
            simp only [z2] at P3
            intro σ' S' _
            refine ⟨io2, hp2, as3, rl3, S', ?_⟩
            cases z3 : fb as3 hp2 with
            | nx s h =>
              rw [z3] at P3
              exact fun io' H' σ2 e r S2 => ⟨io', h, s, (e2.trans e3).trans e, r, S2, Pss.later P3 e⟩
            | ct s h =>
              rw [z3] at P3
              exact fun io' H' σ2 e r S2 => ⟨io', h, s, (e2.trans e3).trans e, r, S2, Pss.later P3 e⟩
            | bk s h =>
              rw [z3] at P3
              exact P3
            | rt v h =>
              rw [z3] at P3
              exact P3
            | exc t fs s h =>
              rw [z3] at P3
              exact P3
            | stuck =>
              rw [z3] at P3
              exact P3
end

section
variable {W : Wd} {M : Md W} {E : WX} {X : Cx} {c : Expr} {body : List Stmt} {ft : DT} {fb : DS} {pos : Pos}
end

def R.noX {T : Type} : R T → R T
  | .exc _ _ _ => .stuck
  | r => r
def wipeS (s : Sl) : List Nat → Sl
  | [] => s
  | v :: vs => (wipeS s vs).set v none
/-- one more item in the list at D -/
def addAt (D : Nat) (y : AV) (h : Hep) : Option Hep := match h[D]? with
  | some (.lst acc) => if acc.length < SZ then some (h.set D (.lst (acc ++ [y]))) else none
  | _ => none
def dLcL (src : Src) (g : DG) (tt : DT) (te : DE) (D : Nat) (s0 : Sl) : Nat → Nat → Hep → R AV
  | 0, _, _ => .stuck
  | k + 1, i, h => match src.next i h with
    | none => .stuck
    | some none => .ok (.ref D) h
    | some (some x) => match g x s0 with
      | none => .stuck
      | some s1 => (tt s1 h).noX.bind fun b h1 => match b with
        | false => dLcL src g tt te D s0 k (i + 1) h1
        | true => (te s1 h1).noX.bind fun y h2 => match addAt D y h2 with
          | none => .stuck
          | some h3 => dLcL src g tt te D s0 k (i + 1) h3
def dLc (f : DI) (g : DG) (tt : DT) (te : DE) (vs : List Nat) : DE := fun s h => (f s h).bind fun src h1 => dLcL src g tt te h1.length (wipeS s vs) (src.len h1 + 1) 0 (h1 ++ [AO.lst []])
def dYes : DT := fun _ h => .ok true h
section
variable {W : Wd} {M : Md W} {E : WX} {X : Cx} {pos : Pos}
theorem wipe_rel {io : List Addr} {H : Hp} {as : Sl} {σ : L2.St} (S : M.rel io H as σ) : ∀ {vs : List Nat}, (∀ v ∈ vs, M.ok v) → M.rel io H (wipeS as vs) (wipe σ vs)
  | [], _ => S
  | v :: vs, h => M.wipe (wipe_rel S fun w hw => h w (List.mem_cons_of_mem _ hw)) (h v List.mem_cons_self)
theorem step0 {T U T' U' : Type} {rh : Rel T U} {rh' : Rel T' U'} {σ σ0 : L2.St} {H : Hp} {io : List Addr} {hp : Hep} {as : Sl} {f : Sl → Hep → R T} {k : T → Hep → R T'} {Q : U' → Hp → Prop} (rl : Rl W io hp H) (S : M.rel io H as σ)
    (P : Pst W rh' E σ0 Q io H ((f as hp).noX.bind k)) : tG W M rh E0x f σ H (fun x H1 => ∃ io1 hp1 a, Ext W io H io1 H1 ∧ Rl W io1 hp1 H1 ∧ rh io1 H1 a x ∧ Pst W rh' E σ0 Q io1 H1 (k a hp1)) := by
  refine ⟨io, hp, as, rl, S, ?_⟩
  cases e : f as hp with
  | ok a hp1 =>
    rw [e] at P
    exact fun io' H' x e' r' q => ⟨io', hp1, a, e', r', q, Pst.later P e'⟩
  | exc t fs hp1 =>
    rw [e] at P
    exact P.elim
  | stuck =>
    rw [e] at P
    exact P
theorem lc_in {f : DI} {g : DG} {tt : DT} {te : DE} {vs : List Nat} {σ : L2.St} {H : Hp} {Q : VK} (ok : ∀ v ∈ vs, M.ok v)
    (h : tD W M E (dLc f g tt te vs) σ H Q) : tLc (tG W M (RSrc W) E f) (tgG W M (wipC vs) g) (tDT W M E0x tt) (tD W M E0x te) vs σ H Q := by
  obtain ⟨io, hp, as, rl, S, P⟩ := h
  refine (step (rh := RSrc W) (f := f) rl S P).imp fun J H1 ⟨io1, hp1, src, e1, rl1, rs, P1⟩ => ?_
  intro D hD
  have eD := Ext.new (W := W) io1 (.lst []) hD [D]
  have rlD : Rl W (io1 ++ [D]) (hp1 ++ [AO.lst []]) (upd H1 D (.lst [])) := rl1.new hD (.lst .nil)
  have wS : M.rel io1 H1 (wipeS as vs) (wipe σ vs) := wipe_rel (M.mono e1 S) ok
  have atD := rl1.atLen D
  refine ⟨fun i m H2 => ∃ io2 hp2, Ext W (io1 ++ [D]) (upd H1 D (.lst [])) io2 H2 ∧ Rl W io2 hp2 H2 ∧ Pst W (RV W) E σ Q io2 H2 (dLcL src g tt te hp1.length (wipeS as vs) m i hp2), ⟨_, _, _, Ext.refl, rlD, Pst.later P1 eD⟩, ?_⟩
  rintro i m H2 ⟨io2, hp2, e2, rl2, P2⟩
  have e12 := eD.trans e2
  obtain ⟨hstop, hgo⟩ := rs io2 H2 hp2 e12 rl2
  cases m with
  | zero => exact P2.elim
  | succ m =>
    unfold dLcL at P2
    cases z : src.next i hp2 with
    | none =>
      rw [z] at P2
      exact P2.elim
    | some o =>
      cases o with
      | none =>
        rw [z] at P2
        exact .inl ⟨hstop i z, P2.ok rl2 (.ref (e2.at atD))⟩
      | some x =>
        rw [z] at P2
        obtain ⟨go, hy⟩ := hgo i x z
        refine .inr ⟨go, fun H3 => ∃ io3 hp3, Ext W (io1 ++ [D]) (upd H1 D (.lst [])) io3 H3 ∧ Rl W io3 hp3 H3 ∧ Pst W (RV W) E σ Q io3 H3 (dLcL src g tt te hp1.length (wipeS as vs) m (i + 1) hp3), fun H' q => ⟨m, Nat.lt_succ_self m, q⟩, fun v H3 hyl => ?_⟩
        obtain ⟨e3, rl3, r3⟩ := hy v H3 hyl
        refine ⟨io2, hp2, wipeS as vs, x, rl3, M.mono e3 (M.mono e12 wS), r3, ?_⟩
        have P3 := Pst.later P2 e3
        cases z2 : g x (wipeS as vs) with
        | none =>
          simp only [z2] at P3
          exact P3
        | some as3 =>
          simp only [z2] at P3
          intro σ' S' hw
          refine ⟨Eq.trans hw (wipe_wipe σ vs), ?_⟩
          have S2' : M.rel io2 H3 as3 σ' := S'
          refine (step0 (rh := fun _ _ b c => b = c) (f := tt) (σ := σ') rl3 S2' P3).imp fun b H4 q4 => ?_
          · obtain ⟨io4, hp4, b', e4, rl4, rb, P4⟩ := q4
            subst rb
            cases b' with
            | false => exact iteF ⟨io4, hp4, (e2.trans e3).trans e4, rl4, P4⟩
            | true =>
              refine iteT ((step0 (rh := RV W) (f := te) (σ := σ') rl4 (M.mono e4 S2') P4).imp fun y H5 ⟨io5, hp5, a, e5, rl5, ra, P5⟩ => ?_)
              unfold addAt at P5
              have atD5 : io5[hp1.length]? = some D := e5.at (e4.at (e3.at (e2.at atD)))
              cases z5 : hp5[hp1.length]? with
              | none =>
                simp only [z5] at P5
                exact P5.elim
              | some o5 =>
                cases o5 with
                | lst acc =>
                  simp only [z5] at P5
                  by_cases hl : acc.length < SZ
                  · simp only [if_pos hl] at P5
                    obtain ⟨avs, ea, rac⟩ := rl5.lst atD5 z5
                    refine ⟨avs, ea, by rw [← rac.len]; exact szT hl, ?_⟩
                    have es : Ext W io5 H5 io5 (upd H5 D (.lst (avs ++ [y]))) := Ext.set _ ea trivial
                    exact ⟨io5, _, (((e2.trans e3).trans e4).trans e5).trans es, rl5.set atD5 ea trivial (.lst ((rac.app (.cons ra .nil)).mono es)), Pst.later P5 es⟩
                  · simp only [if_neg hl] at P5
                    exact P5.elim
                | _ =>
                  simp only [z5] at P5
                  exact P5.elim
theorem lcD {elt tg iter : Expr} {ifs : List Expr} {scope : Scope} {own : List (Str × Nat)} {f : DI} {g : DG} {tt : DT} {te : DE} (hc : X.calm = true) (hN : X.N.Nodup) (hi : PI X tg iter (tG W M (RSrc W) E f)) (ok : BlkOk X.N X.env.scope scope own)
    (hg : ∀ (s : Shared) (H : Hp) (C : Addr) (cl : List (Str × Addr)) (fp : List Addr), PG (X.blk s H scope (compEnvC scope cl C X.env) fp) tg (tgG W M (wipC (own.map (·.2))) g))
    (ht : ∀ (s : Shared) (H : Hp) (C : Addr) (cl : List (Str × Addr)) (fp : List Addr), PTs (X.blk s H scope (compEnvC scope cl C X.env) fp) ifs (tDT W M E0x tt))
    (he : ∀ (s : Shared) (H : Hp) (C : Addr) (cl : List (Str × Addr)) (fp : List Addr), PE (X.blk s H scope (compEnvC scope cl C X.env) fp) elt (tD W M E0x te)) (ho : ∀ v ∈ own.map (·.2), M.ok v) (hs : ∀ x, foldedSetIterable iter X.env x = pure x := by intro _; rfl) :
    PE X (.ListComp elt [⟨tg, iter, ifs, 0⟩] scope pos) (tD W M E (dLc f g tt te (own.map (·.2)))) := peI (pe_lc hc hN hi ok hg ht he hs) fun _ _ _ h => lc_in ho h
theorem yesD : PTs X [] (tDT W M E0x dYes) := ⟨fun pins s σ H Q I ⟨io, hp, as, rl, S, P⟩ => pts_nil.run pins s σ H Q I (P.ok rl rfl)⟩
theorem oneT {c : Expr} {ft : DT} (h : PT X c (tDT W M E0x ft)) : PTs X [c] (tDT W M E0x ft) := pts_one h
end

def dSrc (f : DE) : DI := fun s h => (f s h).bind fun a h1 => match a with
  | .ref n => (match h1[n]? with
    | some (.lst _) => .ok (.at n) h1
    | _ => .stuck)
  | .tup xs => .ok (.fix xs) h1
  | .rol xs => .ok (.fix xs) h1
  | .str x => .ok (.fix (x.cps.toList.map fun c => .str ⟨#[c]⟩)) h1
  | _ => .stuck
def rngL (lo : Int) (n : Nat) : List AV := (List.range n).map fun i => .int (lo + (i : Nat))
def dRg1 (f : DA) : DI := fun s h => (f s h).bind fun as h1 => match as with
  | [.int j] => if -(2 ^ 62) ≤ j ∧ j < 2 ^ 62 then .ok (.fix (rngL 0 j.toNat)) h1 else .stuck
  | _ => .stuck
section
variable {W : Wd} {M : Md W} {E : WX} {X : Cx} {tg : Expr}
theorem piI {e : Expr} {t t' : TI} (h : PI X tg e t) (i : ∀ σ H Q, t' σ H Q → t σ H Q) : PI X tg e t' := ⟨fun pins s σ H R I q => h.run pins s σ H R I (i σ H R q)⟩
theorem src_list {io : List Addr} {H : Hp} {n : Nat} {p : Addr} (hi : io[n]? = some p) : RSrc W io H (.at n) (Itl W.K p) := fun io' H' hp e rl => by
  have hp' := e.at hi
  refine ⟨fun i z => ?_, fun i x z => ?_⟩
  all_goals
    unfold Src.next at z
    dsimp only at z
    cases z1 : hp[n]? with
    | none =>
      rw [z1] at z
      cases z
    | some o =>
      rw [z1] at z
      cases o with
      | lst xs =>
        have z' := Option.some.inj z
        obtain ⟨vs, ev, rv⟩ := rl.lst hp' z1
        first
          | exact ⟨vs, SqL.of ev, by rw [← rv.len]; exact List.getElem?_eq_none_iff.mp z'⟩
          | (obtain ⟨v, e1, r1⟩ := rv.get z'
             refine ⟨⟨vs, v, SqL.of ev, e1⟩, fun w H2 ⟨eH, hw⟩ => ?_⟩
             subst eH
             have := hw vs (SqL.of ev)
             rw [e1] at this
             cases this
             exact ⟨Ext.refl, rl, r1⟩)
      | _ => cases z
theorem src_fixed {io : List Addr} {H : Hp} {xs : List AV} {vs : List V} {J : It} (r : RVs W io H xs vs) (h1 : ∀ i H', (∃ l, Ext W io H l H') → vs.length ≤ i → J.stop i H') (h2 : ∀ i v H', (∃ l, Ext W io H l H') → vs[i]? = some v → J.go i H' ∧ ∀ w H2, J.yld i H' w H2 → H2 = H' ∧ w = v) : RSrc W io H (.fix xs) J := fun io' H' hp e rl => by
  refine ⟨fun i z => ?_, fun i x z => ?_⟩
  · have z' : xs[i]? = none := Option.some.inj z
    exact h1 i H' ⟨_, e⟩ (by rw [← r.len]; exact List.getElem?_eq_none_iff.mp z')
  · have z' : xs[i]? = some x := Option.some.inj z
    obtain ⟨v, e1, r1⟩ := r.get z'
    obtain ⟨g, k⟩ := h2 i v H' ⟨_, e⟩ e1
    refine ⟨g, fun w H2 y => ?_⟩
    obtain ⟨rfl, rfl⟩ := k w H2 y
    exact ⟨Ext.refl, rl, r1.mono e⟩
theorem src_range {io : List Addr} {H : Hp} {lo : Int} {n : Nat} : RSrc W io H (.fix (rngL lo n)) (Itr lo n) := by
  have hv : RVs W io H (rngL lo n) ((List.range n).map fun i => V.int (lo + (i : Nat))) := by
    unfold rngL
    generalize List.range n = l
    induction l with
    | nil => exact .nil
    | cons a r ih => exact .cons (.int _) ih
  refine src_fixed hv (fun i H' _ h => ?_) fun i v H' _ h => ?_
  · rw [List.length_map, List.length_range] at h
    exact h
  · rw [List.getElem?_map] at h
    by_cases hi : i < n
    · rw [List.getElem?_range hi] at h
      cases h
      exact ⟨hi, fun w H2 ⟨a, b⟩ => ⟨a, b⟩⟩
    · rw [List.getElem?_eq_none (by simpa using hi)] at h
      cases h
/-- a list, a tuple, a text: what pyIter does with the value -/
theorem iter_val {pins : List (Addr × Obj)} {σ : L2.St} {H : Hp} {s : Shared} {R : It → Hp → Prop} {x : V} {v : Value} (I : Inv X pins σ H s) (r : RelV x v)
    (h : (∃ a, x = .ref a ∧ (∃ xs, SqL X.K H a xs) ∧ R (Itl X.K a) H) ∨ (∃ a, x = .ref a ∧ (∃ xs, SqT X.K H a xs) ∧ R (Itt X.K a) H) ∨ (∃ z, x = .str z ∧ R (Its z) H)) :
    wpAny (model X.prog X.w) X.A (pyIter v) (PIE X pins σ tg R) X.xe s := by
  have newFp : ∀ b ∈ [s.heap.objs.size], FpOk X pins H b := fun b hb => by
    rw [List.mem_singleton] at hb
    subst hb
    exact I.fpOk (Nat.le_refl _) (I.hok.fresh (Nat.le_refl _))
  rcases h with ⟨a, ex, ⟨xs, hq⟩, q⟩ | ⟨a, ex, ⟨xs, hq⟩, q⟩ | ⟨z, ex, q⟩
  · subst ex
    obtain rfl : v = Value.ref a := r
    obtain ⟨its, _, pl, _⟩ := I.list hq
    exact wpAny_pyIter_list pl.isList ⟨_, _, _, _, H, rfl, I.kept (t' := s.toks) fun b o e => Heap.get?_push_of_some _ e, turn_list a _, ⟨_, Heap.get?_push_size _ rfl, rfl, rfl⟩, newFp, q⟩
  · subst ex
    obtain rfl : v = Value.ref a := r
    obtain ⟨its, _, pt, _⟩ := I.tuple hq
    exact wpAny_pyIter_tuple (items := its.toArray) pt ⟨_, _, _, _, H, rfl, I.kept (t' := s.toks) fun b o e => Heap.get?_push_of_some _ e, turn_tuple a _, ⟨_, Heap.get?_push_size _ rfl, rfl, rfl⟩, newFp, q⟩
  · subst ex
    obtain ⟨t, rfl⟩ := r
    cases hz : z.cps.all (· < 128) with
    | true => exact wpAny_pyIter_ascii hz (pi_one (tk := s.toks) I _ (turn_str _ z t "str_ascii_iterator" (.inl rfl)) ⟨_, Heap.get?_push_size _ rfl, rfl, rfl⟩ q)
    | false => exact wpAny_pyIter_wide hz (pi_one (tk := s.toks) I _ (turn_str _ z t "str_iterator" (.inr rfl)) ⟨_, Heap.get?_push_size _ rfl, rfl, rfl⟩ q)
theorem chars_rv {io : List Addr} {H : Hp} (l : List Nat) : RVs W io H (l.map fun c => .str ⟨#[c]⟩) (l.map fun c => .str ⟨#[c]⟩) := by
  induction l with
  | nil => exact .nil
  | cons a r ih => exact .cons (.str _) ih
/-- for .. in e -/
theorem srcD {e : Expr} {f : DE} (hK : X.K = W.K) (he : PE X e (tD W M E f)) : PI X tg e (tG W M (RSrc W) E (dSrc f)) := by
  refine ⟨fun pins s σ H R I ⟨io, hp, as, rl, S, P⟩ => ?_⟩
  refine thn (he.run pins s σ H _ I (step (rh := RV W) (f := f) rl S P)) fun v s1 ⟨x, H1, I1, r1, io2, hp2, a, e2, rl2, ra, P2⟩ => ?_
  refine iter_val I1 r1 ?_
  rw [hK]
  cases a with
  | ref n =>
    cases ra with
    | @ref _ p hi =>
      have P3 : Pst W (RSrc W) E σ R io2 H1 (match hp2[n]? with
        | some (.lst _) => .ok (.at n) hp2
        | _ => .stuck) := P2
      cases z : hp2[n]? with
      | none =>
        rw [z] at P3
        exact P3.elim
      | some o =>
        rw [z] at P3
        cases o with
        | lst xs =>
          obtain ⟨vs, ev, _⟩ := rl2.lst hi z
          exact .inl ⟨p, rfl, ⟨vs, SqL.of ev⟩, Pst.ok P3 rl2 (src_list hi)⟩
        | _ => exact P3.elim
  | tup xs =>
    obtain ⟨p, vs, ex, h1, rtu⟩ := tupOf_in (xs := xs) rfl ra
    subst ex
    refine .inr (.inl ⟨p, rfl, ⟨vs, h1⟩, Pst.ok P2 rl2 (src_fixed rtu (fun i H' ⟨l, e⟩ h => ⟨vs, e.tup _ _ h1, h⟩) fun i w H' ⟨l, e⟩ h => ⟨⟨vs, w, e.tup _ _ h1, h⟩, fun w' H2 ⟨eH, hw⟩ => ⟨eH, ?_⟩⟩)⟩)
    have := hw vs (e.tup _ _ h1)
    rw [h] at this
    exact (Option.some.inj this).symm
  | rol xs =>
    cases ra with
    | rol hro rro =>
      refine .inl ⟨_, rfl, ⟨_, roL_sq hro⟩, Pst.ok P2 rl2 (src_fixed rro (fun i H' ⟨l, e⟩ h => ⟨_, roL_sq (e.rol _ _ hro), h⟩) fun i w H' ⟨l, e⟩ h => ⟨⟨_, w, roL_sq (e.rol _ _ hro), h⟩, fun w' H2 ⟨eH, hw⟩ => ⟨eH, ?_⟩⟩)⟩
      have := hw _ (roL_sq (e.rol _ _ hro))
      rw [h] at this
      exact (Option.some.inj this).symm
  | str z =>
    obtain rfl := ra.str_inv
    refine .inr (.inr ⟨z, rfl, Pst.ok P2 rl2 (src_fixed (chars_rv z.cps.toList) (fun i H' _ h => ?_) fun i w H' _ h => ?_)⟩)
    · rw [List.length_map, Array.length_toList] at h
      exact h
    · rw [List.getElem?_map, Array.getElem?_toList] at h
      obtain ⟨c, hc, rfl⟩ := Option.map_eq_some_iff.mp h
      obtain ⟨hl, _⟩ := Array.getElem?_eq_some_iff.mp hc
      refine ⟨hl, fun w' H2 ⟨eH, c', hc', ew⟩ => ⟨eH, ?_⟩⟩
      rw [hc] at hc'
      cases hc'
      exact ew
  | _ => exact P2.elim
theorem rg1D {a : Expr} {fa : DA} {p pos : Pos} (hg : Gl X "range") (hm : X.mg "range" = none) (ha : PA X [a] (tDA W M E fa)) (hs : starEach [a] X.env = [(false, eval a X.env)] := by rfl) : PI X tg (.Call (.Name "range" p) [a] [] pos) (tG W M (RSrc W) E (dRg1 fa)) :=
  piI (pi_range1 hg hm ha hs) fun σ H Q ⟨io, hp, as, rl, S, P⟩ => (step (rh := RVs W) (f := fa) rl S P).imp fun xs H1 ⟨io2, hp2, bs, e2, rl2, ra, P2⟩ => by
    match bs, ra, P2 with
    | [.int j], .cons (.int _) .nil, P2 =>
      have P3 : Pst W (RSrc W) E σ Q io2 H1 (if -(2 ^ 62) ≤ j ∧ j < 2 ^ 62 then .ok (.fix (rngL 0 j.toNat)) hp2 else .stuck) := P2
      by_cases h : -(2 ^ 62) ≤ j ∧ j < 2 ^ 62
      · rw [if_pos h] at P3
        exact ⟨j, rfl, h.1, h.2, Pst.ok P3 rl2 src_range⟩
      · rw [if_neg h] at P3
        exact P3.elim
end
end Dn
namespace Dn
open PySem PySem.Spec PyProof.Rows L2

/-- the slots at the entry -/
def dStart (N : Nat) (as : List AV) : Sl := as.map some ++ List.replicate (N - as.length) none
def dFun (N : Nat) (b : DS) : DF := fun as h => (b (dStart N as) h).fin
theorem start_rel {W : Wd} {io : List Addr} {H : Hp} {as : List AV} {vs : List V} {N : List Str} {n : Nat} (r : RVs W io H as vs) (hN : N.length = n) : (std W).rel io H (dStart n as) (L2.start N vs) := by
  subst hN
  refine ⟨?_, fun i v a => ?_⟩
  · unfold dStart L2.start
    simp [r.len]
  · unfold dStart at a
    have hi : i < as.length := by
      by_cases hi : i < as.length
      · exact hi
      · rw [List.getElem?_append_right (by simpa using hi), List.getElem?_replicate] at a
        split at a <;> cases a
    rw [List.getElem?_append_left (by simpa using hi), List.getElem?_map] at a
    cases e : as[i]? with
    | none =>
      rw [e] at a
      cases a
    | some y =>
      rw [e] at a
      cases a
      obtain ⟨x, e2, rx⟩ := r.get e
      refine ⟨x, ?_, rx⟩
      unfold L2.start
      rw [List.getElem?_append_left (by simpa [← r.len] using hi), List.getElem?_map, e2]
      rfl

section
variable {P : Program} {w : World} {mg : Str → Option Value} {base : Heap} {W : Wd} {x qual : Str} {params : Arguments} {body : List Stmt} {scope : Scope} {dvs : List V} {kws : List (Str × V)} {f : Addr} {fd : FuncData}
/-- the context of a def's body -/
abbrev cxD (W : Wd) (P : Program) (w : World) (mg : Str → Option Value) (base : Heap) (N : List Str) (qual : Str) (scope : Scope) (f : Addr) (cdv : Value) (A : Around) (outer : List Env) (s : Shared) (H : Hp) (E : XK) : Cx :=
  cxOf (L2.CX P w) P w W.K mg base N qual scope f cdv A outer s H E
/-- what a def's body may let out -/
abbrev wxE (E : XK) : WX := fun cls d _ H => E cls d H
/-- THE RULE: a def keeps its promise if its body is read as b -/
theorem fnD {N ps : List Str} {k n : Nat} {b : DS} (F : FunD W.K x qual params body scope dvs kws f fd) (S : FnScope N ps scope) (hn : ps.length = n)
    (hb : ∀ (cdv : Value) (A : Around) (outer : List Env) (s : Shared) (H : Hp) (E : XK), Room k (A.deeper (envOfC qual scope s.heap.objs.size f cdv)) → Takes (cxD W P w mg base N qual scope f cdv A outer s H E) (wxE E) →
      PSs (cxD W P w mg base N qual scope f cdv A outer s H E) body (tS W (std W) (wxE E) b)) : FnOk P w W.K mg base (L2.CX P w) (k + 1) f fd ps (spD W n (dFun N.length b)) := by
  refine F.ok S (fun vs H Q E h => ?_) fun cdv A outer s H vs Q E hr h => ⟨_, hb cdv A outer s H E hr (takes_of rfl rfl rfl rfl), ?_⟩
  · obtain ⟨io, hp, as, hl, _, r, _⟩ := h
    rw [← r.len, hl, hn]
  · obtain ⟨io, hp, as, hl, rl, r, P⟩ := h
    refine ⟨io, hp, dStart N.length as, rl, start_rel r rfl, ?_⟩
    unfold dFun at P
    cases e : b (dStart N.length as) hp with
    | nx s h =>
      rw [e] at P
      exact fun io' H' σ' e' rl' _ => P io' H' .non e' rl' .non
    | rt s h =>
      rw [e] at P
      exact P
    | bk s h =>
      rw [e] at P
      exact P.elim
    | ct s h =>
      rw [e] at P
      exact P.elim
    | exc t fs s h =>
      rw [e] at P
      exact fun io' H' σ' cls d e' rl' _ rx => P io' H' cls d e' rl' rx
    | stuck =>
      rw [e] at P
      exact P
end

theorem sel_vals {vs : List V} {us : List Value} (h : Vals vs us) : ∀ ix : List Nat, Vals (sel ix vs) (sel ix us)
  | [] => .nil
  | i :: ix => by
    show Vals ((i :: ix).filterMap _) ((i :: ix).filterMap _)
    rw [List.filterMap_cons, List.filterMap_cons]
    cases e : vs[i]? with
    | none =>
      have : us[i]? = none := by
        rw [List.getElem?_eq_none_iff] at e ⊢
        rw [← h.length]
        exact e
      rw [this]
      exact sel_vals h ix
    | some v =>
      obtain ⟨u, e2, r⟩ := h.get e
      rw [e2]
      exact .cons r (sel_vals h ix)
theorem sel_rel {W : Wd} {io : List Addr} {H : Hp} {as : List AV} {vs : List V} (h : RVs W io H as vs) : ∀ ix : List Nat, RVs W io H (sel ix as) (sel ix vs)
  | [] => .nil
  | i :: ix => by
    show RVs W io H ((i :: ix).filterMap _) ((i :: ix).filterMap _)
    rw [List.filterMap_cons, List.filterMap_cons]
    cases e : as[i]? with
    | none =>
      have : vs[i]? = none := by
        rw [List.getElem?_eq_none_iff] at e ⊢
        rw [← h.len]
        exact e
      rw [this]
      exact sel_rel h ix
    | some v =>
      obtain ⟨u, e2, r⟩ := h.get e
      rw [e2]
      exact .cons r (sel_rel h ix)
/-- defaults are the same in every heap -/
def RW0s (W : Wd) (as : List AV) (vs : List V) : Prop := ∀ io H, RVs W io H as vs
section
variable {W : Wd} {x qual : Str} {params : Arguments} {body : List Stmt} {scope : Scope} {dvs : List V} {kws : List (Str × V)} {f : Addr} {fd : FuncData} {ps : List Str}
/-- no default is taken, the def has none -/
theorem bnN (F : FunD W.K x qual params body scope [] kws f fd) (n : Nat) (ks : List Str) (ix : List Nat)
    (h : ∀ (kV doc pm : Value) (an : Option Addr) (cdv ct : Value) (us ws : List Value), us.length = n → ws.length = ks.length → bindArgs (PySem.W.fnOf x qual params body scope .none kV doc pm an cdv ct) ⟨us, ks.zip ws⟩ = pure (ps.zip (sel ix (us ++ ws)))) : BnD W fd ps n ks ix [] := by
  obtain ⟨oc, od, dV, kV, doc, pm, an, cdv, ct, osl, rfl, lk, hcd, hD, hK⟩ := F.ex
  rcases hD with ⟨_, rfl⟩ | ⟨e, _⟩
  · refine ⟨fun us ws => sel ix (us ++ ws), fun vs zs => sel ix (vs ++ zs), ⟨fun s us ws X l1 l2 => .of_eq (h kV doc pm an cdv ct us ws l1 l2), fun r1 r2 => sel_vals (r1.append r2) ix⟩, fun io H as bs vs zs r1 r2 => ?_⟩
    rw [List.append_nil]
    exact sel_rel (r1.app r2) ix
  · exact absurd rfl e
/-- the def has defaults: its :: us :: keywords -/
theorem bnP (F : FunD W.K x qual params body scope dvs kws f fd) (n : Nat) (ks : List Str) (ix : List Nat) (hd : dvs ≠ []) {dfl : List AV} (hf : RW0s W dfl dvs)
    (h : ∀ (T : Addr) (kV doc pm : Value) (an : Option Addr) (cdv ct : Value) (us its ws : List Value), us.length = n → its.length = dvs.length → ws.length = ks.length →
      ∃ k, bindArgs (PySem.W.fnOf x qual params body scope (.ref T) kV doc pm an cdv ct) ⟨us, ks.zip ws⟩ = seqItems? (.ref T) >>= k ∧ k (some its.toArray) = pure (ps.zip (sel ix (us ++ its ++ ws)))) : BnD W fd ps n ks ix dfl := by
  obtain ⟨oc, od, dV, kV, doc, pm, an, cdv, ct, osl, rfl, lk, hcd, hD, hK⟩ := F.ex
  rcases hD with ⟨e, _⟩ | ⟨_, T, o, its, m, rfl, lT, oT, rT⟩
  · exact absurd e hd
  · refine ⟨fun us ws => sel ix (us ++ its ++ ws), fun vs zs => sel ix (vs ++ dvs ++ zs), ⟨fun s us ws X l1 l2 => ?_, fun r1 r2 => sel_vals ((r1.append rT).append r2) ix⟩, fun io H as bs vs zs r1 r2 => sel_rel ((r1.app (hf io H)).app r2) ix⟩
    obtain ⟨k, e1, e2⟩ := h T kV doc pm an cdv ct us its ws l1 rT.length.symm l2
    refine BindsTo.of_looks fun M => ?_
    rw [e1]
    exact looks_items X lT oT (.of_pure e2)
end

section
variable {W : Wd} {M : Md W} {E : WX} {X : Cx} {k j n m : Nat} {f : Addr} {fd : FuncData} {ps ks : List Str} {F : DF} {x : Str} {p pos apos kpos : Pos} {e o : Expr} {es : List Expr} {kws : List Keyword} {fa fk : DA} {fe : DE} {ix : List Nat} {dfl : List AV}
/-- f(a, .., k = v, ..): the positional values, then the keywords' -/
def dCall (F : DF) (n m : Nat) (ix : List Nat) (dfl : List AV) (fa fk : DA) : DE := fun s h => (fa s h).bind fun a h1 => (fk s h1).bind fun b h2 => if a.length = n ∧ b.length = m then F (sel ix (a ++ dfl ++ b)) h2 else .stuck
theorem run_gen {pins : List (Addr × Obj)} {σ : L2.St} {H : Hp} {s : Shared} {Q : VK} {us ws : List Value} {vs zs : List V} {sp : Sp} {g : List Value → List Value → List Value} {gV : List V → List V → List V}
    (hF : FnOk X.prog X.w X.K X.mg X.base (L2.CX X.prog X.w) j f fd ps sp) (hr : Room j X.A) (hb : KBn X.K fd ps n ks g gV) (tk : Takes X E)
    (I : Inv X pins σ H s) (r : Vals vs us) (rz : Vals zs ws) (l1 : vs.length = n) (l2 : zs.length = ks.length) (h : sp (gV vs zs) H Q (WE E σ)) : wpAny (model X.prog X.w) X.A (call (.ref f) us (ks.zip ws)) (EP X pins σ Q) X.xe s := by
  have r2 := hb.rel r rz
  refine wpAny_call (codeAny_mono (hF.run X.A X.stack s H ⟨us, ks.zip ws⟩ (g us ws) (gV vs zs) Q (WE E σ) hr I.env0 (hb.to s us ws I.kIn (r.length.symm.trans l1) (rz.length.symm.trans l2)) r2 h) fun r s' hq => ?_)
  cases r with
  | error e => exact passAt tk σ pins H s e s' I hq
  | ok fl =>
    cases fl with
    | ret u => exact I.after hq
    | next => exact False.elim hq
    | brk => exact False.elim hq
    | cont => exact False.elim hq
/-- behind the arguments -/
theorem call_at {σ : L2.St} {io : List Addr} {hp : Hep} {H : Hp} {Q : VK} {a b : List AV} {vs zs : List V} {gV : List V → List V → List V} (rl : Rl W io hp H) (ra : RVs W io H a vs) (rb : RVs W io H b zs)
    (hg : ∀ io H as bs vs zs, RVs W io H as vs → RVs W io H bs zs → RVs W io H (sel ix (as ++ dfl ++ bs)) (gV vs zs)) (hl : (sel ix (a ++ dfl ++ b)).length = j)
    (P : Pst W (RV W) E σ Q io H (F (sel ix (a ++ dfl ++ b)) hp)) : spD W j F (gV vs zs) H Q (WE E σ) :=
  ⟨io, hp, _, hl, rl, hg _ _ _ _ _ _ ra rb, P.fn⟩
/-- dCall, and the places are as many as the parameters -/
def dCallC (F : DF) (n m q : Nat) (ix : List Nat) (dfl : List AV) (fa fk : DA) : DE := fun s h => (fa s h).bind fun a h1 => (fk s h1).bind fun b h2 => if a.length = n ∧ b.length = m ∧ (sel ix (a ++ dfl ++ b)).length = q then F (sel ix (a ++ dfl ++ b)) h2 else .stuck
theorem args_in {σ : L2.St} {H : Hp} {Q : VK} (h : tD W M E (dCallC F n m j ix dfl fa fk) σ H Q) :
    tDA W M E fa σ H fun vs H1 => tDA W M E fk σ H1 fun zs H2 => vs.length = n ∧ zs.length = m ∧ ∀ gV : List V → List V → List V, (∀ io H as bs vs zs, RVs W io H as vs → RVs W io H bs zs → RVs W io H (sel ix (as ++ dfl ++ bs)) (gV vs zs)) → spD W j F (gV vs zs) H2 Q (WE E σ) := by
  obtain ⟨io, hp, as, rl, S, P⟩ := h
  refine (step (rh := RVs W) (f := fa) rl S P).imp fun vs H1 ⟨io2, hp2, a, e2, rl2, ra, P2⟩ => ?_
  refine (step (rh := RVs W) (f := fk) rl2 (M.mono e2 S) P2).imp fun zs H4 ⟨io5, hp5, b, e5, rl5, rb, P5⟩ => ?_
  by_cases hc : a.length = n ∧ b.length = m ∧ (sel ix (a ++ dfl ++ b)).length = j
  · rw [if_pos hc] at P5
    have ra' := ra.mono e5
    exact ⟨ra'.len.symm.trans hc.1, rb.len.symm.trans hc.2.1, fun gV hg => call_at rl5 ra' rb hg hc.2.2 P5⟩
  · rw [if_neg hc] at P5
    exact P5.elim
theorem callD (hF : FnOk X.prog X.w X.K X.mg X.base (L2.CX X.prog X.w) j f fd ps (spD W n F)) (hr : Room k X.A) (hj : j ≤ k) (hm : X.mg x = some (.ref f)) (hkp : PySem.W.keepIn X.K (.ref f) = true) (hK : X.K = W.K) (hb : BnD W fd ps m ks ix dfl) (tk : Takes X E)
    (ha : PA X (e :: es) (tDA W M E fa)) (hkw : PK X kws (tDA W M E fk)) (hg : Gl X x := by rfl) (hall : (backToKw pos (keywordEach kws X.env)).all (·.1.isSome) = true := by rfl) (hks : (backToKw pos (keywordEach kws X.env)).filterMap (·.1) = ks := by rfl)
    (hdb : (x == ("__debug__" : Str)) = false := by decide) (he : starEach (e :: es) X.env = (false, eval e X.env) :: starEach es X.env := by rfl)
    (hpl : ((backTo pos (starEach (e :: es) X.env)).any (·.1) || (backToKw pos (keywordEach kws X.env)).any (·.1.isNone)) = false := by rfl) :
    PE X (.Call (.Name x p) (e :: es) kws pos) (tD W M E (dCallC F m ks.length n ix dfl fa fk)) := by
  obtain ⟨g, gV, kb, hg2⟩ := hb
  rw [← hK] at kb
  refine ⟨fun pins s σ H Q I h => ?_⟩
  refine wpAny_Call_Name_kw (ld_glob I hg hm ?_ hdb)
  refine PySem.W.callWith_KW (h₀ := X.base) I.ok.mod.kin hkp hall (thn (ha.run pos pins s σ H _ I (args_in h)) fun us s1 ⟨vs, H1, I1, r, q⟩ => ?_) hpl he
  refine thn (hkw.run pos pins s1 σ H1 _ I1 q) fun ws s2 ⟨zs, H2, I2, rz, l1, l2, q2⟩ => ⟨I2.kIn, ?_⟩
  rw [hks]
  exact run_gen hF (hr.mono hj) kb tk I2 r rz l1 l2 (q2 gV hg2)
/-- keywords' values -/
theorem kNil : PK X [] (tDA W M E dNil) := ⟨fun pos pins s σ H Q I h => pk_nil.run pos pins s σ H Q I (nil_in h)⟩
theorem kCons {nm : Option Str} {f : DE} (ha : PE X e (tD W M E f)) (hr : PK X kws (tDA W M E fa)) : PK X (⟨nm, e, kpos⟩ :: kws) (tDA W M E (dCons f fa)) := ⟨fun pos pins s σ H Q I h => (pk_cons ha hr).run pos pins s σ H Q I (cons_in h)⟩

def dMake (t : Nat) (F : DF) (n m q : Nat) (ix : List Nat) (dfl : List AV) (fa fk : DA) : DE := fun s h => (fa s h).bind fun a h1 => (fk s h1).bind fun b h2 =>
  if a.length = n ∧ b.length = m ∧ (sel ix (.ref h2.length :: a ++ dfl ++ b)).length = q then
    (F (sel ix (.ref h2.length :: a ++ dfl ++ b)) (h2 ++ [AO.ins t []])).bind fun v h3 => match v with
      | .non => .ok (.ref h2.length) h3
      | _ => .stuck
  else .stuck
theorem mkargs_in {t : Nat} {C : Addr} (hk : W.ct.kit t = true) (hC : W.cl t = C) {σ : L2.St} {H : Hp} {Q : VK} (h : tD W M E (dMake t F n m j ix dfl fa fk) σ H Q) :
    tDA W M E fa σ H fun vs H1 => tDA W M E fk σ H1 fun zs H2 => vs.length = n ∧ zs.length = m ∧ ∀ gV : List V → List V → List V, (∀ io H as bs vs zs, RVs W io H as vs → RVs W io H bs zs → RVs W io H (sel ix (as ++ dfl ++ bs)) (gV vs zs)) →
      ∀ x dx, H2 x = none → H2 dx = none → dx ≠ x → spD W j F (gV (.ref x :: vs) zs) (upd (upd H2 dx (.own x)) x (.ins C dx [])) (fun v H3 => v = .non ∧ Q (.ref x) H3) (WE E σ) := by
  subst hC
  obtain ⟨io, hp, as, rl, S, P⟩ := h
  refine (step (rh := RVs W) (f := fa) rl S P).imp fun vs H1 ⟨io2, hp2, a, e2, rl2, ra, P2⟩ => ?_
  refine (step (rh := RVs W) (f := fk) rl2 (M.mono e2 S) P2).imp fun zs H4 ⟨io5, hp5, b, e5, rl5, rb, P5⟩ => ?_
  by_cases hc : a.length = n ∧ b.length = m ∧ (sel ix (.ref hp5.length :: a ++ dfl ++ b)).length = j
  · rw [if_pos hc] at P5
    have ra' := ra.mono e5
    refine ⟨ra'.len.symm.trans hc.1, rb.len.symm.trans hc.2.1, fun gV hg x dx hx hdx hne => ?_⟩
    have rlA : Rl W io5 hp5 (upd H4 dx (.own x)) := rl5.other hdx
    have eA : Ext W io5 H4 io5 (upd H4 dx (.own x)) := Ext.new0 hdx
    have hx' : upd H4 dx (.own x) x = none := by
      rw [upd_ne (Ne.symm hne)]
      exact hx
    have eB : Ext W io5 (upd H4 dx (.own x)) (io5 ++ [x]) (upd (upd H4 dx (.own x)) x (.ins (W.cl t) dx [])) := Ext.new io5 _ hx' [x]
    have rlB : Rl W (io5 ++ [x]) (hp5 ++ [AO.ins t []]) (upd (upd H4 dx (.own x)) x (.ins (W.cl t) dx [])) := rlA.new hx' (.ins hk .nil)
    have eC := eA.trans eB
    refine ⟨io5 ++ [x], hp5 ++ [AO.ins t []], sel ix (.ref hp5.length :: a ++ dfl ++ b), hc.2.2, rlB, ?_, ?_⟩
    · refine hg _ _ (.ref hp5.length :: a) b (.ref x :: vs) zs (.cons (.ref ?_) (ra'.mono eC)) (rb.mono eC)
      rw [← rl5.len]
      simp
    · have P6 := Pst.later P5 eC
      cases z : F (sel ix (.ref hp5.length :: a ++ dfl ++ b)) (hp5 ++ [AO.ins t []]) with
      | ok v h3 =>
        rw [z] at P6
        cases v with
        | non =>
          intro io' H' y e' rl' ry
          refine ⟨ry.non_inv, P6 io' H' (.ref x) e' rl' (.ref (e'.at ?_))⟩
          rw [← rl5.len]
          simp
        | _ => exact P6.elim
      | exc t' fs h3 =>
        rw [z] at P6
        exact P6
      | stuck =>
        rw [z] at P6
        exact P6
  · rw [if_neg hc] at P5
    exact P5.elim
theorem run_mk {C : Addr} {pins : List (Addr × Obj)} {σ : L2.St} {H : Hp} {s : Shared} {Q : VK} {us ws : List Value} {vs zs : List V} {sp : Sp} {g : List Value → List Value → List Value} {gV : List V → List V → List V} (N : Mk X.K C f) (hF : FnOk X.prog X.w X.K X.mg X.base (L2.CX X.prog X.w) j f fd ps sp) (hr : Room (j + 1) X.A) (hb : KBn X.K fd ps (n + 1) ks g gV) (tk : Takes X E)
    (I : Inv X pins σ H s) (r : Vals vs us) (rz : Vals zs ws) (l1 : vs.length = n) (l2 : zs.length = ks.length)
    (h : ∀ x dx, H x = none → H dx = none → dx ≠ x → sp (gV (.ref x :: vs) zs) (upd (upd H dx (.own x)) x (.ins C dx [])) (fun v H2 => v = .non ∧ Q (.ref x) H2) (WE E σ)) :
    wpAny (model X.prog X.w) X.A (call (.ref C) us (ks.zip ws)) (EP X pins σ Q) X.xe s := by
  have hq := h (s.heap.objs.size + 1) s.heap.objs.size (I.hok.fresh (Nat.le_succ _)) (I.hok.fresh (Nat.le_refl _)) (Nat.ne_of_lt (Nat.lt_succ_self _))
  have I2 := Inv.made (C := C) I
  have r1 : Vals (V.ref (s.heap.objs.size + 1) :: vs) (Value.ref (s.heap.objs.size + 1) :: us) := .cons rfl r
  have r2 := hb.rel r1 rz
  have n1 : (Value.ref (s.heap.objs.size + 1) :: us).length = n + 1 := by
    rw [List.length_cons, ← r.length, l1]
  refine wpAny_call (make_map (f := f) I.kIn N.makes N.init (beq_iff_eq.mp N.fn) (codeAny_mono (hF.run _ X.stack _ _ ⟨Value.ref (s.heap.objs.size + 1) :: us, ks.zip ws⟩ (g (Value.ref (s.heap.objs.size + 1) :: us) ws) _ _ (WE E σ) (hr.make C us (ks.zip ws))
    (I2.env0.make C us (ks.zip ws)) (hb.to _ (Value.ref (s.heap.objs.size + 1) :: us) ws I2.kIn n1 (rz.length.symm.trans l2)) r2 hq) fun r s' hq' => ?_))
  cases r with
  | error e => exact passAt tk σ pins _ _ e s' I2 hq'
  | ok fl =>
    cases fl with
    | ret u =>
      obtain ⟨v, H', I3, rv, ev, q3⟩ := I2.after hq'
      subst ev
      exact ⟨rv, ⟨V.ref (s.heap.objs.size + 1), H', I3, rfl, q3⟩⟩
    | next => exact False.elim hq'
    | brk => exact False.elim hq'
    | cont => exact False.elim hq'
theorem makeD {t : Nat} {C : Addr} (hkt : W.ct.kit t = true) (hC : W.cl t = C) (N : Mk X.K C f) (hF : FnOk X.prog X.w X.K X.mg X.base (L2.CX X.prog X.w) j f fd ps (spD W n F)) (hr : Room k X.A) (hj : j + 1 ≤ k) (hm : X.mg x = some (.ref C)) (hK : X.K = W.K) (hb : BnD W fd ps (m + 1) ks ix dfl) (tk : Takes X E)
    (ha : PA X (e :: es) (tDA W M E fa)) (hkw : PK X kws (tDA W M E fk)) (hg : Gl X x := by rfl) (hall : (backToKw pos (keywordEach kws X.env)).all (·.1.isSome) = true := by rfl) (hks : (backToKw pos (keywordEach kws X.env)).filterMap (·.1) = ks := by rfl)
    (hdb : (x == ("__debug__" : Str)) = false := by decide) (he : starEach (e :: es) X.env = (false, eval e X.env) :: starEach es X.env := by rfl)
    (hpl : ((backTo pos (starEach (e :: es) X.env)).any (·.1) || (backToKw pos (keywordEach kws X.env)).any (·.1.isNone)) = false := by rfl) :
    PE X (.Call (.Name x p) (e :: es) kws pos) (tD W M E (dMake t F m ks.length n ix dfl fa fk)) := by
  obtain ⟨g, gV, kb, hg2⟩ := hb
  rw [← hK] at kb
  refine ⟨fun pins s σ H Q I h => ?_⟩
  refine wpAny_Call_Name_kw (ld_glob I hg hm ?_ hdb)
  refine PySem.W.callWith_KW (h₀ := X.base) I.ok.mod.kin N.kp hall (thn (ha.run pos pins s σ H _ I (mkargs_in hkt hC h)) fun us s1 ⟨vs, H1, I1, r, q⟩ => ?_) hpl he
  refine thn (hkw.run pos pins s1 σ H1 _ I1 q) fun ws s2 ⟨zs, H2, I2, rz, l1, l2, q2⟩ => ⟨I2.kIn, ?_⟩
  rw [hks]
  exact run_mk N hF (hr.mono hj) kb tk I2 r rz l1 l2 (q2 gV hg2)
end
end Dn
namespace Dn
open PySem PySem.Spec PyProof.Rows L2

section
variable {W : Wd} {M : Md W} {E : WX} {X : Cx}
end

def dAsg (f : DE) (g : DG) : DS := fun s h => (f s h).st s fun v h1 => match g v s with
  | some s' => .nx s' h1
  | none => .stuck
def dPar2 (i j : Nat) (f : DA) : DS := fun s h => (f s h).st s fun xs h1 => match xs with
  | [a, b] => .nx ((s.set i (some a)).set j (some b)) h1
  | _ => .stuck
section
variable {W : Wd} {M : Md W} {E : WX} {X : Cx} {f : DE} {fa : DA} {e a b c tg : Expr} {es : List Expr} {g : DG} {pos : Pos}
/-- a name of the top that holds a value of the written part -/
theorem gcD {x : Str} {v : AV} {y : V} {u : Value} (hm : X.mg x = some u) (hr : RelV y u) (r : RW0 W v y) (hg : Gl X x := by rfl) (hdb : (x == ("__debug__" : Str)) = false := by decide) :
    PE X (.Name x pos) (tD W M E (dC v)) := cD (pe_glob hg hm hr hdb) r
/-- a built-in type, by its name -/
theorem tyD {x : Str} {n : String} (hm : X.mg x = none) (hv : bootBuiltins x = some (.type n)) (hg : Gl X x := by rfl) (hn : x ≠ "__name__" := by decide) (hdb : (x == ("__debug__" : Str)) = false := by decide) :
    PE X (.Name x pos) (tD W M E (dC (.ty n))) := cD (pe_bltn hg hm hv (v := .ty n) rfl hn hdb) fun _ _ => .ty n
/-- an own class, by its name -/
theorem clD {x : Str} {t : Nat} {C : Addr} (hC : W.cl t = C) (hm : X.mg x = some (.ref C)) (hg : Gl X x := by rfl) (hdb : (x == ("__debug__" : Str)) = false := by decide) :
    PE X (.Name x pos) (tD W M E (dC (.cls t))) := cD (pe_glob hg hm (v := .ref C) rfl hdb) fun _ _ => by
  subst hC
  exact .cls t
theorem sAsg (he : PE X e (tD W M E f)) (hg : PG X tg (tgG W M anyC g)) (hs : swapsWithSole [tg] e pos.line X.env = pure false := by rfl) (hw : swappedStores [tg] e X.env = pure none := by rfl)
    (h1 : (assignEach [tg] X.env).map (·.2) = [assign tg X.env] := by rfl) : PS X (.Assign [tg] e pos) (tS W M E (dAsg f g)) := psI (ps_asg he hg hs hw h1) fun D σ H h => by
  obtain ⟨io, hp, as, rl, S, P⟩ := h
  refine (stepS (rh := RV W) (f := f) rl S P).imp fun x H1 ⟨io2, hp2, a, e2, rl2, ra, P2⟩ => ?_
  refine ⟨io2, hp2, as, a, rl2, M.mono e2 S, ra, ?_⟩
  cases z : g a as with
  | none =>
    rw [z] at P2
    exact P2.elim
  | some s' =>
    rw [z] at P2
    exact fun σ' S' _ => P2 io2 H1 σ' Ext.refl rl2 S'
theorem sPar2 {i j : Nat} {x y : Str} {px py pt : Pos} {kt k2 pt2} (hc : X.calm = true) (hN : X.N.Nodup) (hi : X.N[i]? = some x) (hj : X.N[j]? = some y) (hij : i ≠ j)
    (hx : X.env.scope.names.lookup x = some .local) (hy : X.env.scope.names.lookup y = some .local) (ha : PA X [a, b] (tDA W M E fa)) (o1 : M.ok i) (o2 : M.ok j)
    (hw : swappedStores [.Tuple [.Name x px, .Name y py] kt pt] (.Tuple [a, b] k2 pt2) X.env = pure (some [x, y]) := by rfl)
    (hs : swapsWithSole [.Tuple [.Name x px, .Name y py] kt pt] (.Tuple [a, b] k2 pt2) pos.line X.env = pure false := by rfl) :
    PS X (.Assign [.Tuple [.Name x px, .Name y py] kt pt] (.Tuple [a, b] k2 pt2) pos) (tS W M E (dPar2 i j fa)) := psI (ps_par hc hN hi hj hij hx hy ha hw hs) fun D σ H h => by
  obtain ⟨io, hp, as, rl, S, P⟩ := h
  refine (stepS (rh := RVs W) (f := fa) rl S P).imp fun x H1 ⟨io2, hp2, a, e2, rl2, ra, P2⟩ => ?_
  match a, ra, P2 with
  | [_, _], .cons r1 (.cons r2 .nil), P2 => exact ⟨_, _, rfl, P2 io2 H1 _ Ext.refl rl2 (M.set (M.set (M.mono e2 S) r1 o1) r2 o2)⟩
end
end Dn
namespace Dn
open PySem PySem.Spec PyProof.Rows L2

def lenA (h : Hep) : AV → Option Nat
  | .str x => if x.length ≤ SZ then some x.length else none
  | .tup xs => some xs.length
  | .rol xs => some xs.length
  | .ref n => match h[n]? with
    | some (.lst xs) => some xs.length
    | some (.dK kvs) => some kvs.length
    | _ => none
  | _ => none
def lenL : DL := fun as h => match as with
  | [a] => (lenA h a).map fun n => (.int (n : Nat), h)
  | _ => none
def absL : DL := fun as h => match as with
  | [.int i] => some (.int (i.natAbs : Nat), h)
  | _ => none
def maxL : DL := fun as h => match as with
  | [.int i, .int j] => some (.int (max i j), h)
  | _ => none
def minL : DL := fun as h => match as with
  | [.int i, .int j] => some (.int (min i j), h)
  | _ => none
def intL : DL := fun as h => match as with
  | [.int i] => some (.int i, h)
  | [.bl b] => some (.int (if b then 1 else 0), h)
  | _ => none
def blsOf : List AV → Option (List Bool)
  | [] => some []
  | .bl b :: r => (blsOf r).map (b :: ·)
  | _ => none
def allL : DL := fun as h => match as with
  | [a] => ((lstOf h a).bind blsOf).map fun bs => (.bl (bs.all id), h)
  | _ => none
def listL : DL := fun as h => match as with
  | [a] => match seqOf h a with
    | some xs => some (.ref h.length, h ++ [AO.lst xs])
    | none => match a with
      | .ref n => match h[n]? with
        | some (.dK kvs) => some (.ref h.length, h ++ [AO.lst (kvs.map fun kv => ofKey kv.1)])
        | _ => none
      | _ => none
  | _ => none
section
variable {W : Wd} {M : Md W} {E : WX} {X : Cx}
theorem blsOf_in {io : List Addr} {H : Hp} : ∀ {xs : List AV} {vs : List V} {bs : List Bool}, blsOf xs = some bs → RVs W io H xs vs → vs = bs.map V.bl
  | [], _, _, e, .nil => by
    cases e
    rfl
  | x :: xs, _, _, e, .cons r t => by
    cases x with
    | bl b =>
      have e' : (blsOf xs).map (b :: ·) = some _ := e
      cases z : blsOf xs with
      | none =>
        rw [z] at e'
        cases e'
      | some l =>
        rw [z] at e'
        cases e'
        rw [r.bl_inv, blsOf_in z t]
        rfl
    | _ => cases e
theorem one_inv {io : List Addr} {H : Hp} {a : AV} {vs : List V} (r : RVs W io H [a] vs) : ∃ x, vs = [x] ∧ RV W io H a x := by
  cases r with
  | cons r t =>
    cases t
    exact ⟨_, rfl, r⟩
theorem two_inv {io : List Addr} {H : Hp} {a b : AV} {vs : List V} (r : RVs W io H [a, b] vs) : ∃ x y, vs = [x, y] ∧ RV W io H a x ∧ RV W io H b y := by
  cases r with
  | cons r t =>
    obtain ⟨y, rfl, r2⟩ := one_inv t
    exact ⟨_, _, rfl, r, r2⟩
theorem call_or {F : Value} {r r' : List V → Hp → VK → Prop} (h : CallR X F r) (h' : CallR X F r') : CallR X F (fun xs H Q => r xs H Q ∨ r' xs H Q) := fun pins s σ H xs us Q I rr q => q.elim (h pins s σ H xs us Q I rr) (h' pins s σ H xs us Q I rr)
theorem cLen (hK : X.K = W.K) : CallR X (.builtin "len") (tl W lenL) := call_imp (call_or call_len call_lenD) fun xs H Q ⟨io, hp, as, rl, ra, P⟩ => by
  match as, ra, P with
  | [a], ra, P =>
    obtain ⟨x, rfl, r⟩ := one_inv ra
    have P' : Pop W (RV W) Q io H ((lenA hp a).map fun n => (AV.int (n : Nat), hp)) := P
    cases z : lenA hp a with
    | none =>
      rw [z] at P'
      exact P'.elim
    | some n =>
      rw [z] at P'
      have q : Q (.int (n : Nat)) H := P'.ok rl (.int _)
      cases r with
      | str y =>
        left
        unfold lenA at z
        dsimp only at z
        by_cases hz : y.length ≤ SZ
        · rw [if_pos hz] at z
          cases z
          exact ⟨_, _, rfl, ⟨szL hz, rfl⟩, q⟩
        · rw [if_neg hz] at z
          cases z
      | tup h r =>
        left
        cases z
        refine ⟨_, _, rfl, .inr ⟨_, by rw [hK]; exact h, r.len⟩, q⟩
      | rol h r =>
        left
        cases z
        refine ⟨_, _, rfl, .inl ⟨_, by rw [hK]; exact roL_sq h, r.len⟩, q⟩
      | @ref n a h =>
        unfold lenA at z
        dsimp only at z
        cases e : hp[n]? with
        | none =>
          rw [e] at z
          cases z
        | some o =>
          rw [e] at z
          cases o with
          | lst xs =>
            cases z
            obtain ⟨vs, e1, r1⟩ := rl.lst h e
            left
            exact ⟨_, _, rfl, .inl ⟨vs, .inl (.inl e1), r1.len⟩, q⟩
          | dK kvs =>
            cases z
            obtain ⟨vs, e1, r1⟩ := rl.dK h e
            right
            refine ⟨_, vs, rfl, e1, ?_⟩
            rw [← r1.len]
            exact q
          | _ => cases z
      | _ => cases z
  | [], ra, P => exact P.elim
  | _ :: _ :: _, ra, P => exact P.elim
theorem cAbs : CallR X (.builtin "abs") (tl W absL) := call_imp call_abs fun xs H Q ⟨io, hp, as, rl, ra, P⟩ => by
  match as, ra, P with
  | [.int i], ra, P =>
    obtain ⟨x, rfl, r⟩ := one_inv ra
    obtain rfl := r.int_inv
    refine ⟨i, rfl, ?_⟩
    have q : Q (.int (i.natAbs : Nat)) H := P.ok rl (.int _)
    have e : (if i < 0 then -i else i) = ((i.natAbs : Nat) : Int) := by
      split <;> omega
    rw [e]
    exact q
theorem cMax (hc : X.calm = true) : CallR X (.builtin "max") (tl W maxL) := call_imp (call_max2 hc) fun xs H Q ⟨io, hp, as, rl, ra, P⟩ => by
  match as, ra, P with
  | [.int i, .int j], ra, P =>
    obtain ⟨x, y, rfl, r1, r2⟩ := two_inv ra
    obtain rfl := r1.int_inv
    obtain rfl := r2.int_inv
    have q : Q (.int (max i j)) H := P.ok rl (.int _)
    have e : (if j > i then j else i) = max i j := by
      split <;> omega
    refine ⟨i, j, rfl, ?_⟩
    rw [e]
    exact q
theorem cMin (hc : X.calm = true) : CallR X (.builtin "min") (tl W minL) := call_imp (call_min2 hc) fun xs H Q ⟨io, hp, as, rl, ra, P⟩ => by
  match as, ra, P with
  | [.int i, .int j], ra, P =>
    obtain ⟨x, y, rfl, r1, r2⟩ := two_inv ra
    obtain rfl := r1.int_inv
    obtain rfl := r2.int_inv
    have q : Q (.int (min i j)) H := P.ok rl (.int _)
    have e : (if j < i then j else i) = min i j := by
      split <;> omega
    refine ⟨i, j, rfl, ?_⟩
    rw [e]
    exact q
theorem cInt : CallR X (.type "int") (tl W intL) := call_imp call_int1 fun xs H Q ⟨io, hp, as, rl, ra, P⟩ => by
  match as, ra, P with
  | [.int i], ra, P =>
    obtain ⟨x, rfl, r⟩ := one_inv ra
    obtain rfl := r.int_inv
    exact .inl ⟨i, rfl, P.ok rl (.int _)⟩
  | [.bl i], ra, P =>
    obtain ⟨x, rfl, r⟩ := one_inv ra
    obtain rfl := r.bl_inv
    exact .inr ⟨i, rfl, P.ok rl (.int _)⟩
theorem cAll (hK : X.K = W.K) (hc : X.calm = true) : CallR X (.builtin "all") (tl W allL) := call_imp (cr_all hc) fun xs H Q ⟨io, hp, as, rl, ra, P⟩ => by
  match as, ra, P with
  | [a], ra, P =>
    obtain ⟨x, rfl, r⟩ := one_inv ra
    have P' : Pop W (RV W) Q io H (((lstOf hp a).bind blsOf).map fun bs => (AV.bl (bs.all id), hp)) := P
    cases z : lstOf hp a with
    | none =>
      rw [z] at P'
      exact P'.elim
    | some ys =>
      rw [z] at P'
      obtain ⟨p, vs, rfl, hs, rv⟩ := lstOf_in z rl r
      have P2 : Pop W (RV W) Q io H ((blsOf ys).map fun bs => (AV.bl (bs.all id), hp)) := P'
      cases z2 : blsOf ys with
      | none =>
        rw [z2] at P2
        exact P2.elim
      | some bs =>
        rw [z2] at P2
        have e := blsOf_in z2 rv
        subst e
        exact ⟨p, bs, rfl, by rw [hK]; exact hs, P2.ok rl (.bl _)⟩
  | [], ra, P => exact P.elim
  | _ :: _ :: _, ra, P => exact P.elim
/-- a new list is laid -/
theorem lay_lst {io : List Addr} {hp : Hep} {H : Hp} {Q : VK} {xs : List AV} {vs : List V} (P : Pop W (RV W) Q io H (some (AV.ref hp.length, hp ++ [AO.lst xs]))) (rl : Rl W io hp H) (r : RVs W io H xs vs) :
    ∀ l, H l = none → Q (.ref l) (upd H l (.lst vs)) := fun l hl => by
  have e : Ext W io H (io ++ [l]) (upd H l (.lst vs)) := Ext.new io _ hl [l]
  exact P _ _ _ e (rl.new hl (.lst (r.mono e))) (.ref (by rw [← rl.len]; simp))
theorem cList (hK : X.K = W.K) (hc : X.calm = true) : CallR X (.type "list") (tl W listL) := call_imp (call_or call_list_of (call_listD hc)) fun xs H Q ⟨io, hp, as, rl, ra, P⟩ => by
  match as, ra, P with
  | [a], ra, P =>
    obtain ⟨x, rfl, r⟩ := one_inv ra
    cases z : seqOf hp a with
    | some ys =>
      have P' : Pop W (RV W) Q io H (some (AV.ref hp.length, hp ++ [AO.lst ys])) := by
        unfold listL at P
        simp only [z] at P
        exact P
      obtain ⟨p, vs, rfl, hs, rv⟩ := seqOf_in z rl r
      left
      refine ⟨p, vs, rfl, by rw [hK]; exact hs, lay_lst P' rl rv⟩
    | none =>
      unfold listL at P
      simp only [z] at P
      cases r with
      | @ref n a h =>
        dsimp only at P
        cases e : hp[n]? with
        | none =>
          rw [e] at P
          exact P.elim
        | some o =>
          rw [e] at P
          cases o with
          | dK kvs =>
            obtain ⟨vs, e1, r1⟩ := rl.dK h e
            right
            refine ⟨_, vs, rfl, .inl e1, ?_⟩
            have q : RVs W io H (kvs.map fun kv => ofKey kv.1) (vs.map fun kv => kV kv.1) := by
              clear P e e1
              induction r1 with
              | nil => exact .nil
              | cons _ _ ih => exact .cons (rv_key _) ih
            exact lay_lst P rl q
          | _ => exact P.elim
      | _ => exact P.elim
  | [], ra, P => exact P.elim
  | _ :: _ :: _, ra, P => exact P.elim
def kitB (ct : CT) (t : Nat) : Option TW := if ct.kit t then some (.cls t) else none
def twO (ct : CT) : AO → Option TW
  | .lst _ => some (.ty "list")
  | .dK _ => some (.ty "dict")
  | .dT _ => some (.ty "dict")
  | .ins t _ => kitB ct t
  | .frz _ => none
def twOf (ct : CT) (h : Hep) : AV → Option TW
  | .non => some (.ty "NoneType")
  | .bl _ => some (.ty "bool")
  | .int _ => some (.ty "int")
  | .str _ => some (.ty "str")
  | .tup _ => some (.ty "tuple")
  | .ref n => (h[n]?).bind (twO ct)
  | _ => none
def twC (ct : CT) : AV → Option TW
  | .ty n => if n ∈ tyNames then some (.ty n) else none
  | .cls t => kitB ct t
  | _ => none
def isiB (ct : CT) (h : Hep) (a c : AV) : Option Bool := match twOf ct h a, twC ct c with
  | some t, some u => some (t.sub ct u)
  | _, _ => none
def isiL (ct : CT) : DL := fun as h => match as with
  | [a, c] => (isiB ct h a c).map fun b => (.bl b, h)
  | _ => none
def TW.okk (W : Wd) : TW → Prop
  | .ty n => n ∈ tyNames
  | .cls t => W.ct.kit t = true
theorem kit_ty0 {K : PySem.W.Frag} {a b : String} (ha : a ∈ tyNames) (hb : b ∈ tyNames) : PySem.W.kitOne K (.type a) (.type b) = some (a == b || (a == "bool" && b == "int")) := by
  simp only [tyNames, List.mem_cons, List.not_mem_nil, or_false] at ha hb
  rcases ha with rfl | rfl | rfl | rfl | rfl | rfl | rfl <;> rcases hb with rfl | rfl | rfl | rfl | rfl | rfl | rfl <;> first | rfl | kernel_rfl
theorem TW.sub_in {a b : TW} (W : Wd) (ha : a.okk W) (hb : b.okk W) : PySem.W.kitOne W.K (a.val W) (b.val W) = some (a.sub W.ct b) := by
  cases a with
  | ty n =>
    cases b with
    | ty m => exact kit_ty0 ha hb
    | cls t => exact W.ctf n t ha hb
  | cls s =>
    cases b with
    | ty m => exact W.cty m s hb ha
    | cls t => exact W.csf s t ha hb
theorem twOf_in {io : List Addr} {hp : Hep} {H : Hp} {a : AV} {x : V} {t : TW} (e : twOf W.ct hp a = some t) (rl : Rl W io hp H) (r : RV W io H a x) :
    t.okk W ∧ TyX W.K H x (t.val W) := by
  cases r with
  | non => cases e; exact ⟨(by simp [TW.okk] : TW.okk W (.ty _)), .base .non⟩
  | bl b => cases e; exact ⟨(by simp [TW.okk] : TW.okk W (.ty _)), .base (.bl b)⟩
  | int b => cases e; exact ⟨(by simp [TW.okk] : TW.okk W (.ty _)), .base (.int b)⟩
  | str b => cases e; exact ⟨(by simp [TW.okk] : TW.okk W (.ty _)), .base (.str b)⟩
  | tup h r =>
    cases e
    refine ⟨(by simp [TW.okk] : TW.okk W (.ty _)), ?_⟩
    rcases h with (h | ⟨o, h⟩) | ⟨o, its, n, h1, h2, _⟩
    · exact .base (.tup h)
    · exact .fTuple h
    · exact .kTuple h1 h2
  | @ref n a h =>
    unfold twOf at e
    dsimp only at e
    cases z : hp[n]? with
    | none =>
      rw [z] at e
      cases e
    | some o =>
      rw [z] at e
      have e' : twO W.ct o = some t := e
      cases o with
      | lst xs =>
        cases e'
        obtain ⟨vs, e1, _⟩ := rl.lst h z
        exact ⟨(by simp [TW.okk] : TW.okk W (.ty _)), .base (.lst e1)⟩
      | dK xs =>
        cases e'
        obtain ⟨vs, e1, _⟩ := rl.dK h z
        exact ⟨(by simp [TW.okk] : TW.okk W (.ty _)), .base (.dK e1)⟩
      | dT xs =>
        cases e'
        obtain ⟨vs, e1, _⟩ := rl.dT h z
        exact ⟨(by simp [TW.okk] : TW.okk W (.ty _)), .base (.dT e1)⟩
      | ins c fs =>
        have e2 : kitB W.ct c = some t := e'
        unfold kitB at e2
        split at e2
        · rename_i hk
          cases e2
          obtain ⟨dx, vs, e1, _⟩ := rl.ins h z
          obtain ⟨c1, c2, c3⟩ := W.cg c hk
          exact ⟨hk, .base (.ins e1 c1 c2 W.cd W.ck c3)⟩
        · cases e2
      | frz o => cases e'
  | _ => cases e
theorem twC_in {io : List Addr} {H : Hp} {a : AV} {x : V} {t : TW} (e : twC W.ct a = some t) (r : RV W io H a x) :
    t.okk W ∧ ClsV x (t.val W) := by
  cases r with
  | ty n =>
    unfold twC at e
    dsimp only at e
    split at e
    · rename_i h
      cases e
      exact ⟨h, .ty n⟩
    · cases e
  | cls c =>
    have e2 : kitB W.ct c = some t := e
    unfold kitB at e2
    split at e2
    · rename_i hk
      cases e2
      exact ⟨hk, .own _⟩
    · cases e2
  | _ => cases e
theorem cIsi (hK : X.K = W.K) : CallR X (.builtin "isinstance") (tl W (isiL W.ct)) := call_imp call_isi fun xs H Q ⟨io, hp, as, rl, ra, P⟩ => by
  match as, ra, P with
  | [a, c], ra, P =>
    obtain ⟨x, y, rfl, r1, r2⟩ := two_inv ra
    have P' : Pop W (RV W) Q io H ((isiB W.ct hp a c).map fun b => (AV.bl b, hp)) := P
    unfold isiB at P'
    cases z1 : twOf W.ct hp a with
    | none =>
      rw [z1] at P'
      exact P'.elim
    | some t =>
      rw [z1] at P'
      cases z2 : twC W.ct c with
      | none =>
        rw [z2] at P'
        exact P'.elim
      | some u =>
        rw [z2] at P'
        obtain ⟨k1, t1⟩ := twOf_in z1 rl r1
        obtain ⟨k2, t2⟩ := twC_in z2 r2
        refine ⟨x, y, t.val W, u.val W, t.sub W.ct u, rfl, t2, ?_, ?_, P'.ok rl (.bl _)⟩
        · rw [hK]
          exact t1
        · rw [hK]
          exact TW.sub_in W k1 k2
  | [], ra, P => exact P.elim
  | [_], ra, P => exact P.elim
  | _ :: _ :: _ :: _, ra, P => exact P.elim

variable {e o : Expr} {es : List Expr} {fa : DA} {f : DE} {x : Str} {p pos apos : Pos} {r : DL} {id T : String}
theorem bD (hc : CallR X (.builtin id) (tl W r)) (hm : X.mg x = none) (hv : bootBuiltins x = some (.builtin id)) (ha : PA X (e :: es) (tDA W M E fa)) (hg : Gl X x := by rfl) (hn : x ≠ "__name__" := by decide) (hdb : (x == ("__debug__" : Str)) = false := by decide)
    (he : starEach (e :: es) X.env = (false, eval e X.env) :: starEach es X.env := by rfl) (hpl : (backTo pos (starEach es X.env)).any (·.1) = false := by rfl) : PE X (.Call (.Name x p) (e :: es) [] pos) (tD W M E (dCB r fa)) :=
  peI (pe_callB hc hg hm hv ha hn hdb he hpl) fun _ _ _ h => cb_in h
theorem yD (hc : CallR X (.type T) (tl W r)) (hm : X.mg x = none) (hv : bootBuiltins x = some (.type T)) (ha : PA X (e :: es) (tDA W M E fa)) (hg : Gl X x := by rfl) (hn : x ≠ "__name__" := by decide) (hdb : (x == ("__debug__" : Str)) = false := by decide)
    (he : starEach (e :: es) X.env = (false, eval e X.env) :: starEach es X.env := by rfl) (hpl : (backTo pos (starEach es X.env)).any (·.1) = false := by rfl) : PE X (.Call (.Name x p) (e :: es) [] pos) (tD W M E (dCB r fa)) :=
  peI (pe_callTy hc hg hm hv ha hn hdb he hpl) fun _ _ _ h => cb_in h
/-- by receiver and arguments -/
abbrev DMt := AV → List AV → Hep → Op AV
def tm (W : Wd) (r : DMt) : V → List V → Hp → VK → Prop := fun x vs H Q => ∃ io hp a as, Rl W io hp H ∧ RV W io H a x ∧ RVs W io H as vs ∧ Pop W (RV W) Q io H (r a as hp)
theorem mt_imp {r r' : V → List V → Hp → VK → Prop} (h : MtR X id r) (i : ∀ x xs H Q, r' x xs H Q → r x xs H Q) : MtR X id r' := fun pins s σ H x xs v us Q I rx rxs q => h pins s σ H x xs v us Q I rx rxs (i x xs H Q q)
/-- is it such a builtin value? -/
def tyA (T : String) (h : Hep) : AV → Bool
  | .str _ => T == "str"
  | .ref n => match h[n]? with
    | some (.lst _) => T == "list"
    | some (.dK _) => T == "dict"
    | some (.dT _) => T == "dict"
    | _ => false
  | _ => false
def dMt (T : String) (r : DMt) (f : DE) (fa : DA) : DE := fun s h => (f s h).bind fun a h1 => if tyA T h1 a then (fa s h1).bind fun b h2 => R.of (r a b h2) else .stuck
theorem tyA_in {io : List Addr} {hp : Hep} {H : Hp} {a : AV} {x : V} (e : tyA T hp a = true) (rl : Rl W io hp H) (r : RV W io H a x) : tyV W.K T x H := by
  cases r with
  | str y => exact beq_iff_eq.mp e
  | @ref n a h =>
    unfold tyA at e
    dsimp only at e
    cases z : hp[n]? with
    | none =>
      rw [z] at e
      cases e
    | some o =>
      rw [z] at e
      cases o with
      | lst xs =>
        obtain ⟨vs, e1, _⟩ := rl.lst h z
        exact .inl ⟨beq_iff_eq.mp e, vs, .inl (.inl e1)⟩
      | dK xs =>
        obtain ⟨vs, e1, _⟩ := rl.dK h z
        exact .inr (.inr (.inl ⟨beq_iff_eq.mp e, .inl ⟨vs, e1⟩⟩))
      | dT xs =>
        obtain ⟨vs, e1, _⟩ := rl.dT h z
        exact .inr (.inr (.inl ⟨beq_iff_eq.mp e, .inr ⟨vs, e1⟩⟩))
      | _ => cases e
  | _ => cases e
theorem mt_in {r : DMt} {σ : L2.St} {H : Hp} {Q : VK} (h : tD W M E (dMt T r f fa) σ H Q) : tBM W.K T (tm W r) (tD W M E f) (tDA W M E fa) σ H Q := by
  obtain ⟨io, hp, as, rl, S, P⟩ := h
  refine (step (rh := RV W) (f := f) rl S P).imp fun x H1 ⟨io2, hp2, a, e2, rl2, ra, P2⟩ => ?_
  by_cases ht : tyA T hp2 a = true
  · rw [if_pos ht] at P2
    refine ⟨tyA_in ht rl2 ra, ?_⟩
    refine (step (rh := RVs W) (f := fa) rl2 (M.mono e2 S) P2).imp fun y H4 ⟨io5, hp5, b, e5, rl5, rb, P5⟩ => ?_
    exact ⟨io5, hp5, a, b, rl5, ra.mono e5, rb, P5.of⟩
  · rw [if_neg ht] at P2
    exact P2.elim
variable {name : Str} {r : DMt}
theorem mD (hK : X.K = W.K) (pa : PlainAttrs T) (slot : Slot T name id) (hm : MtR X id (tm W r)) (ho : PE X o (tD W M E f)) (ha : PA X (e :: es) (tDA W M E fa)) (hty : typeOf (.builtin id) = pure (.type "method_descriptor") := by rfl)
    (hbase : attributeBase o name X.env (eval o X.env) = eval o X.env := by rfl)
    (hfew : ((backTo pos (starEach (e :: es) X.env)).all (fun x => !x.1) && (backToKw pos (keywordEach [] X.env)).all (fun x => x.1.isSome)
      && decide ((e :: es).length + ([] : List Keyword).length + (if ([] : List Keyword).isEmpty then 0 else 1) < 30)) = true := by rfl)
    (hline : (apos.endLine == pos.line) = true := by rfl) (hs : starEach (e :: es) X.env = (false, eval e X.env) :: starEach es X.env := by rfl) (hplain : (backTo pos (starEach es X.env)).any (·.1) = false := by rfl) :
    PE X (.Call (.Attribute o name apos) (e :: es) [] pos) (tD W M E (dMt T r f fa)) :=
  peI (pe_bm pa slot hty hm ho ha hbase hfew hline hs hplain) fun σ H Q h => by
    rw [hK]
    exact mt_in h
theorem mD0 (hK : X.K = W.K) (pa : PlainAttrs T) (slot : Slot T name id) (hm : MtR X id (tm W r)) (ho : PE X o (tD W M E f)) (hty : typeOf (.builtin id) = pure (.type "method_descriptor") := by rfl)
    (hbase : attributeBase o name X.env (eval o X.env) = eval o X.env := by rfl)
    (hline : (apos.endLine == pos.line) = true := by rfl) :
    PE X (.Call (.Attribute o name apos) [] [] pos) (tD W M E (dMt T r f dNil)) :=
  peI (pe_bm0 pa slot hty hm ho hbase hline) fun σ H Q h => by
    rw [hK]
    have z := mt_in h
    refine z.imp fun x H1 ⟨a, b⟩ => ⟨a, nil_in b⟩

def lstAt (h : Hep) : AV → Option (Nat × List AV)
  | .ref n => match h[n]? with
    | some (.lst xs) => some (n, xs)
    | _ => none
  | _ => none
theorem lstAt_in {io : List Addr} {hp : Hep} {H : Hp} {a : AV} {x : V} {n : Nat} {xs : List AV} (e : lstAt hp a = some (n, xs)) (rl : Rl W io hp H) (r : RV W io H a x) : ∃ p vs, x = .ref p ∧ io[n]? = some p ∧ H p = some (.lst vs) ∧ RVs W io H xs vs := by
  cases r with
  | @ref m a h =>
    unfold lstAt at e
    dsimp only at e
    cases z : hp[m]? with
    | none =>
      rw [z] at e
      cases e
    | some o =>
      rw [z] at e
      cases o with
      | lst ys =>
        cases e
        obtain ⟨vs, e1, r1⟩ := rl.lst h z
        exact ⟨a, vs, rfl, h, e1, r1⟩
      | _ => cases e
  | _ => cases e
def mAppend : DMt := fun a as h => match lstAt h a, as with
  | some (n, xs), [b] => if xs.length < SZ then some (.non, h.set n (.lst (xs ++ [b]))) else none
  | _, _ => none
def mExtend : DMt := fun a as h => match lstAt h a, as with
  | some (n, xs), [b] => match lstAt h b with
    | some (_, ys) => if xs.length + ys.length ≤ SZ then some (.non, h.set n (.lst (xs ++ ys))) else none
    | none => none
  | _, _ => none
def mPop : DMt := fun a as h => match lstAt h a, as with
  | some (n, xs), [] => match xs[xs.length - 1]? with
    | some b => some (b, h.set n (.lst xs.dropLast))
    | none => none
  | some (n, xs), [b] => match b with
    | .int i => if -(2 ^ 63) ≤ i ∧ i < 2 ^ 63 then match seqIndex? i xs.length with
        | some k => match xs[k]? with
          | some b => some (b, h.set n (.lst (xs.eraseIdx k)))
          | none => none
        | none => none
      else none
    | _ => none
  | _, _ => none
def mClear : DMt := fun a as h => match lstAt h a, as with
  | some (n, xs), [] => some (.non, h.set n (.lst []))
  | _, _ => none
def mInsert : DMt := fun a as h => match lstAt h a, as with
  | some (n, xs), [c, b] => match c with
    | .int i => if xs.length < SZ ∧ 0 ≤ i ∧ i < 2 ^ 63 then some (.non, h.set n (.lst (xs.take i.toNat ++ [b] ++ xs.drop i.toNat))) else none
    | _ => none
  | _, _ => none
theorem set_lst {io : List Addr} {hp : Hep} {H : Hp} {Q : VK} {n : Nat} {p : Addr} {ys : List AV} {vs ws : List V} {b : AV} {y : V} (P : Pop W (RV W) Q io H (some (b, hp.set n (.lst ys)))) (rl : Rl W io hp H) (hi : io[n]? = some p) (hu : H p = some (.lst vs)) (r : RVs W io H ys ws) (rb : RV W io H b y) :
    Q y (upd H p (.lst ws)) := by
  have e : Ext W io H io (upd H p (.lst ws)) := Ext.set _ hu trivial
  exact P io _ y e (rl.set hi hu trivial (.lst (r.mono e))) (rb.mono e)
theorem meExtend : MtR X "list.extend" (tm W mExtend) := mt_imp mt_extend fun x xs H Q ⟨io, hp, a, as, rl, ra, ras, P⟩ => by
  unfold mExtend at P
  cases z : lstAt hp a with
  | none =>
    rw [z] at P
    exact P.elim
  | some q =>
    obtain ⟨n, ys⟩ := q
    rw [z] at P
    match as, ras, P with
    | [b], ras, P =>
      obtain ⟨y, rfl, rb⟩ := one_inv ras
      obtain ⟨p, vs, rfl, hi, hu, rv⟩ := lstAt_in z rl ra
      dsimp only at P
      cases z2 : lstAt hp b with
      | none =>
        rw [z2] at P
        exact P.elim
      | some q =>
        obtain ⟨m, zs⟩ := q
        rw [z2] at P
        obtain ⟨p2, ws, rfl, hi2, hu2, rv2⟩ := lstAt_in z2 rl rb
        dsimp only at P
        split at P
        · rename_i hz
          refine ⟨p, p2, vs, ws, rfl, rfl, hu, hu2, by rw [← rv.len, ← rv2.len]; exact szL hz, ?_⟩
          exact set_lst P rl hi hu (rv.app rv2) .non
        · exact P.elim
    | [], _, P => exact P.elim
    | _ :: _ :: _, _, P => exact P.elim
theorem mePop : MtR X "list.pop" (tm W mPop) := mt_imp (MtR.or mt_pop mt_popAt) fun x xs H Q ⟨io, hp, a, as, rl, ra, ras, P⟩ => by
  unfold mPop at P
  cases z : lstAt hp a with
  | none =>
    rw [z] at P
    exact P.elim
  | some q =>
    obtain ⟨n, ys⟩ := q
    rw [z] at P
    obtain ⟨p, vs, rfl, hi, hu, rv⟩ := lstAt_in z rl ra
    match as, ras, P with
    | [], .nil, P =>
      left
      dsimp only at P
      cases z2 : ys[ys.length - 1]? with
      | none =>
        rw [z2] at P
        exact P.elim
      | some b =>
        rw [z2] at P
        obtain ⟨y, ey, ry⟩ := rv.get z2
        rw [rv.len] at ey
        exact ⟨p, vs, y, rfl, rfl, hu, ey, set_lst P rl hi hu rv.dropLast ry⟩
    | [c], ras, P =>
      right
      obtain ⟨y, rfl, rb⟩ := one_inv ras
      cases c with
      | int i =>
        obtain rfl := rb.int_inv
        dsimp only at P
        split at P
        · rename_i hz
          cases z2 : seqIndex? i ys.length with
          | none =>
            rw [z2] at P
            exact P.elim
          | some k =>
            rw [z2] at P
            dsimp only at P
            cases z3 : ys[k]? with
            | none =>
              rw [z3] at P
              exact P.elim
            | some b =>
              rw [z3] at P
              obtain ⟨y, ey, ry⟩ := rv.get z3
              rw [rv.len] at z2
              exact ⟨p, vs, i, k, y, rfl, rfl, hu, hz.1, hz.2, z2, ey, set_lst P rl hi hu (rv.erase k) ry⟩
        · exact P.elim
      | _ => exact P.elim
    | _ :: _ :: _, _, P => exact P.elim
theorem meClear : MtR X "list.clear" (tm W mClear) := mt_imp mt_clear fun x xs H Q ⟨io, hp, a, as, rl, ra, ras, P⟩ => by
  unfold mClear at P
  cases z : lstAt hp a with
  | none =>
    rw [z] at P
    exact P.elim
  | some q =>
    obtain ⟨n, ys⟩ := q
    rw [z] at P
    obtain ⟨p, vs, rfl, hi, hu, rv⟩ := lstAt_in z rl ra
    match as, ras, P with
    | [], .nil, P => exact ⟨p, vs, rfl, rfl, hu, set_lst P rl hi hu .nil .non⟩
    | _ :: _, _, P => exact P.elim
theorem meInsert : MtR X "list.insert" (tm W mInsert) := mt_imp mt_insert fun x xs H Q ⟨io, hp, a, as, rl, ra, ras, P⟩ => by
  unfold mInsert at P
  cases z : lstAt hp a with
  | none =>
    rw [z] at P
    exact P.elim
  | some q =>
    obtain ⟨n, ys⟩ := q
    rw [z] at P
    obtain ⟨p, vs, rfl, hi, hu, rv⟩ := lstAt_in z rl ra
    match as, ras, P with
    | [c, b], ras, P =>
      obtain ⟨y, w, rfl, r1, r2⟩ := two_inv ras
      cases c with
      | int i =>
        obtain rfl := r1.int_inv
        dsimp only at P
        split at P
        · rename_i hz
          exact ⟨p, vs, i, w, rfl, rfl, hu, by rw [← rv.len]; exact szT hz.1, hz.2.1, hz.2.2, set_lst P rl hi hu (((rv.take _).app (.cons r2 .nil)).app (rv.drop _)) .non⟩
        · exact P.elim
      | _ => exact P.elim
    | [], _, P => exact P.elim
    | [_], _, P => exact P.elim
    | _ :: _ :: _ :: _, _, P => exact P.elim
end
end Dn
namespace PySem
open Sem (wp)
section
variable {prog : Program} {w : World} {A : Around} {E : Value → Shared → Prop} {s : Shared}
end
end PySem
namespace Dn
open PySem PySem.Spec PyProof.Rows L2

section
variable {W : Wd} {M : Md W} {E : WX} {X : Cx} {e : Expr} {f : DE} {p pos tpos : Pos} {elts : List Expr} {kk : Nat}
end
end Dn
namespace Dn
open PySem PySem.Spec PyProof.Rows L2
section
variable {W : Wd} {M : Md W} {E : WX} {X : Cx} {e e2 : Expr} {fa : DA} {p pos tpos : Pos} {elts : List Expr} {kk : Nat}
end
end Dn
namespace Dn
open PySem PySem.Spec PyProof.Rows L2

section
variable {W : Wd} {M : Md W} {E : WX} {X : Cx} {f : DE} {e : Expr} {es : List Expr} {gs : DGs} {g : DG} {pos tpos p : Pos} {kk i : Nat} {C : CS}
end
end Dn
namespace Dn
open PySem PySem.Spec PyProof.Rows L2

section
variable {W : Wd} {M : Md W} {E : WX} {X : Cx} {k : Nat}
theorem ru (hr : Room k X.A) : X.A.units + 64 < cLine := by have := hr.un; omega
theorem ru5 (hr : Room k X.A) : X.A.units + 65 < cLine := by have := hr.un; omega
theorem ru1 (hr : Room k X.A) : X.A.units + 1 < cLine := by have := hr.un; omega
theorem tkE0 : Takes X E0x := fun u s' ⟨_, _, _, _, _, _, _, _, _, _, _, _, _, _, _, _, w⟩ => w.elim
theorem iD {i : Int} {j pos} : PE X (.Constant (.int i) j pos) (tD W M E (dC (.int i))) := cD pe_int fun _ _ => .int i
theorem bD0 {i : Bool} {j pos} : PE X (.Constant (.bool i) j pos) (tD W M E (dC (.bl i))) := cD pe_bl fun _ _ => .bl i
theorem sD {i : Str} {j pos} : PE X (.Constant (.str i) j pos) (tD W M E (dC (.str i))) := cD pe_str fun _ _ => .str i
theorem nD0 {j pos} : PE X (.Constant .none j pos) (tD W M E (dC .non)) := cD pe_non fun _ _ => .non
theorem vv (i : Nat) {x : Str} {pos : Pos} (hN : X.N[i]? = some x := by rfl) (hv : Vis X.env.scope x := by first | exact Or.inl rfl | exact Or.inr (Or.inl rfl) | exact Or.inr (Or.inr rfl)) (hd : (x == ("__debug__" : Str)) = false := by decide)
    (hcd : (x == ("__classdict__" : Str)) = false := by decide) : PE X (.Name x pos) (tD W M E (dVar i)) := vD (pe_var hN hv hd hcd)
end
theorem bt_len : bootBuiltins "len" = some (.builtin "len") := by decide +kernel
theorem bt_abs : bootBuiltins "abs" = some (.builtin "abs") := by decide +kernel
theorem bt_max : bootBuiltins "max" = some (.builtin "max") := by decide +kernel
theorem bt_min : bootBuiltins "min" = some (.builtin "min") := by decide +kernel
theorem bt_all : bootBuiltins "all" = some (.builtin "all") := by decide +kernel
theorem bt_repr : bootBuiltins "repr" = some (.builtin "repr") := by decide +kernel
theorem bt_isinstance : bootBuiltins "isinstance" = some (.builtin "isinstance") := by decide +kernel
theorem bt_int : bootBuiltins "int" = some (.type "int") := by decide +kernel
theorem bt_str : bootBuiltins "str" = some (.type "str") := by decide +kernel
theorem bt_bool : bootBuiltins "bool" = some (.type "bool") := by decide +kernel
theorem bt_list : bootBuiltins "list" = some (.type "list") := by decide +kernel
section
variable {W : Wd} {M : Md W} {E : WX} {X : Cx} {k j n m q : Nat} {ps ks : List Str} {F : DF} {x : Str} {p pos : Pos} {e : Expr} {es : List Expr} {kws : List Keyword} {fa fk : DA} {ix : List Nat} {dfl : List AV} {bs : Bs}
theorem callH (H : Has X.prog X.w X.mg X.base W j x ps n F bs) (i : Nat) (hi : bs[i]? = some (m, ks, ix, dfl)) (hq : ks.length = q) (hr : Room k X.A) (hj : j ≤ k) (hK : X.K = W.K) (tk : Takes X E)
    (ha : PA X (e :: es) (tDA W M E fa)) (hkw : PK X kws (tDA W M E fk)) (hg : Gl X x := by rfl) (hall : (backToKw pos (keywordEach kws X.env)).all (·.1.isSome) = true := by rfl) (hks : (backToKw pos (keywordEach kws X.env)).filterMap (·.1) = ks := by rfl)
    (hdb : (x == ("__debug__" : Str)) = false := by decide) (he : starEach (e :: es) X.env = (false, eval e X.env) :: starEach es X.env := by rfl)
    (hpl : ((backTo pos (starEach (e :: es) X.env)).any (·.1) || (backToKw pos (keywordEach kws X.env)).any (·.1.isNone)) = false := by rfl) :
    PE X (.Call (.Name x p) (e :: es) kws pos) (tD W M E (dCallC F m q n ix dfl fa fk)) := by
  subst hq
  obtain ⟨a, fd, h1, h2, h3, h4⟩ := H
  have h5 := h4 _ (List.mem_of_getElem? hi)
  rw [← hK] at h2 h3
  exact callD h3 hr hj h1 h2 hK h5 tk ha hkw hg hall hks hdb he hpl
end

end Dn
namespace Dn
open PySem PySem.Spec PyProof.Rows L2

def putAV (o i v : AV) (h : Hep) : Option Hep := match o with
  | .ref n => match h[n]? with
    | some (.lst xs) => (match i with
      | .int k => (ixN xs.length k).map fun j => h.set n (.lst (xs.set j v))
      | _ => none)
    | some (.dK kvs) => (match keyOf i with
      | some q => if kvs.length < SZ then some (h.set n (.dK (dput kvs q v))) else none
      | none => none)
    | _ => none
  | _ => none
def dPut (fo fi fv : DE) : DS := fun s h => (fv s h).st s fun v h1 => (fo s h1).st s fun o h2 => (fi s h2).st s fun i h3 => match putAV o i v h3 with
  | some h4 => .nx s h4
  | none => .stuck
section
variable {W : Wd} {M : Md W} {E : WX} {X : Cx} {k : Nat}
theorem sPut {o i v : Expr} {fo fi fv : DE} {p pos : Pos} (hr : Room k X.A) (ho : PE X o (tD W M E fo)) (hi : PE X i (tD W M E fi)) (hv : PE X v (tD W M E fv)) (hs : swapsWith v (some (.Subscript o i p)) pos.line X.env = pure false := by rfl) :
    PS X (.Assign [.Subscript o i p] v pos) (tS W M E (dPut fo fi fv)) := by
  refine ⟨fun pins s σ H D I ⟨io, hp, as, rl, S, P⟩ => ?_⟩
  refine wpAny_Assign_Subscript (thn (hv.run pins s σ H _ I (stepS (rh := RV W) (f := fv) rl S P)) fun uv s1 ⟨xv, H1, I1, rv, io1, hp1, a1, e1, rl1, r1, P1⟩ => ?_) hs
  refine thn (ho.run pins s1 σ H1 _ I1 (stepS (rh := RV W) (f := fo) rl1 (M.mono e1 S) P1)) fun uo s2 ⟨xo, H2, I2, ro, io2, hp2, a2, e2, rl2, r2, P2⟩ => ?_
  refine thn (hi.run pins s2 σ H2 _ I2 (stepS (rh := RV W) (f := fi) rl2 (M.mono (e1.trans e2) S) P2)) fun ui s3 ⟨xi, H3, I3, ri, io3, hp3, a3, e3, rl3, r3, P3⟩ => ?_
  have S3 := M.mono ((e1.trans e2).trans e3) S
  have q2 := r2.mono e3
  have q1 := r1.mono (e2.trans e3)
  have fin : ∀ {H4 : Hp} {s4 : Shared} {h4 : Hep}, putAV a2 a3 a1 hp3 = some h4 → Ext W io3 H3 io3 H4 → Rl W io3 h4 H4 → Inv X pins σ H4 s4 → SP X pins D .next s4 := fun {H4 s4 h4} z e rl4 I4 => by
    rw [z] at P3
    exact ⟨σ, H4, I4, P3 _ _ _ e rl4 (M.mono e S3)⟩
  cases q2 with
  | @ref n p hi' =>
    have P4 : Pss W M E D io3 H3 (match putAV (.ref n) a3 a1 hp3 with
      | some h4 => .nx as h4
      | none => .stuck) := P3
    cases z : hp3[n]? with
    | none =>
      simp only [putAV, z] at P4
      exact P4.elim
    | some ob =>
      cases ob with
      | lst xs =>
        obtain ⟨vs, ev, rvs⟩ := rl3.lst hi' z
        cases r3 with
        | int i =>
          cases z2 : ixN xs.length i with
          | none =>
            simp only [putAV, z, z2] at P4
            exact P4.elim
          | some j =>
            have z3 : putAV (.ref n) (.int i) a1 hp3 = some (hp3.set n (.lst (xs.set j a1))) := by simp only [putAV, z, z2, Option.map_some]
            have eS : Ext W io3 H3 io3 (upd H3 p (.lst (vs.set j xv))) := Ext.set _ ev trivial
            refine thn (set_list pins s3 σ H3 _ _ _ _ _ _ (fun H' => H' = upd H3 p (.lst (vs.set j xv))) I3 ro ri rv ⟨p, vs, i, j, rfl, rfl, ev, by rw [← rvs.len]; exact z2, rfl⟩) fun _ s4 ⟨H4, I4, e4⟩ => ?_
            subst e4
            exact fin z3 eS (rl3.set hi' ev trivial (.lst ((rvs.set j q1).mono eS))) I4
        | _ =>
          simp only [putAV, z] at P4
          exact P4.elim
      | dK kvs =>
        obtain ⟨vs, ev, rvs⟩ := rl3.dK hi' z
        cases z2 : keyOf a3 with
        | none =>
          simp only [putAV, z, z2] at P4
          exact P4.elim
        | some q =>
          by_cases hz : kvs.length < SZ
          · have z3 : putAV (.ref n) a3 a1 hp3 = some (hp3.set n (.dK (dput kvs q a1))) := by simp only [putAV, z, z2, if_pos hz]
            have eS : Ext W io3 H3 io3 (upd H3 p (.dK (putK vs q xv))) := Ext.set _ ev trivial
            have ek := keyOf_in z2 r3
            subst ek
            refine thn (set_dict (ru1 hr) pins s3 σ H3 _ _ _ _ _ _ (fun H' => H' = upd H3 p (.dK (putK vs q xv))) I3 ro ri rv ⟨p, _, rfl, DPut.k ev (by rw [← rvs.len]; exact szT hz), rfl⟩) fun _ s4 ⟨H4, I4, e4⟩ => ?_
            subst e4
            exact fin z3 eS (rl3.set hi' ev trivial (.dK ((RKs.put q q1 rvs).mono eS))) I4
          · simp only [putAV, z, z2, if_neg hz] at P4
            exact P4.elim
      | _ =>
        simp only [putAV, z] at P4
        exact P4.elim
  | _ => exact P3.elim

/-- isinstance by the law's table of classes -/
theorem cIsiE {ct : CT} (hK : X.K = W.K) (hW : W.ct = ct) : CallR X (.builtin "isinstance") (tl W (isiL ct)) := by
  subst hW
  exact cIsi hK
end
def blkB (N : List Str) (sc scope : Scope) (own : List (Str × Nat)) : Bool :=
  decide (scope.kind = .function) && ((scope.names.all fun y => decide (scope.names.lookup y.1 = some y.2)) && ((own.all fun p => decide (N[p.2]? = some p.1)) &&
    ((scope.names.all fun y => !decide (y.2 = .free) || (decide (sc.names.lookup y.1 = some .cell) || decide (sc.names.lookup y.1 = some .free))) &&
      scope.names.all fun y => !(decide (y.2 = .local) || decide (y.2 = .cell)) || (decide (y.1 ∈ own.map (·.1)) || decide (y.1 ∉ N)))))
theorem blkOk {N : List Str} {sc scope : Scope} {own : List (Str × Nat)} (h : blkB N sc scope own = true) : BlkOk N sc scope own := by
  obtain ⟨h1, h⟩ := He.ba h
  obtain ⟨h2, h⟩ := He.ba h
  obtain ⟨h3, h⟩ := He.ba h
  obtain ⟨h4, h5⟩ := He.ba h
  rw [List.all_eq_true] at h2 h3 h4 h5
  refine ⟨of_decide_eq_true h1, fun y hy => of_decide_eq_true (h2 y hy), fun p hp => of_decide_eq_true (h3 p hp), fun y hy e => ?_, fun y hy e => ?_⟩
  · have z := h4 y hy
    simpa [e] using z
  · have z := h5 y hy
    have e' : (decide (y.2 = .local) || decide (y.2 = .cell)) = true := by simpa using e
    rw [e'] at z
    simpa using z

theorem cdB_ok {K : PySem.W.Frag} (h : cdB K = true) : PySem.W.specialIn K (.builtin "object.__class__") "__get__" = some (some (.builtin "getset_descriptor.__get__")) := He.eqO_ok h
theorem ckB_ok {K : PySem.W.Frag} (h : ckB K = true) : PySem.W.takesIn K (.builtin "object.__class__") = some true := of_decide_eq_true h
end Dn
namespace Dn
open PySem

/-- it comes to a value, of which Q stands -/
def wE {T : Type} (r : R T) (Q : T → Hep → Prop) : Prop := ∃ a h, r = .ok a h ∧ Q a h
/-- it goes on, or returns -/
def wS (r : SR) (N : Sl → Hep → Prop) (V : AV → Hep → Prop) : Prop := match r with
  | .nx s h => N s h
  | .rt v h => V v h
  | _ => False
@[simp] theorem wE_ok {T : Type} {a : T} {h : Hep} {Q : T → Hep → Prop} : wE (.ok a h) Q ↔ Q a h := ⟨fun ⟨_, _, e, q⟩ => (by cases e; exact q), fun q => ⟨_, _, rfl, q⟩⟩
@[simp] theorem wE_bind {T U : Type} {r : R T} {k : T → Hep → R U} {Q : U → Hep → Prop} : wE (r.bind k) Q ↔ wE r fun a h => wE (k a h) Q := by
  constructor
  · rintro ⟨b, h, e, q⟩
    cases r with
    | ok a h1 => exact ⟨a, h1, rfl, b, h, e, q⟩
    | exc t fs h1 => cases e
    | stuck => cases e
  · rintro ⟨a, h, e, b, h2, e2, q⟩
    subst e
    exact ⟨b, h2, e2, q⟩
@[simp] theorem wE_noX {T : Type} {r : R T} {Q : T → Hep → Prop} : wE r.noX Q ↔ wE r Q := by
  cases r <;> simp [R.noX, wE]
@[simp] theorem wE_stuck {T : Type} {Q : T → Hep → Prop} : wE (.stuck : R T) Q ↔ False := ⟨fun ⟨_, _, e, _⟩ => (by cases e), fun h => h.elim⟩
@[simp] theorem wE_exc {T : Type} {t : Nat} {fs : List (Nat × AV)} {h : Hep} {Q : T → Hep → Prop} : wE (.exc t fs h : R T) Q ↔ False := ⟨fun ⟨_, _, e, _⟩ => (by cases e), fun h => h.elim⟩
@[simp] theorem wE_of {T : Type} {o : Op T} {Q : T → Hep → Prop} : wE (R.of o) Q ↔ ∃ a h, o = some (a, h) ∧ Q a h := by
  cases o with
  | none => simp [R.of]
  | some p =>
    obtain ⟨a, h⟩ := p
    show wE (.ok a h) Q ↔ _
    rw [wE_ok]
    exact ⟨fun q => ⟨a, h, rfl, q⟩, fun ⟨_, _, e, q⟩ => by cases e; exact q⟩
@[simp] theorem wS_nx {s : Sl} {h : Hep} {N : Sl → Hep → Prop} {V : AV → Hep → Prop} : wS (.nx s h) N V ↔ N s h := Iff.rfl
@[simp] theorem wS_rt {v : AV} {h : Hep} {N : Sl → Hep → Prop} {V : AV → Hep → Prop} : wS (.rt v h) N V ↔ V v h := Iff.rfl
@[simp] theorem wS_then {r : SR} {k : Sl → Hep → SR} {N : Sl → Hep → Prop} {V : AV → Hep → Prop} : wS (r.then k) N V ↔ wS r (fun s h => wS (k s h) N V) V := by
  cases r <;> simp [SR.then, wS]
@[simp] theorem wS_st {T : Type} {r : R T} {s : Sl} {k : T → Hep → SR} {N : Sl → Hep → Prop} {V : AV → Hep → Prop} : wS (R.st r s k) N V ↔ wE r fun a h => wS (k a h) N V := by
  cases r <;> simp [R.st, wS]
theorem Fr.new {ex : List Nat} {h : Hep} {o : AO} : Fr ex h (h ++ [o]) := ⟨by simp, fun i hi _ => List.getElem?_append_left hi⟩
theorem lt_of {h : Hep} {i : Nat} {o : AO} (e : h[i]? = some o) : i < h.length := (List.getElem?_eq_some_iff.mp e).1

section
variable {T U : Type} {a : T} {h h1 : Hep} {s s1 : Sl} {t : Nat} {fs : List (Nat × AV)} {v : AV}
@[simp] theorem R.bind_ok {k : T → Hep → R U} : (R.ok a h).bind k = k a h := rfl
@[simp] theorem R.bind_exc {k : T → Hep → R U} : (R.exc t fs h : R T).bind k = .exc t fs h := rfl
@[simp] theorem R.bind_stuck {k : T → Hep → R U} : (R.stuck : R T).bind k = .stuck := rfl
@[simp] theorem R.of_some : R.of (some (a, h)) = .ok a h := rfl
@[simp] theorem R.of_none : R.of (none : Op T) = .stuck := rfl
@[simp] theorem R.st_ok {k : T → Hep → SR} : (R.ok a h).st s k = k a h := rfl
@[simp] theorem R.st_exc {k : T → Hep → SR} : (R.exc t fs h : R T).st s k = .exc t fs s h := rfl
@[simp] theorem R.st_stuck {k : T → Hep → SR} : (R.stuck : R T).st s k = .stuck := rfl
@[simp] theorem R.noX_ok : (R.ok a h).noX = .ok a h := rfl
@[simp] theorem SR.then_nx {k : Sl → Hep → SR} : (SR.nx s h).then k = k s h := rfl
@[simp] theorem SR.then_rt {k : Sl → Hep → SR} : (SR.rt v h).then k = .rt v h := rfl
@[simp] theorem SR.then_bk {k : Sl → Hep → SR} : (SR.bk s h).then k = .bk s h := rfl
@[simp] theorem SR.then_ct {k : Sl → Hep → SR} : (SR.ct s h).then k = .ct s h := rfl
@[simp] theorem SR.then_exc {k : Sl → Hep → SR} : (SR.exc t fs s h).then k = .exc t fs s h := rfl
@[simp] theorem SR.then_stuck {k : Sl → Hep → SR} : SR.stuck.then k = .stuck := rfl
@[simp] theorem SR.loop_nx {k : Sl → Hep → SR} : (SR.nx s h).loop k = k s h := rfl
@[simp] theorem SR.loop_ct {k : Sl → Hep → SR} : (SR.ct s h).loop k = k s h := rfl
@[simp] theorem SR.loop_bk {k : Sl → Hep → SR} : (SR.bk s h).loop k = .nx s h := rfl
@[simp] theorem SR.loop_rt {k : Sl → Hep → SR} : (SR.rt v h).loop k = .rt v h := rfl
@[simp] theorem SR.fin_nx : (SR.nx s h).fin = .ok .non h := rfl
@[simp] theorem SR.fin_rt : (SR.rt v h).fin = .ok v h := rfl
@[simp] theorem SR.fin_exc : (SR.exc t fs s h).fin = .exc t fs h := rfl
variable {f g k : DE} {c d : DT} {x y : DS} {fa ga : DA} {r r' : D2} {u : D1} {l : DL} {i j m n q : Nat} {b : Bool} {gt : DG} {gs : DGs} {F : DF} {ix : List Nat} {dfl : List AV} {lo hi : DO} {ty : String} {dm : DMt}
@[simp] theorem xSkip : dSkip s h = .nx s h := rfl
@[simp] theorem xSeq : dSeq x y s h = (x s h).then y := rfl
@[simp] theorem xDrop : dDrop f s h = (f s h).st s fun _ h1 => .nx s h1 := rfl
@[simp] theorem xRet : dRet f s h = (f s h).st s fun v h1 => .rt v h1 := rfl
@[simp] theorem xSet : dSet i f s h = (f s h).st s fun v h1 => .nx (s.set i (some v)) h1 := rfl
theorem xIfS0 : dIfS c x y s h = (c s h).st s fun b h1 => match b with
  | true => x s h1
  | false => y s h1 := rfl
@[simp] theorem xIfS : dIfS c x y s h = (c s h).st s fun b h1 => if b = true then x s h1 else y s h1 := by
  rw [xIfS0]
  congr
  funext b h1
  cases b <;> rfl
@[simp] theorem nx_int {i : Int} : (AV.int i).nx = true := rfl
@[simp] theorem nx_bl {i : Bool} : (AV.bl i).nx = true := rfl
@[simp] theorem nx_str {i : Str} : (AV.str i).nx = true := rfl
@[simp] theorem nx_non : AV.non.nx = true := rfl
@[simp] theorem nx_tup {i : List AV} : (AV.tup i).nx = true := rfl
@[simp] theorem nx_rol {i : List AV} : (AV.rol i).nx = true := rfl
@[simp] theorem nx_ref {i : Nat} : (AV.ref i).nx = true := rfl
@[simp] theorem nx_adr {i : Addr} : (AV.adr i).nx = true := rfl
@[simp] theorem nx_ty {i : String} : (AV.ty i).nx = true := rfl
@[simp] theorem nx_cls {i : Nat} : (AV.cls i).nx = true := rfl
@[simp] theorem nx_exi {i : Nat} : (AV.exi i).nx = true := rfl
@[simp] theorem nx_ndc {v : AV} : (AV.ndc v).nx = true := rfl
@[simp] theorem nx_slc : AV.slc.nx = true := rfl
def getV (o : Option (Option AV)) (h : Hep) : R AV := match o with
  | some (some v) => if v.nx = true then .ok v h else .stuck
  | _ => .stuck
@[simp] theorem getV_some : getV (some (some v)) h = if v.nx = true then .ok v h else .stuck := rfl
@[simp] theorem getV_none : getV (some none) h = .stuck := rfl
@[simp] theorem getV_no : getV none h = .stuck := rfl
@[simp] theorem xVar : dVar i s h = getV s[i]? h := by
  unfold dVar getV
  cases s[i]? with
  | none => rfl
  | some o =>
    cases o with
    | none => rfl
    | some w => cases w <;> rfl
@[simp] theorem xC : dC v s h = .ok v h := rfl
@[simp] theorem xOp : dOp r f g s h = (f s h).bind fun a h1 => (g s h1).bind fun b h2 => R.of (r a b h2) := rfl
@[simp] theorem xUn : dUn u f s h = (f s h).bind fun a h1 => R.of (u a h1) := rfl
@[simp] theorem xCB : dCB l fa s h = (fa s h).bind fun a h1 => R.of (l a h1) := rfl
@[simp] theorem xNil : dNil s h = .ok [] h := rfl
@[simp] theorem xCons : dCons f fa s h = (f s h).bind fun a h1 => (fa s h1).bind fun b h2 => .ok (a :: b) h2 := rfl
def asB (a : AV) (h : Hep) : R Bool := match a with
  | .bl b => .ok b h
  | _ => .stuck
@[simp] theorem asB_bl : asB (.bl b) h = .ok b h := rfl
@[simp] theorem xTst : dTst f s h = (f s h).bind asB := by
  unfold dTst asB
  rfl
@[simp] theorem xAnd : dAnd c d s h = (c s h).bind fun b h1 => if b = true then d s h1 else .ok false h1 := by
  unfold dAnd
  congr
  funext b h1
  cases b <;> rfl
@[simp] theorem xOr : dOr c d s h = (c s h).bind fun b h1 => if b = true then .ok true h1 else d s h1 := by
  unfold dOr
  congr
  funext b h1
  cases b <;> rfl
@[simp] theorem xNot : dNot c s h = (c s h).bind fun b h1 => .ok (!b) h1 := rfl
@[simp] theorem xIf : dIf c f g s h = (c s h).bind fun b h1 => if b = true then f s h1 else g s h1 := by
  unfold dIf
  congr
  funext b h1
  cases b <;> rfl
def andK (g : DE) (s : Sl) (a : AV) (h : Hep) : R AV := match a with
  | .bl true => g s h
  | .bl false => .ok (.bl false) h
  | _ => .stuck
def orK (g : DE) (s : Sl) (a : AV) (h : Hep) : R AV := match a with
  | .bl true => .ok (.bl true) h
  | .bl false => g s h
  | _ => .stuck
@[simp] theorem andK_bl : andK g s (.bl b) h = if b = true then g s h else .ok (.bl false) h := by cases b <;> rfl
@[simp] theorem orK_bl : orK g s (.bl b) h = if b = true then .ok (.bl true) h else g s h := by cases b <;> rfl
@[simp] theorem xAndV : dAndV f g s h = (f s h).bind (andK g s) := by
  unfold dAndV andK
  rfl
@[simp] theorem xOrV : dOrV f g s h = (f s h).bind (orK g s) := by
  unfold dOrV orK
  rfl
def notK (a : AV) (h : Hep) : R AV := match a with
  | .bl b => .ok (.bl (!b)) h
  | _ => .stuck
@[simp] theorem notK_bl : notK (.bl b) h = .ok (.bl (!b)) h := rfl
@[simp] theorem xNotV : dNotV f s h = (f s h).bind notK := by
  unfold dNotV notK
  rfl
def chnK (k : DE) (s : Sl) (r' : D2) (y z : AV) (h : Hep) : R AV := match z with
  | .bl true => (k s h).bind fun c h4 => R.of (r' y c h4)
  | .bl false => .ok (.bl false) h
  | _ => .stuck
@[simp] theorem chnK_bl {y : AV} : chnK k s r' y (.bl b) h = if b = true then (k s h).bind fun c h4 => R.of (r' y c h4) else .ok (.bl false) h := by cases b <;> rfl
@[simp] theorem xChn : dChn r r' f g k s h = (f s h).bind fun a h1 => (g s h1).bind fun b h2 => (R.of (r a b h2)).bind fun z h3 => chnK k s r' b z h3 := by
  unfold dChn chnK
  rfl
@[simp] theorem xLst : dLst fa s h = (fa s h).bind fun xs h1 => R.of (mkL xs h1) := rfl
@[simp] theorem xTup : dTup fa s h = (fa s h).bind fun xs h1 => R.of (mkT xs h1) := rfl
def slK (o : Option Sl) (h : Hep) : SR := match o with
  | some s' => .nx s' h
  | none => .stuck
@[simp] theorem slK_some : slK (some s) h = .nx s h := rfl
@[simp] theorem slK_none : slK none h = .stuck := rfl
@[simp] theorem xAsg : dAsg f gt s h = (f s h).st s fun v h1 => slK (gt v s) h1 := by
  unfold dAsg slK
  rfl
def tupK (gs : DGs) (s : Sl) (o : Option (List AV)) : Option Sl := match o with
  | some xs => gs xs s
  | none => none
@[simp] theorem tupK_some {xs : List AV} : tupK gs s (some xs) = gs xs s := rfl
@[simp] theorem xgN {v : AV} : dgN i v s = some (s.set i (some v)) := rfl
@[simp] theorem xgT {v : AV} : dgT gs v s = tupK gs s (tupOf v) := by
  unfold dgT tupK
  rfl
@[simp] theorem xg0 : dg0 [] s = some s := rfl
@[simp] theorem xgC {w : AV} {ws : List AV} : dgC gt gs (w :: ws) s = (gt w s).bind fun s1 => gs ws s1 := rfl
@[simp] theorem tupOf_tup {xs : List AV} : tupOf (.tup xs) = some xs := rfl
def par2K (i j : Nat) (s : Sl) (xs : List AV) (h : Hep) : SR := match xs with
  | [a, b] => .nx ((s.set i (some a)).set j (some b)) h
  | _ => .stuck
@[simp] theorem par2K_two {a b : AV} : par2K i j s [a, b] h = .nx ((s.set i (some a)).set j (some b)) h := rfl
@[simp] theorem xPar2 : dPar2 i j fa s h = (fa s h).st s fun xs h1 => par2K i j s xs h1 := by
  unfold dPar2 par2K
  rfl
@[simp] theorem xCall {fk : DA} : dCallC F n m q ix dfl fa fk s h = (fa s h).bind fun a h1 => (fk s h1).bind fun b h2 => if a.length = n ∧ b.length = m ∧ (sel ix (a ++ dfl ++ b)).length = q then F (sel ix (a ++ dfl ++ b)) h2 else .stuck := rfl
@[simp] theorem sel_nil {α : Type} {xs : List α} : sel [] xs = [] := rfl
@[simp] theorem sel_cons {α : Type} {xs : List α} : sel (i :: ix) xs = match xs[i]? with
  | some x => x :: sel ix xs
  | none => sel ix xs := by
  unfold sel
  rw [List.filterMap_cons]
  cases xs[i]? <;> rfl
@[simp] theorem xMt : dMt ty dm f fa s h = (f s h).bind fun a h1 => if tyA ty h1 a = true then (fa s h1).bind fun b h2 => R.of (dm a b h2) else .stuck := by
  unfold dMt
  rfl
def putK1 (s : Sl) (o : Option Hep) : SR := match o with
  | some h4 => .nx s h4
  | none => .stuck
@[simp] theorem putK1_some : putK1 s (some h) = .nx s h := rfl
@[simp] theorem xPut : dPut f g k s h = (k s h).st s fun v h1 => (f s h1).st s fun o h2 => (g s h2).st s fun i h3 => putK1 s (putAV o i v h3) := by
  unfold dPut putK1
  rfl
@[simp] theorem xNoP : dNoP s h = .ok none h := rfl
def prtK (a : AV) (h : Hep) : R (Option Int) := match a with
  | .int i => .ok (some i) h
  | _ => .stuck
@[simp] theorem prtK_int {i : Int} : prtK (.int i) h = .ok (some i) h := rfl
@[simp] theorem xPrt : dPrt f s h = (f s h).bind prtK := by
  unfold dPrt prtK
  rfl
@[simp] theorem xSlc : dSlc f lo hi s h = (f s h).bind fun a h1 => (lo s h1).bind fun l h2 => (hi s h2).bind fun u h3 => R.of (sliceAV a l u h3) := rfl
end

theorem lt1000 {n : Nat} (h : n < 2 ^ 200) : (n < 2 ^ 1000) = True := eq_true (Nat.lt_of_lt_of_le h (Nat.pow_le_pow_right (by decide) (by decide)))
theorem mulOk_l {i j : Int} (h1 : -(2 ^ 64) < i) (h2 : i < 2 ^ 64) : mulOk i j = true := by
  unfold mulOk
  rw [decide_eq_true (⟨h1, h2⟩ : -(2 ^ 64) < i ∧ i < 2 ^ 64), Bool.true_or]
theorem mulOk_r {i j : Int} (h1 : -(2 ^ 64) < j) (h2 : j < 2 ^ 64) : mulOk i j = true := by
  unfold mulOk
  rw [decide_eq_true (⟨h1, h2⟩ : -(2 ^ 64) < j ∧ j < 2 ^ 64), Bool.true_or, Bool.or_true]
section
variable {h : Hep} {i j : Int}
@[simp] theorem add_ii : addAV (.int i) (.int j) h = some (.int (i + j), h) := rfl
@[simp] theorem sub_ii : subAV (.int i) (.int j) h = some (.int (i - j), h) := rfl
@[simp] theorem mul_ii : mulAV (.int i) (.int j) h = if mulOk i j = true then some (.int (i * j), h) else none := rfl
@[simp] theorem fdiv_ii : fdivAV (.int i) (.int j) h = if 0 < j ∧ j < 1073741824 then some (.int (i / j), h) else none := rfl
@[simp] theorem mod_ii : modAV (.int i) (.int j) h = if 0 < j then some (.int (i % j), h) else none := rfl
@[simp] theorem neg_i : negAV (.int i) h = some (.int (-i), h) := rfl
theorem pow_ii (h0 : 0 ≤ j) (h1 : j ≤ 100) (h2 : i.natAbs < 2 ^ 200) : powAV (.int i) (.int j) h = some (.int (i ^ j.toNat), h) := by
  show (if 0 ≤ j ∧ j ≤ 100 ∧ i.natAbs < 2 ^ 1000 then some (AV.int (i ^ j.toNat), h) else none) = _
  rw [if_pos ⟨h0, h1, by rw [lt1000 h2]; trivial⟩]
@[simp] theorem lt_ii : ltAV (.int i) (.int j) h = some (.bl (decide (i < j)), h) := rfl
@[simp] theorem le_ii : leAV (.int i) (.int j) h = some (.bl (decide (i ≤ j)), h) := rfl
@[simp] theorem gt_ii : gtAV (.int i) (.int j) h = some (.bl (decide (j < i)), h) := rfl
@[simp] theorem ge_ii : geAV (.int i) (.int j) h = some (.bl (decide (j ≤ i)), h) := rfl
end
/-- items of a list at a place -/
theorem idx_lst {h : Hep} {n : Nat} {xs : List AV} {i : Int} {v : AV} (e : h[n]? = some (.lst xs)) (k : L2.atI xs i = some v) : idxAV (.ref n) (.int i) h = some (v, h) := by
  simp [idxAV, seqOf, tupOf, lstOf, e, k]
theorem idx_tup {h : Hep} {xs : List AV} {i : Int} {v : AV} (k : L2.atI xs i = some v) : idxAV (.tup xs) (.int i) h = some (v, h) := by
  simp [idxAV, seqOf, tupOf, k]
theorem idx_rol {h : Hep} {xs : List AV} {i : Int} {v : AV} (k : L2.atI xs i = some v) : idxAV (.rol xs) (.int i) h = some (v, h) := by
  simp [idxAV, seqOf, tupOf, lstOf, k]
theorem atI_nat {α : Type} {xs : List α} {n : Nat} {v : α} (e : xs[n]? = some v) : L2.atI xs (n : Int) = some v := by
  obtain ⟨hl, _⟩ := List.getElem?_eq_some_iff.mp e
  unfold L2.atI L2.ixN
  rw [if_pos (by omega), if_pos (by omega)]
  simpa using e
theorem put_lst {h : Hep} {n j : Nat} {xs : List AV} {v : AV} (e : h[n]? = some (.lst xs)) (hj : j < xs.length) : putAV (.ref n) (.int j) v h = some (h.set n (.lst (xs.set j v))) := by
  have : L2.ixN xs.length (j : Int) = some j := by
    unfold L2.ixN
    rw [if_pos (by omega), if_pos (by omega)]
    simp
  simp [putAV, e, this]
@[simp] theorem SZ_eq : SZ = 1000000 := rfl
theorem eq_ii {h : Hep} {i j : Int} : eqAV (.int i) (.int j) h = some (.bl (decide (i = j)), h) := by
  show ((if SeqAt.shaped (.int i) = true ∧ SeqAt.shaped (.int j) = true then some (PyData.eqv (.int i) (.int j)) else none).map fun c => (AV.bl c, h)) = _
  rw [if_pos ⟨rfl, rfl⟩]
  simp [PyData.eqv]
  rfl
theorem Fr.set_new {ex : List Nat} {h h' : Hep} {D : Nat} {o : AO} (f : Fr ex h h') (hD : h.length ≤ D) : Fr ex h (h'.set D o) := ⟨by simpa using f.1, fun i hi he => by
  rw [List.getElem?_set_ne (by omega)]
  exact f.2 i hi he⟩
/-- behind the heap's end nothing stands -/
theorem Fr.drop {ex : List Nat} {h h' : Hep} (f : Fr ex h h') (k : ∀ i ∈ ex, h.length ≤ i) : Fr [] h h' := f.mono fun i hi he => absurd hi (Nat.not_lt.mpr (k i he))
theorem lcL_fix {xs : List AV} {g : DG} {te : DE} {D : Nat} {s0 : Sl} (I : Nat → List AV → Hep → Prop) (hx : xs.length ≤ 100000)
    (step : ∀ i acc h x, xs[i]? = some x → I i acc h → h[D]? = some (.lst acc) → ∃ s1 y h2, g x s0 = some s1 ∧ te s1 h = .ok y h2 ∧ h2[D]? = some (.lst acc) ∧ I (i + 1) (acc ++ [y]) (h2.set D (.lst (acc ++ [y])))) :
    ∀ (k i : Nat) (acc : List AV) (h : Hep), k + i = xs.length → I i acc h → h[D]? = some (.lst acc) → acc.length ≤ i → ∃ acc' h', dLcL (.fix xs) g dYes te D s0 (k + 1) i h = .ok (.ref D) h' ∧ I xs.length acc' h' ∧ h'[D]? = some (.lst acc')
  | k, i, acc, h, e, hI, hD, hl => by
    cases z : xs[i]? with
    | none =>
      have hi := List.getElem?_eq_none_iff.mp z
      have : i = xs.length := by omega
      subst this
      refine ⟨acc, h, ?_, hI, hD⟩
      simp only [dLcL, Src.next, z]
    | some x =>
      obtain ⟨hi, _⟩ := List.getElem?_eq_some_iff.mp z
      obtain ⟨k, rfl⟩ : ∃ m, k = m + 1 := ⟨k - 1, by omega⟩
      obtain ⟨s1, y, h2, e1, e2, e3, hI2⟩ := step i acc h x z hI hD
      have hz : acc.length < SZ := by
        have : SZ = 1000000 := rfl
        omega
      have e4 : addAt D y h2 = some (h2.set D (.lst (acc ++ [y]))) := by
        unfold addAt
        rw [e3]
        exact if_pos hz
      have hD2 : (h2.set D (.lst (acc ++ [y])))[D]? = some (.lst (acc ++ [y])) := by
        rw [List.getElem?_set_self (lt_of e3)]
      obtain ⟨acc', h', r1, r2, r3⟩ := lcL_fix I hx step k (i + 1) (acc ++ [y]) _ (by omega) hI2 hD2 (by simp; omega)
      refine ⟨acc', h', ?_, r2, r3⟩
      unfold dLcL
      simp only [Src.next, z, e1, dYes, R.noX_ok, R.bind_ok, e2, e4]
      exact r1
theorem lc_fix {f : DI} {xs : List AV} {g : DG} {te : DE} {vs : List Nat} {s : Sl} {h h1 : Hep} (I : Nat → List AV → Hep → Prop) (ef : f s h = .ok (.fix xs) h1) (hx : xs.length ≤ 100000) (h0 : I 0 [] (h1 ++ [AO.lst []]))
    (step : ∀ i acc h x, xs[i]? = some x → I i acc h → h[h1.length]? = some (.lst acc) → ∃ s1 y h2, g x (wipeS s vs) = some s1 ∧ te s1 h = .ok y h2 ∧ h2[h1.length]? = some (.lst acc) ∧ I (i + 1) (acc ++ [y]) (h2.set h1.length (.lst (acc ++ [y])))) :
    ∃ acc h', dLc f g dYes te vs s h = .ok (.ref h1.length) h' ∧ I xs.length acc h' ∧ h'[h1.length]? = some (.lst acc) := by
  obtain ⟨acc, h', e, a, b⟩ := lcL_fix (D := h1.length) (s0 := wipeS s vs) I hx step xs.length 0 [] _ (by omega) h0 (by simp) (by simp)
  refine ⟨acc, h', ?_, a, b⟩
  unfold dLc
  rw [ef]
  exact e
theorem two62 : (1000000 : Int) < 2 ^ 62 := by decide
theorem in_bounds {i : Int} (h0 : -1000000 ≤ i) (h1 : i ≤ 1000000) (B : Int) (a : (1000000 : Int) < B) : -B ≤ i ∧ i < B := by omega
theorem dRg1_eq {fa : DA} {s : Sl} {h h1 : Hep} {j : Int} (e : fa s h = .ok [.int j] h1) : dRg1 fa s h = if -(2 ^ 62) ≤ j ∧ j < 2 ^ 62 then .ok (.fix (rngL 0 j.toNat)) h1 else .stuck := by
  unfold dRg1
  rw [e]
  rfl
theorem rg1_ok {fa : DA} {s : Sl} {h h1 : Hep} {j : Int} {n : Nat} (e : fa s h = .ok [.int j] h1) (hj : j = n) (hn : n ≤ 1000000) : dRg1 fa s h = .ok (.fix (rngL 0 n)) h1 := by
  subst hj
  rw [dRg1_eq e, if_pos (in_bounds (by omega) (by omega) _ two62), Int.toNat_natCast]
@[simp] theorem rngL_length {lo : Int} {n : Nat} : (rngL lo n).length = n := by simp [rngL]

/-- data that may be compared -/
def DOk (d : PyData) : Prop := d.canLay0 = true ∧ d.depth < 50
theorem eqD_dr {h : Hep} {a b : AV} {d e : PyData} (ra : Dr h a d) (rb : Dr h b e) (o1 : DOk d) (o2 : DOk e) : eqD a b h = some (PyData.eqv d e) := by
  unfold eqD
  rw [toD_dr ra DD (by have := o1.2; have z : DD = 50 := rfl; omega), toD_dr rb DD (by have := o2.2; have z : DD = 50 := rfl; omega)]
  dsimp only
  rw [if_pos]
  constructor
  · unfold SeqAt.shaped
    rw [o1.1, decide_eq_true (by have := o1.2; omega)]
    rfl
  · unfold SeqAt.shaped
    rw [o2.1, decide_eq_true (by have := o2.2; omega)]
    rfl
theorem eqAV_dr {h : Hep} {a b : AV} {d e : PyData} (ra : Dr h a d) (rb : Dr h b e) (o1 : DOk d) (o2 : DOk e) : eqAV a b h = some (.bl (PyData.eqv d e), h) := by
  unfold eqAV
  rw [eqD_dr ra rb o1 o2]
  rfl
theorem neAV_dr {h : Hep} {a b : AV} {d e : PyData} (ra : Dr h a d) (rb : Dr h b e) (o1 : DOk d) (o2 : DOk e) : neAV a b h = some (.bl (!PyData.eqv d e), h) := by
  unfold neAV
  rw [eqD_dr ra rb o1 o2]
  rfl
/-- things that read as data by a function -/
theorem drA_map {T : Type} {h : Hep} {f : T → AV} {g : T → PyData} (k : ∀ x, Dr h (f x) (g x)) : ∀ l : List T, DrA h (l.map f) (l.map g)
  | [] => .nil
  | x :: l => .cons (k x) (drA_map k l)
theorem eqvAll_map {T : Type} [DecidableEq T] {g : T → PyData} (k : ∀ x y, PyData.eqv (g x) (g y) = decide (x = y)) : ∀ l m : List T, PyData.eqvAll (l.map g) (m.map g) = decide (l = m)
  | [], [] => by simp [PyData.eqvAll]
  | [], _ :: _ => by simp [PyData.eqvAll]
  | _ :: _, [] => by simp [PyData.eqvAll]
  | x :: l, y :: m => by
    simp only [List.map_cons, PyData.eqvAll, k, eqvAll_map k l m, List.cons.injEq, Bool.decide_and]
theorem depthAll_map {T : Type} {g : T → PyData} {n : Nat} (k : ∀ x, (g x).depth ≤ n) : ∀ l : List T, PyData.depthAll (l.map g) ≤ n
  | [] => by simp [PyData.depthAll]
  | x :: l => by
    rw [List.map_cons, depthAll_cons]
    have := k x
    have := depthAll_map k l
    omega
theorem eq_ss {h : Hep} {x y : Str} (o1 : DOk (.str x)) (o2 : DOk (.str y)) : eqAV (.str x) (.str y) h = some (.bl (x == y), h) := by
  rw [eqAV_dr (.str x) (.str y) o1 o2, PyData.eqv]
theorem dOk_str {x : Str} (h : PyData.strOk x = true) : DOk (.str x) := ⟨by rw [PyData.canLay0]; exact h, by rw [PyData.depth]; decide⟩
theorem dOk_int {i : Int} : DOk (.int i) := ⟨by rw [PyData.canLay0], by rw [PyData.depth]; decide⟩
theorem eq_st {h : Hep} {x y : Str} {b : Bool} (o1 : PyData.strOk x = true) (o2 : PyData.strOk y = true) (e : (x == y) = b) : eqAV (.str x) (.str y) h = some (.bl b, h) := by
  rw [eq_ss (dOk_str o1) (dOk_str o2), e]
theorem cut_tail {xs : List AV} {k : Nat} : cutA xs (some (k : Int)) none = xs.drop k := by
  unfold cutA
  rw [HT.sIx_none, HT.sIx_nat]
  rcases Nat.lt_or_ge k xs.length with h | h
  · rw [Nat.min_eq_left (by omega), List.take_of_length_le (by simp)]
  · rw [Nat.min_eq_right h, List.drop_of_length_le (Nat.le_refl _), List.drop_of_length_le h, List.take_nil]
theorem slice_ref {h : Hep} {n : Nat} {xs : List AV} {lo hi : Option Int} (e : h[n]? = some (.lst xs)) (hz : (cutA xs lo hi).length ≤ SZ) : sliceAV (.ref n) lo hi h = some (.ref h.length, h ++ [AO.lst (cutA xs lo hi)]) := by
  unfold sliceAV
  simp only [tupOf, lstOf, e]
  exact if_pos hz
theorem len_ref {h : Hep} {n : Nat} {xs : List AV} (e : h[n]? = some (.lst xs)) : lenL [.ref n] h = some (.int (xs.length : Nat), h) := by
  simp [lenL, lenA, e]
theorem mkL_ok {h : Hep} {xs : List AV} (hz : xs.length ≤ SZ) : mkL xs h = some (.ref h.length, h ++ [AO.lst xs]) := if_pos hz
theorem seq_ref {h : Hep} {n : Nat} {xs : List AV} (e : h[n]? = some (.lst xs)) : seqOf h (.ref n) = some xs := by
  simp [seqOf, tupOf, lstOf, e]
@[simp] theorem new_at {h : Hep} {o : AO} : (h ++ [o])[h.length]? = some o := by simp
theorem mk_new (xs : List AV) (h : Hep) (hz : xs.length ≤ 1000000) : ∃ m g, mkL xs h = some (.ref m, g) ∧ Fr [] h g ∧ h.length ≤ m ∧ g[m]? = some (.lst xs) := ⟨_, _, mkL_ok hz, Fr.app, Nat.le_refl _, new_at⟩
theorem sl_new {xs : List AV} {h : Hep} {n : Nat} (lo hi : Option Int) (e : h[n]? = some (.lst xs)) (hz : (cutA xs lo hi).length ≤ 1000000) : ∃ m g, sliceAV (.ref n) lo hi h = some (.ref m, g) ∧ Fr [] h g ∧ h.length ≤ m ∧ g[m]? = some (.lst (cutA xs lo hi)) := ⟨_, _, slice_ref e hz, Fr.app, Nat.le_refl _, new_at⟩
theorem two63 : (1000000 : Int) < 2 ^ 63 := by decide
theorem pop_first {h : Hep} {n : Nat} {xs : List AV} {x : AV} (e : h[n]? = some (.lst (x :: xs))) : mPop (.ref n) [.int 0] h = some (x, h.set n (.lst xs)) := by
  have hl : lstAt h (.ref n) = some (n, x :: xs) := by simp [lstAt, e]
  have hb := in_bounds (i := 0) (by omega) (by omega) _ two63
  have hi : seqIndex? 0 (x :: xs).length = some 0 := by
    unfold seqIndex?
    simp
  unfold mPop
  rw [hl]
  dsimp only
  rw [if_pos hb, hi]
  rfl
theorem app_ok {h : Hep} {n : Nat} {xs : List AV} {x : AV} (e : h[n]? = some (.lst xs)) (hz : xs.length < 1000000) : mAppend (.ref n) [x] h = some (.non, h.set n (.lst (xs ++ [x]))) := by
  have hl : lstAt h (.ref n) = some (n, xs) := by simp [lstAt, e]
  unfold mAppend
  rw [hl]
  exact if_pos hz
theorem tyA_lst {h : Hep} {n : Nat} {xs : List AV} (e : h[n]? = some (.lst xs)) : tyA "list" h (.ref n) = true := by
  simp [tyA, e]
theorem loop_fix {xs : List AV} {g : DG} {body : DS} (I : Nat → Sl → Hep → Prop) (step : ∀ i s h x, xs[i]? = some x → I i s h → ∃ s1 s2 h2, g x s = some s1 ∧ (body s1 h = .nx s2 h2 ∨ body s1 h = .ct s2 h2) ∧ I (i + 1) s2 h2) :
    ∀ (k i : Nat) (s : Sl) (h : Hep), k + i = xs.length → I i s h → ∃ s' h', dLoop (.fix xs) g body (k + 1) i s h = .nx s' h' ∧ I xs.length s' h'
  | k, i, s, h, e, hI => by
    cases z : xs[i]? with
    | none =>
      have hi := List.getElem?_eq_none_iff.mp z
      have : i = xs.length := by omega
      subst this
      refine ⟨s, h, ?_, hI⟩
      simp only [dLoop, Src.next, z]
    | some x =>
      obtain ⟨hi, _⟩ := List.getElem?_eq_some_iff.mp z
      obtain ⟨k, rfl⟩ : ∃ m, k = m + 1 := ⟨k - 1, by omega⟩
      obtain ⟨s1, s2, h2, e1, e2, hI2⟩ := step i s h x z hI
      obtain ⟨s', h', r1, r2⟩ := loop_fix I step k (i + 1) s2 h2 (by omega) hI2
      refine ⟨s', h', ?_, r2⟩
      unfold dLoop
      simp only [Src.next, z, e1]
      rcases e2 with e2 | e2
      · rw [e2]
        exact r1
      · rw [e2]
        exact r1
theorem for_fix {f : DI} {xs : List AV} {g : DG} {body : DS} {s : Sl} {h h1 : Hep} (I : Nat → Sl → Hep → Prop) (ef : f s h = .ok (.fix xs) h1) (h0 : I 0 s h1)
    (step : ∀ i s h x, xs[i]? = some x → I i s h → ∃ s1 s2 h2, g x s = some s1 ∧ (body s1 h = .nx s2 h2 ∨ body s1 h = .ct s2 h2) ∧ I (i + 1) s2 h2) : ∃ s' h', dFor f g body s h = .nx s' h' ∧ I xs.length s' h' := by
  obtain ⟨s', h', e, r⟩ := loop_fix I step xs.length 0 s h1 (by omega) h0
  refine ⟨s', h', ?_, r⟩
  unfold dFor
  rw [ef]
  exact e
end Dn
namespace Dn
open PySem
theorem loop_ret {src : Src} {xs : List AV} {g : DG} {body : DS} (I : Nat → Sl → Hep → Prop) (T : Nat → AV → Hep → Prop) (hs : ∀ i s h, I i s h → src.next i h = some xs[i]?)
    (step : ∀ i s h x, xs[i]? = some x → I i s h → ∃ s1, g x s = some s1 ∧ ((∃ s2 h2, (body s1 h = .nx s2 h2 ∨ body s1 h = .ct s2 h2) ∧ I (i + 1) s2 h2) ∨ ∃ v h2, body s1 h = .rt v h2 ∧ T i v h2)) :
    ∀ (k i : Nat) (s : Sl) (h : Hep), k + i = xs.length → I i s h → (∃ s' h', dLoop src g body (k + 1) i s h = .nx s' h' ∧ I xs.length s' h') ∨ ∃ j v h', dLoop src g body (k + 1) i s h = .rt v h' ∧ T j v h' ∧ j < xs.length
  | k, i, s, h, e, hI => by
    have hn := hs i s h hI
    cases z : xs[i]? with
    | none =>
      have hi := List.getElem?_eq_none_iff.mp z
      have : i = xs.length := by omega
      subst this
      rw [z] at hn
      refine .inl ⟨s, h, ?_, hI⟩
      simp only [dLoop, hn]
    | some x =>
      obtain ⟨hi, _⟩ := List.getElem?_eq_some_iff.mp z
      obtain ⟨k, rfl⟩ : ∃ m, k = m + 1 := ⟨k - 1, by omega⟩
      rw [z] at hn
      obtain ⟨s1, e1, c⟩ := step i s h x z hI
      rcases c with ⟨s2, h2, e2, hI2⟩ | ⟨v, h2, e2, t⟩
      · rcases loop_ret I T hs step k (i + 1) s2 h2 (by omega) hI2 with ⟨s', h', r1, r2⟩ | ⟨j, v, h', r1, r2, r3⟩
        · refine .inl ⟨s', h', ?_, r2⟩
          unfold dLoop
          simp only [hn, e1]
          rcases e2 with e2 | e2
          · rw [e2]
            exact r1
          · rw [e2]
            exact r1
        · refine .inr ⟨j, v, h', ?_, r2, r3⟩
          unfold dLoop
          simp only [hn, e1]
          rcases e2 with e2 | e2
          · rw [e2]
            exact r1
          · rw [e2]
            exact r1
      · refine .inr ⟨i, v, h2, ?_, t, hi⟩
        unfold dLoop
        simp only [hn, e1, e2]
        rfl
theorem for_ret {f : DI} {src : Src} {xs : List AV} {g : DG} {body : DS} {s : Sl} {h h1 : Hep} (I : Nat → Sl → Hep → Prop) (T : Nat → AV → Hep → Prop) (ef : f s h = .ok src h1) (hlen : src.len h1 = xs.length) (hs : ∀ i s h, I i s h → src.next i h = some xs[i]?) (h0 : I 0 s h1)
    (step : ∀ i s h x, xs[i]? = some x → I i s h → ∃ s1, g x s = some s1 ∧ ((∃ s2 h2, (body s1 h = .nx s2 h2 ∨ body s1 h = .ct s2 h2) ∧ I (i + 1) s2 h2) ∨ ∃ v h2, body s1 h = .rt v h2 ∧ T i v h2)) :
    (∃ s' h', dFor f g body s h = .nx s' h' ∧ I xs.length s' h') ∨ ∃ j v h', dFor f g body s h = .rt v h' ∧ T j v h' ∧ j < xs.length := by
  have z := loop_ret I T hs step xs.length 0 s h1 (by omega) h0
  have e : dFor f g body s h = dLoop src g body (xs.length + 1) 0 s h1 := by
    unfold dFor
    rw [ef, R.st_ok, hlen]
  rw [e]
  exact z
theorem next_at {n i : Nat} {xs : List AV} {h : Hep} (e : h[n]? = some (.lst xs)) : (Src.at n).next i h = some xs[i]? := by
  simp [Src.next, e]
theorem len_at {n : Nat} {xs : List AV} {h : Hep} (e : h[n]? = some (.lst xs)) : (Src.at n).len h = xs.length := by
  simp [Src.len, e]
theorem src_ref {f : DE} {s : Sl} {h h1 : Hep} {n : Nat} {xs : List AV} (ef : f s h = .ok (.ref n) h1) (e : h1[n]? = some (.lst xs)) : dSrc f s h = .ok (.at n) h1 := by
  simp [dSrc, ef, e]
end Dn
namespace Dn
open PySem PySem.Spec PyProof.Rows L2

theorem ptW {X : Cx} {e : Expr} {t : TT} (h : PW X e t) : PT X e t := h.pt
section
variable {W : Wd} {io : List Addr} {hp : Hep} {H : Hp}
theorem insAt_in {a : AV} {x : V} {n t : Nat} {fs : List (Nat × AV)} (e : insAt hp a = some (n, t, fs)) (rl : Rl W io hp H) (r : RV W io H a x) :
    ∃ p dx vs, x = .ref p ∧ a = .ref n ∧ io[n]? = some p ∧ hp[n]? = some (.ins t fs) ∧ H p = some (.ins (W.cl t) dx vs) ∧ RFs W io H fs vs ∧ W.ct.kit t = true := by
  cases r with
  | @ref m p hi =>
    unfold insAt at e
    dsimp only at e
    cases z : hp[m]? with
    | none =>
      rw [z] at e
      cases e
    | some o =>
      rw [z] at e
      cases o with
      | ins t' fs' =>
        have e' : (m, t', fs') = (n, t, fs) := Option.some.inj e
        cases e'
        obtain ⟨dx, vs, e1, e2, e3⟩ := rl.ins hi z
        exact ⟨p, dx, vs, rfl, rfl, hi, z, e1, e2, e3⟩
      | _ => cases e
  | _ => cases e
end

def fldK (j : Nat) (o : Option (Nat × Nat × List (Nat × AV))) (h : Hep) : R AV := match o with
  | some (_, _, fs) => (match fget fs j with
    | some v => .ok v h
    | none => .stuck)
  | none => .stuck
def dFld (j : Nat) (f : DE) : DE := fun s h => (f s h).bind fun a h1 => fldK j (insAt h1 a) h1
def dSetF (j : Nat) (fo fv : DE) : DS := fun s h => (fv s h).st s fun v h1 => (fo s h1).st s fun o h2 => setfK s j v (insAt h2 o) h2
def chkT (t : Nat) (o : Option (Nat × Nat × List (Nat × AV))) : Option (Nat × Nat × List (Nat × AV)) := match o with
  | some (n, t', fs) => if t' = t then some (n, t', fs) else none
  | none => none
def augK (r : D2) (s : Sl) (j : Nat) (fv : DE) (o : AV) (h : Hep) : SR := match insAt h o with
  | some (_, t, fs) => (match fget fs j with
    | some x => (fv s h).st s fun y h2 => match r x y h2 with
      | some (z, h3) => setfK s j z (chkT t (insAt h3 o)) h3
      | none => .stuck
    | none => .stuck)
  | none => .stuck
def dAugF (r : D2) (j : Nat) (fo fv : DE) : DS := fun s h => (fo s h).st s fun o h1 => augK r s j fv o h1
section
variable {W : Wd} {M : Md W} {E : WX} {X : Cx} {e o value : Expr} {f fo fv : DE} {x : Str} {j : Nat} {pos pos' tpos : Pos}
theorem fldD (hK : X.K = W.K) (hj : W.fn[j]? = some x) (he : PE X e (tD W M E f)) (hb : attributeBase e x X.env (eval e X.env) = eval e X.env := by rfl) : PE X (.Attribute e x pos) (tD W M E (dFld j f)) := peI (pe_fld he hb) fun σ H Q h => by
  obtain ⟨io, hp, as, rl, S, P⟩ := h
  refine (step (rh := RV W) (f := f) rl S P).imp fun v H1 ⟨io2, hp2, a, e2, rl2, ra, P2⟩ => ?_
  cases z : insAt hp2 a with
  | none =>
    rw [z] at P2
    exact P2.elim
  | some q =>
    obtain ⟨n, t, fs⟩ := q
    rw [z] at P2
    obtain ⟨p, dx, vs, rfl, rfl, hi, hh, ea, rf, hk⟩ := insAt_in z rl2 ra
    have P3 : Pst W (RV W) E σ Q io2 H1 (match fget fs j with
      | some v => .ok v hp2
      | none => .stuck) := P2
    cases z2 : fget fs j with
    | none =>
      rw [z2] at P3
      exact P3.elim
    | some y =>
      rw [z2] at P3
      obtain ⟨v, l, rv⟩ := rf.get hj z2
      refine ⟨p, W.cl t, dx, vs, v, rfl, ea, ?_, ?_, l, P3.ok rl2 rv⟩
      · rw [hK]
        exact W.cks t hk
      · rw [hK]
        exact W.noat t x hk (List.mem_of_getElem? hj)
theorem setF_at {D : Ends} {σ : L2.St} {io : List Addr} {hp : Hep} {H : Hp} {as : Sl} {a y : AV} {xv yv : V} (hj : W.fn[j]? = some x) (rl : Rl W io hp H) (S : M.rel io H as σ) (ra : RV W io H a xv) (ry : RV W io H y yv) (P : Pss W M E D io H (setfK as j y (insAt hp a) hp)) :
    ∃ p t dx vs, xv = .ref p ∧ H p = some (.ins (W.cl t) dx vs) ∧ W.ct.kit t = true ∧ vs.length < 1000 ∧ D.nx σ (upd H p (.ins (W.cl t) dx (putF x yv vs))) := by
  cases z : insAt hp a with
  | none =>
    rw [z] at P
    exact P.elim
  | some q =>
    obtain ⟨n, t, fs⟩ := q
    rw [z] at P
    obtain ⟨p, dx, vs, rfl, rfl, hi, hh, ea, rf, hk⟩ := insAt_in z rl ra
    have P2 : Pss W M E D io H (if fs.length < 900 then .nx as (hp.set n (.ins t (fput fs j y))) else .stuck) := P
    by_cases hl : fs.length < 900
    · rw [if_pos hl] at P2
      have eS : Ext W io H io (upd H p (.ins (W.cl t) dx (putF x yv vs))) := Ext.set _ ea trivial
      refine ⟨p, t, dx, vs, rfl, ea, hk, by rw [← rf.len]; omega, ?_⟩
      exact P2 io _ σ eS (rl.set hi ea trivial (.ins hk ((rf.put hj ry).mono eS))) (M.mono eS S)
    · rw [if_neg hl] at P2
      exact P2.elim
theorem sSetF (hK : X.K = W.K) (hj : W.fn[j]? = some x) (ho : PE X o (tD W M E fo)) (hv : PE X value (tD W M E fv)) (hs : swapsWith value (some (.Attribute o x pos')) pos.line X.env = pure false := by rfl) : PS X (.Assign [.Attribute o x pos'] value pos) (tS W M E (dSetF j fo fv)) := psI (ps_fld ho hv hs) fun D σ H h => by
  obtain ⟨io, hp, as, rl, S, P⟩ := h
  refine (stepS (rh := RV W) (f := fv) rl S P).imp fun yv H1 ⟨io2, hp2, y, e2, rl2, ry, P2⟩ => ?_
  refine (stepS (rh := RV W) (f := fo) rl2 (M.mono e2 S) P2).imp fun xv H3 ⟨io3, hp3, a, e3, rl3, ra, P3⟩ => ?_
  obtain ⟨p, t, dx, vs, e1, ea, hk, hl, q⟩ := setF_at hj rl3 (M.mono e3 (M.mono e2 S)) ra (ry.mono e3) P3
  refine ⟨p, W.cl t, dx, vs, e1, ea, ?_, ?_, hl, q⟩
  · rw [hK]
    exact W.cks t hk
  · rw [hK]
    exact W.noat t x hk (List.mem_of_getElem? hj)
/-- numbers alone -/
def addII : D2 := fun a b h => match a, b with
  | .int i, .int j => some (.int (i + j), h)
  | _, _ => none
def subII : D2 := fun a b h => match a, b with
  | .int i, .int j => some (.int (i - j), h)
  | _, _ => none
theorem inAdd : InOp X .Add (t2 W addII) := fun pins s σ H x y u v Q I rx ry ⟨io, hp, a, b, rl, ra, rb, P⟩ => by
  refine in_add pins s σ H x y u v Q I rx ry ?_
  cases a with
  | int i =>
    cases b with
    | int j => exact ⟨i, j, ra.int_inv, rb.int_inv, P.ok rl (.int _)⟩
    | _ => exact P.elim
  | _ => exact P.elim
theorem sAugF {r : D2} {op : Operator} (hop : InOp X op (t2 W r)) (hK : X.K = W.K) (hj : W.fn[j]? = some x) (ho : PE X o (tD W M E fo)) (hv : PE X value (tD W M E fv)) : PS X (.AugAssign (.Attribute o x tpos) op value pos) (tS W M E (dAugF r j fo fv)) := psI (ps_fldaug ho hv hop) fun D σ H h => by
  obtain ⟨io, hp, as, rl, S, P⟩ := h
  refine (stepS (rh := RV W) (f := fo) rl S P).imp fun xv H1 ⟨io2, hp2, a, e2, rl2, ra, P2⟩ => ?_
  unfold augK at P2
  cases z : insAt hp2 a with
  | none =>
    rw [z] at P2
    exact P2.elim
  | some q =>
    obtain ⟨n, t, fs⟩ := q
    rw [z] at P2
    obtain ⟨p, dx, vs, rfl, rfl, hi, hh, ea, rf, hk⟩ := insAt_in z rl2 ra
    dsimp only at P2
    cases z2 : fget fs j with
    | none =>
      rw [z2] at P2
      exact P2.elim
    | some y =>
      rw [z2] at P2
      obtain ⟨v, l, rv⟩ := rf.get hj z2
      refine ⟨p, W.cl t, dx, vs, v, rfl, ea, ?_, ?_, l, ?_⟩
      · rw [hK]
        exact W.cks t hk
      · rw [hK]
        exact W.noat t x hk (List.mem_of_getElem? hj)
      · refine (stepS (rh := RV W) (f := fv) rl2 (M.mono e2 S) P2).imp fun yv H3 ⟨io3, hp3, b, e3, rl3, rb, P3⟩ => ?_
        refine ⟨io3, hp3, y, b, rl3, rv.mono e3, rb, ?_⟩
        cases z3 : r y b hp3 with
        | none =>
          rw [z3] at P3
          exact P3.elim
        | some q =>
          obtain ⟨w, hp4⟩ := q
          rw [z3] at P3
          intro io4 H4 wv e4 rl4 rw4
          have ra4 : RV W io4 H4 (.ref n) (.ref p) := ra.mono (e3.trans e4)
          have P4 : Pss W M E D io4 H4 (setfK as j w (chkT t (insAt hp4 (.ref n))) hp4) := Pss.later P3 e4
          cases z4 : insAt hp4 (.ref n) with
          | none =>
            rw [z4] at P4
            exact P4.elim
          | some q4 =>
            obtain ⟨n4, t4, fs4⟩ := q4
            rw [z4] at P4
            by_cases ht : t4 = t
            · subst ht
              have P5 : Pss W M E D io4 H4 (setfK as j w (insAt hp4 (.ref n)) hp4) := by
                rw [z4]
                unfold chkT at P4
                dsimp only at P4
                rw [if_pos rfl] at P4
                exact P4
              obtain ⟨p', t', dx', vs', e1, ea', hk', hl', q'⟩ := setF_at hj rl4 (M.mono (e2.trans (e3.trans e4)) S) ra4 rw4 P5
              cases e1
              obtain ⟨p5, dx5, vs5, e5, _, _, _, ea5, _, _⟩ := insAt_in z4 rl4 ra4
              cases e5
              have eo := Option.some.inj (ea'.symm.trans ea5)
              have ec : W.cl t' = W.cl t4 := by
                injection eo
              rw [ec] at ea' q'
              exact ⟨dx', vs', ea', hl', q'⟩
            · unfold chkT at P4
              dsimp only at P4
              rw [if_neg ht] at P4
              exact P4.elim

end

/-- class t has the method m, at a def of the text -/
def HasM (P : Program) (w : World) (mg : Str → Option Value) (base : Heap) (W : Wd) (k : Nat) (t : Nat) (x : Str) (ps : List Str) (n : Nat) (F : DF) (bs : Bs) : Prop :=
  ∃ (a : Addr) (fd : FuncData), Meth W.K (W.cl t) x a ∧ FnOk P w W.K mg base (L2.CX P w) k a fd ps (spD W n F) ∧ ∀ b ∈ bs, BnD W fd ps b.1 b.2.1 b.2.2.1 b.2.2.2
def methK (t : Nat) (F : DF) (n m q : Nat) (ix : List Nat) (dfl : List AV) (fa fk : DA) (s : Sl) (o : AV) (h : Hep) : R AV := match insAt h o with
  | some (_, t', _) => if t' = t then (fa s h).bind fun a h1 => (fk s h1).bind fun b h2 => if a.length = n ∧ b.length = m ∧ (sel ix (o :: a ++ dfl ++ b)).length = q then F (sel ix (o :: a ++ dfl ++ b)) h2 else .stuck else .stuck
  | none => .stuck
def dMeth (t : Nat) (F : DF) (n m q : Nat) (ix : List Nat) (dfl : List AV) (fo : DE) (fa fk : DA) : DE := fun s h => (fo s h).bind fun o h1 => methK t F n m q ix dfl fa fk s o h1
section
variable {W : Wd} {M : Md W} {E : WX} {X : Cx} {k j n m q t : Nat} {f : Addr} {fd : FuncData} {ps ks : List Str} {F : DF} {x : Str} {p pos apos kpos : Pos} {e o : Expr} {es : List Expr} {kws : List Keyword} {fa fk : DA} {fe fo : DE} {ix : List Nat} {dfl : List AV} {bs : Bs}
theorem meth_in {σ : L2.St} {H : Hp} {Q : VK} (h : tD W M E (dMeth t F n m j ix dfl fo fa fk) σ H Q) :
    tD W M E fo σ H fun xv H0 => ∃ p dx vs, xv = .ref p ∧ H0 p = some (.ins (W.cl t) dx vs) ∧ W.ct.kit t = true ∧ (∀ y : Str, y ∉ W.fn → vs.lookup y = none) ∧
      tDA W M E fa σ H0 fun vs H1 => tDA W M E fk σ H1 fun zs H2 => vs.length = n ∧ zs.length = m ∧ ∀ gV : List V → List V → List V, (∀ io H as bs vs zs, RVs W io H as vs → RVs W io H bs zs → RVs W io H (sel ix (as ++ dfl ++ bs)) (gV vs zs)) → spD W j F (gV (xv :: vs) zs) H2 Q (WE E σ) := by
  obtain ⟨io, hp, as, rl, S, P⟩ := h
  refine (step (rh := RV W) (f := fo) rl S P).imp fun xv H0 ⟨io1, hp1, a0, e1, rl1, ra0, P1⟩ => ?_
  unfold methK at P1
  cases z : insAt hp1 a0 with
  | none =>
    rw [z] at P1
    exact P1.elim
  | some q =>
    obtain ⟨n', t', fs⟩ := q
    rw [z] at P1
    dsimp only at P1
    by_cases ht : t' = t
    · subst ht
      rw [if_pos rfl] at P1
      obtain ⟨p, dx, vs, rfl, rfl, hi, hh, ea, rf, hk⟩ := insAt_in z rl1 ra0
      refine ⟨p, dx, vs, rfl, ea, hk, fun y hy => rf.no hy, ?_⟩
      refine (step (rh := RVs W) (f := fa) rl1 (M.mono e1 S) P1).imp fun vs H1 ⟨io2, hp2, a, e2, rl2, ra, P2⟩ => ?_
      refine (step (rh := RVs W) (f := fk) rl2 (M.mono (e1.trans e2) S) P2).imp fun zs H4 ⟨io5, hp5, b, e5, rl5, rb, P5⟩ => ?_
      by_cases hc : a.length = n ∧ b.length = m ∧ (sel ix (.ref n' :: a ++ dfl ++ b)).length = j
      · rw [if_pos hc] at P5
        have ra' := ra.mono e5
        have rs : RV W io5 H4 (.ref n') (.ref p) := ra0.mono (e2.trans e5)
        exact ⟨ra'.len.symm.trans hc.1, rb.len.symm.trans hc.2.1, fun gV hg => call_at (a := .ref n' :: a) rl5 (.cons rs ra') rb hg hc.2.2 P5⟩
      · rw [if_neg hc] at P5
        exact P5.elim
    · rw [if_neg ht] at P1
      exact P1.elim
theorem methD {pl : Sem Bool} (H : HasM X.prog X.w X.mg X.base W j t x ps n F bs) (i : Nat) (hi : bs[i]? = some (m + 1, ks, ix, dfl)) (hq : ks.length = q) (hr : Room k X.A) (hj : j ≤ k) (hK : X.K = W.K) (hx : x ∉ W.fn) (tk : Takes X E)
    (ho : PE X o (tD W M E fo)) (ha : PA X (e :: es) (tDA W M E fa)) (hkw : PK X kws (tDA W M E fk)) (hall : (backToKw pos (keywordEach kws X.env)).all (·.1.isSome) = true := by rfl) (hks : (backToKw pos (keywordEach kws X.env)).filterMap (·.1) = ks := by rfl)
    (he : starEach (e :: es) X.env = (false, eval e X.env) :: starEach es X.env := by rfl)
    (hpl : ((backTo pos (starEach (e :: es) X.env)).any (·.1) || (backToKw pos (keywordEach kws X.env)).any (·.1.isNone)) = false := by rfl)
    (ht : eval (.Call (.Attribute o x apos) (e :: es) kws pos) X.env = (do
      let ov ← eval o X.env
      standAt apos.atName
      let (f, first) ← holding [ov] (getMethod ov x pl)
      callWith pos f first (backTo pos (starEach (e :: es) X.env)) (backToKw pos (keywordEach kws X.env))) := by rfl) :
    PE X (.Call (.Attribute o x apos) (e :: es) kws pos) (tD W M E (dMeth t F m q n ix dfl fo fa fk)) := by
  subst hq
  obtain ⟨a, fd, hm, hF, hb⟩ := H
  obtain ⟨g, gV, kb, hg2⟩ := hb _ (List.mem_of_getElem? hi)
  dsimp only at kb
  rw [← hK] at kb hm hF
  refine ⟨fun pins s σ H Q I h => ?_⟩
  refine PySem.W.methodCall_KW (pl := pl) (thn (ho.run pins s σ H _ I (meth_in h)) fun u s1 ⟨xv, H1, I1, rx, p, dx, vs, ex, ea, hk, hl, q⟩ => ?_) ht
  subst ex
  obtain rfl : u = Value.ref p := rx
  refine getmeth_ok I1 ea (by rw [hK]; exact W.cks t hk) hm (hl x hx) ?_
  refine PySem.W.callWith_KW (first := [.ref p]) (h₀ := X.base) I.ok.mod.kin hm.kp hall (thn (ha.run pos pins s1 σ H1 _ I1 q) fun us s2 ⟨vs2, H2, I2, r, q2⟩ => ?_) hpl he
  refine thn (hkw.run pos pins s2 σ H2 _ I2 q2) fun ws s3 ⟨zs, H3, I3, rz, l1, l2, q3⟩ => ⟨I3.kIn, ?_⟩
  rw [hks]
  exact run_gen (n := m + 1) hF (hr.mono hj) kb tk I3 (us := .ref p :: us) (vs := .ref p :: vs2) (.cons rfl r) rz (by simp [l1]) l2 (q3 gV hg2)
theorem methD0 {pl : Sem Bool} (H : HasM X.prog X.w X.mg X.base W j t x ps n F bs) (i : Nat) (hi : bs[i]? = some (1, ks, ix, dfl)) (hq : ks.length = q) (hr : Room k X.A) (hj : j ≤ k) (hK : X.K = W.K) (hx : x ∉ W.fn) (tk : Takes X E)
    (ho : PE X o (tD W M E fo)) (hkw : PK X kws (tDA W M E fk)) (hall : (backToKw pos (keywordEach kws X.env)).all (·.1.isSome) = true := by rfl) (hks : (backToKw pos (keywordEach kws X.env)).filterMap (·.1) = ks := by rfl)
    (hpl : ((backTo pos (starEach [] X.env)).any (·.1) || (backToKw pos (keywordEach kws X.env)).any (·.1.isNone)) = false := by rfl)
    (ht : eval (.Call (.Attribute o x apos) [] kws pos) X.env = (do
      let ov ← eval o X.env
      standAt apos.atName
      let (f, first) ← holding [ov] (getMethod ov x pl)
      callWith pos f first (backTo pos (starEach [] X.env)) (backToKw pos (keywordEach kws X.env))) := by rfl) :
    PE X (.Call (.Attribute o x apos) [] kws pos) (tD W M E (dMeth t F 0 q n ix dfl fo dNil fk)) := by
  subst hq
  obtain ⟨a, fd, hm, hF, hb⟩ := H
  obtain ⟨g, gV, kb, hg2⟩ := hb _ (List.mem_of_getElem? hi)
  dsimp only at kb
  rw [← hK] at kb hm hF
  refine ⟨fun pins s σ H Q I h => ?_⟩
  refine PySem.W.methodCall_KW (pl := pl) (thn (ho.run pins s σ H _ I (meth_in h)) fun u s1 ⟨xv, H1, I1, rx, p, dx, vs, ex, ea, hk, hl, q⟩ => ?_) ht
  subst ex
  obtain rfl : u = Value.ref p := rx
  refine getmeth_ok I1 ea (by rw [hK]; exact W.cks t hk) hm (hl x hx) ?_
  refine PySem.W.callWith_KW0 (first := [.ref p]) (h₀ := X.base) I.ok.mod.kin hm.kp hall ?_ hpl
  refine thn (hkw.run pos pins s1 σ H1 _ I1 (nil_in q)) fun ws s3 ⟨zs, H3, I3, rz, l1, l2, q3⟩ => ⟨I3.kIn, ?_⟩
  rw [hks]
  exact run_gen (n := 1) hF (hr.mono hj) kb tk I3 (us := [.ref p]) (vs := [.ref p]) (.cons rfl .nil) rz rfl l2 (q3 gV hg2)
end
end Dn
namespace Dn
open PySem PySem.Spec PyProof.Rows L2

/-- one or the other -/
def altK {T : Type} (r : R T) (k : R T) : R T := match r with
  | .stuck => k
  | _ => r
def dAlt (f g : DE) : DE := fun s h => altK (f s h) (g s h)
section
variable {W : Wd} {M : Md W} {E : WX} {X : Cx} {e : Expr} {f g : DE}
theorem altD (h1 : PE X e (tD W M E f)) (h2 : PE X e (tD W M E g)) : PE X e (tD W M E (dAlt f g)) := ⟨fun pins s σ H Q I h => by
  obtain ⟨io, hp, as, rl, S, P⟩ := h
  have P' : Pst W (RV W) E σ Q io H (altK (f as hp) (g as hp)) := P
  cases z : f as hp with
  | ok a h' =>
    rw [z] at P'
    exact h1.run pins s σ H Q I ⟨io, hp, as, rl, S, by rw [z]; exact P'⟩
  | exc t fs h' =>
    rw [z] at P'
    exact h1.run pins s σ H Q I ⟨io, hp, as, rl, S, by rw [z]; exact P'⟩
  | stuck =>
    rw [z] at P'
    exact h2.run pins s σ H Q I ⟨io, hp, as, rl, S, P'⟩⟩
end

theorem run_sp {W : Wd} {E : WX} {X : Cx} {A' : Around} {j n : Nat} {f : Addr} {fd : FuncData} {ps : List Str} {F : DF} {ix : List Nat} {pins : List (Addr × Obj)} {σ : L2.St} {H : Hp} {s : Shared} {Q : VK} {us : List Value} {vs : List V} {as : List AV} {io : List Addr} {hp : Hep}
    (hF : FnOk X.prog X.w X.K X.mg X.base (L2.CX X.prog X.w) j f fd ps (spD W n F)) (hr : Room j A') (e0 : Env0 X.prog X.w X.K X.mg X.base A' X.stack s H) (hb : BnD W fd ps n [] ix []) (hK : X.K = W.K) (tk : Takes X E)
    (I : Inv X pins σ H s) (r : Vals vs us) (rl : Rl W io hp H) (ra : RVs W io H as vs) (hn : as.length = n) (hs : sel ix (as ++ [] ++ []) = as) (P : Pst W (RV W) E σ Q io H (F as hp)) : wpAny (model X.prog X.w) A' (call (.ref f) us) (EP X pins σ Q) X.xe s := by
  obtain ⟨g, gV, kb, hg⟩ := hb
  rw [← hK] at kb
  have hl : vs.length = n := ra.len.symm.trans hn
  have r2 := kb.rel r (.nil : Vals [] [])
  have q : spD W n F (gV vs []) H Q (WE E σ) := call_at (dfl := []) rl ra .nil hg (by rw [hs]; exact hn) (by rw [hs]; exact P)
  refine wpAny_call (codeAny_mono (hF.run A' X.stack s H ⟨us, []⟩ (g us []) (gV vs []) Q (WE E σ) hr e0 (kb.to s us [] I.kIn (r.length.symm.trans hl) rfl) r2 q) fun r s' hq => ?_)
  cases r with
  | error e => exact passAt tk σ pins H s e s' I hq
  | ok fl =>
    cases fl with
    | ret u => exact I.after hq
    | next => exact False.elim hq
    | brk => exact False.elim hq
    | cont => exact False.elim hq
/-- the class and the type of a method's def -/
theorem HasM.fnIn0 {K : PySem.W.Frag} {x qual : Str} {params : Arguments} {body : List Stmt} {scope : Scope} {dvs : List V} {kws : List (Str × V)} {f : Addr} {fd : FuncData} (F : FunD K x qual params body scope dvs kws f fd) : PySem.W.fnIn K f = true := by
  obtain ⟨oc, od, dV, kV, doc, pm, an, cdv, ct, osl, rfl, lk, _⟩ := F.ex
  unfold PySem.W.fnIn
  rw [lk]
def isT (h : Hep) (t : Nat) (a : AV) : Bool := match insAt h a with
  | some (_, t', _) => t' == t
  | none => false
theorem isT_in {W : Wd} {io : List Addr} {hp : Hep} {H : Hp} {a : AV} {x : V} {t : Nat} (e : isT hp t a = true) (rl : Rl W io hp H) (r : RV W io H a x) : ∃ p dx vs, x = .ref p ∧ H p = some (.ins (W.cl t) dx vs) ∧ W.ct.kit t = true := by
  unfold isT at e
  cases z : insAt hp a with
  | none =>
    rw [z] at e
    cases e
  | some q =>
    obtain ⟨n, t', fs⟩ := q
    rw [z] at e
    have et : t' = t := beq_iff_eq.mp e
    subst et
    obtain ⟨p, dx, vs, rfl, rfl, hi, hh, ea, rf, hk⟩ := insAt_in z rl r
    exact ⟨p, dx, vs, rfl, ea, hk⟩
theorem inst_of {X : Cx} {pins : List (Addr × Obj)} {σ : L2.St} {H : Hp} {s : Shared} {p C dx : Addr} {vs : List (Str × V)} (I : Inv X pins σ H s) (ea : H p = some (.ins C dx vs)) : ∃ od, PySem.W.InstAt s.heap p (PySem.W.instObj C dx) C (some od) := by
  obtain ⟨mA, O, _⟩ := ins_get I.hok ea
  obtain ⟨od, J, _⟩ := O.look
  exact ⟨od, J⟩
section
variable {W : Wd} {M : Md W} {E : WX} {X : Cx} {k j n t : Nat} {ps : List Str} {F : DF} {x : Str} {p pos apos : Pos} {e e' o : Expr} {f g fo : DE}
def lenK (v : AV) (h : Hep) : R AV := match v with
  | .int i => if 0 ≤ i ∧ i ≤ 1000000000 then .ok (.int i) h else .stuck
  | _ => .stuck
def lenOK (t : Nat) (F : DF) (as : List AV) (h : Hep) : R AV := match as with
  | [o] => if isT h t o = true then (F [o] h).bind lenK else .stuck
  | _ => .stuck
def dLenO (t : Nat) (F : DF) (fa : DA) : DE := fun s h => (fa s h).bind fun as h1 => lenOK t F as h1
theorem lenOD {es : List Expr} {fa : DA} (H : HasO X.prog X.w X.mg X.base W j t "__len__" ps 1 F) (hr : Room k X.A) (hj : j + 1 ≤ k) (hK : X.K = W.K) (tk : Takes X E) (hm : X.mg "len" = none) (ho : PA X (o :: es) (tDA W M E fa)) (hg : Gl X "len" := by rfl)
    (he : starEach (o :: es) X.env = (false, eval o X.env) :: starEach es X.env := by rfl) (hpl : (backTo pos (starEach es X.env)).any (·.1) = false := by rfl) : PE X (.Call (.Name "len" p) (o :: es) [] pos) (tD W M E (dLenO t F fa)) := by
  obtain ⟨a, fd, hm', hfi, hF, hb⟩ := H
  rw [← hK] at hm' hF
  refine ⟨fun pins s σ H Q I h => ?_⟩
  obtain ⟨io, hp, as, rl, S, P⟩ := h
  refine wpAny_Call_Name_kw (ld_blt I hg hm bt_len ?_ (by decide) (by decide))
  refine PyProof.Rows.callWith_builtin1 (thn (ho.run pos pins s σ H _ I (step (rh := RVs W) (f := fa) rl S P)) fun us s1 ⟨xv, H1, I1, rx, io1, hp1, a1, e1, rl1, ra1, P1⟩ => ?_) he hpl
  match a1, ra1, P1 with
  | [], .nil, P1 => exact P1.elim
  | _ :: _ :: _, .cons _ (.cons _ _), P1 => exact P1.elim
  | [a1], .cons (v := xv) ra1 .nil, P1 =>
  obtain ⟨u, rfl, rx2⟩ : ∃ u, us = [u] ∧ L2.RelV xv u := by
    cases rx with
    | cons r t =>
      cases t
      exact ⟨_, rfl, r⟩
  have P1' : Pst W (RV W) E σ Q io1 H1 (if isT hp1 t a1 = true then (F [a1] hp1).bind lenK else .stuck) := P1
  by_cases ht : isT hp1 t a1 = true
  · rw [if_pos ht] at P1'
    obtain ⟨q, dx, vs, rfl, ea, hk⟩ := isT_in ht rl1 ra1
    obtain rfl : u = Value.ref q := rx2
    obtain ⟨od, J⟩ := inst_of I1 ea
    obtain ⟨mm, fr⟩ := I1.fr
    refine PySem.W.len_K fr I1.ok.mod.kin J hm'.at_ hm'.fn ?_
    refine wpAny_mono (run_sp hF (hr.mono hj).in1 I1.env0.in1 hb hK tk I1 (vs := [.ref q]) (.cons rfl .nil) rl1 (.cons ra1 .nil) rfl rfl (P1'.imp (rh' := RV W) (Q' := fun y H2 => ∃ i, y = .int i ∧ (0 ≤ i ∧ i ≤ 1000000000) ∧ Q (.int i) H2) fun io2 H2 b hp2 y e2 rl2 rb P2 => ?_)) (fun v s2 ⟨y, H2, I2, ry, i, ei, hi, q2⟩ => ?_) fun _ _ z => z
    · cases b with
      | int i =>
        have P3 : Pst W (RV W) E σ Q io2 H2 (if 0 ≤ i ∧ i ≤ 1000000000 then .ok (.int i) hp2 else .stuck) := P2
        by_cases hi : 0 ≤ i ∧ i ≤ 1000000000
        · rw [if_pos hi] at P3
          exact ⟨i, rb.int_inv, hi, P3.ok rl2 (.int i)⟩
        · rw [if_neg hi] at P3
          exact P3.elim
      | _ => exact P2.elim
    · subst ei
      obtain ⟨tk', rfl⟩ := (show ∃ t, v = Value.int i t from ry)
      exact ⟨⟨hi.1, by have := hi.2; omega⟩, .int i, H2, I2.tok _, ⟨_, rfl⟩, q2⟩
  · rw [if_neg ht] at P1'
    exact P1'.elim
def dOpX (r : DX) (f g : DE) : DE := fun s h => (f s h).bind fun a h1 => (g s h1).bind fun b h2 => r a b h2
variable {G : Value → Value → Sem Value} {r r' : DX}
theorem cmpXT {op : CmpOp} (ho : OpX X W E (compareOp op) r) (ha : PE X e (tD W M E f)) (hb : PE X e' (tD W M E g)) (hmk : behindInMarks op e' = false) : PT X (.Compare e [op] [e'] pos) (tDT W M E (dTst (dOpX r f g))) := by
  refine ⟨fun pins s σ H0 Q I h => ?_⟩
  have h1 : tB (tD W M E (dOpX r f g)) σ H0 Q := tst_in h
  obtain ⟨io, hp, as, rl, S, P⟩ := h1
  refine wpAny_isTrue_Compare1 (thn (ha.run pins s σ H0 _ I (step (rh := RV W) (f := f) rl S P)) fun v s1 ⟨xv, H1, I1, rx, io1, hp1, a1, e1, rl1, ra1, P1⟩ => ?_) hmk
  refine thn (hb.run pins s1 σ H1 _ I1 (step (rh := RV W) (f := g) rl1 (M.mono e1 S) P1)) fun u s2 ⟨yv, H2, I2, ry, io2, hp2, a2, e2, rl2, ra2, P2⟩ => ?_
  refine thn (ho pins s2 σ H2 io2 hp2 a1 a2 xv yv v u _ I2 rx ry rl2 (ra1.mono e2) ra2 P2) fun c s3 ⟨z, H3, I3, r3, b, eb, q3⟩ => ?_
  subst eb
  obtain rfl : c = Value.bool b := r3
  exact wpAny_truthy_bool ⟨H3, I3, q3⟩
def blK (b : Bool) (v : AV) (h : Hep) : R AV := match v with
  | .bl c => .ok (.bl (if b = true then c else !c)) h
  | _ => .stuck
def inOK (b : Bool) (t : Nat) (F : DF) : DX := fun k o h => if isT h t o = true then (F [o, k] h).bind (blK b) else .stuck
theorem bl_end {Q : VK} {σ : L2.St} {io2 : List Addr} {H2 : Hp} {c : Bool} {b : AV} {hp2 : Hep} {y : V} (rl2 : Rl W io2 hp2 H2) (rb : RV W io2 H2 b y) (P2 : Pst W (RV W) E σ Q io2 H2 (blK c b hp2)) : ∃ d, y = .bl d ∧ Q (.bl (if c = true then d else !d)) H2 := by
  cases b with
  | bl d => exact ⟨d, rb.bl_inv, P2.ok rl2 (.bl _)⟩
  | _ => exact P2.elim
theorem inX (H : HasO X.prog X.w X.mg X.base W j t "__contains__" ps 2 F) (hr : Room k X.A) (hj : j ≤ k) (hK : X.K = W.K) (tk : Takes X E) : OpX X W E (compareOp .In) (inOK true t F) := by
  obtain ⟨a, fd, hm', hfi, hF, hb⟩ := H
  rw [← hK] at hm' hF
  intro pins s2 σ H2 io2 hp2 a1 a2 xv yv v u Q I2 rx ry rl2 ra1 ra2 P2
  unfold inOK at P2
  by_cases ht : isT hp2 t a2 = true
  · rw [if_pos ht] at P2
    obtain ⟨q, dx, vs, rfl, ea, hk⟩ := isT_in ht rl2 ra2
    obtain rfl : u = Value.ref q := ry
    obtain ⟨od, J⟩ := inst_of I2 ea
    obtain ⟨mm, fr⟩ := I2.fr
    refine PySem.W.in_K fr I2.ok.mod.kin J hm'.at_ hm'.fn ?_
    refine wpAny_mono (run_sp hF (hr.mono hj) I2.env0 hb hK tk I2 (vs := [.ref q, xv]) (.cons rfl (.cons rx .nil)) rl2 (.cons ra2 (.cons ra1 .nil)) rfl rfl (P2.imp (rh' := RV W) fun io3 H3 b hp3 y e3 rl3 rb P3 => bl_end rl3 rb P3)) (fun v s3 ⟨y, H3, I3, ry, d, ed, q3⟩ => ?_) fun _ _ z => z
    subst ed
    obtain rfl : v = Value.bool d := ry
    exact wpAny_truthy_bool ⟨.bl d, H3, I3, rfl, by simpa using q3⟩
  · rw [if_neg ht] at P2
    exact P2.elim
def ixOK (t : Nat) (F : DF) : DX := fun o i h => if isT h t o = true then F [o, i] h else .stuck
theorem ixX (H : HasO X.prog X.w X.mg X.base W j t "__getitem__" ps 2 F) (hr : Room k X.A) (hj : j + 1 ≤ k) (hK : X.K = W.K) (tk : Takes X E) : IxX X W E (ixOK t F) := by
  obtain ⟨a, fd, hm', hfi, hF, hb⟩ := H
  rw [← hK] at hm' hF hfi
  intro value slice pins s2 σ H2 io2 hp2 a1 a2 xv yv v u Q I2 rx ry rl2 ra1 ra2 P2 h1 h2
  unfold ixOK at P2
  by_cases ht : isT hp2 t a1 = true
  · rw [if_pos ht] at P2
    obtain ⟨q, dx, vs, rfl, ea, hk⟩ := isT_in ht rl2 ra1
    obtain rfl : v = Value.ref q := rx
    obtain ⟨od, J⟩ := inst_of I2 ea
    obtain ⟨mm, fr⟩ := I2.fr
    refine PySem.W.sub_K fr I2.ok.mod.kin J hm'.at_ hfi hm'.fn ?_ h2
    exact run_sp hF (hr.mono hj).in1 I2.env0.in1 hb hK tk I2 (vs := [.ref q, yv]) (.cons rfl (.cons ry .nil)) rl2 (.cons ra1 (.cons ra2 .nil)) rfl rfl P2
  · rw [if_neg ht] at P2
    exact P2.elim
theorem ixXD (hx : IxX X W E r) (ho : PE X o (tD W M E fo)) (hi : PE X e (tD W M E f)) (h1 : ∀ o i, subscripted e false o i = operate [o, i] (getItem o i) := by intro _ _; rfl) (h2 : ∀ o i, subscripted e true o i = runValue (.builtin "lifetime.subscript" ⟨[o, i], []⟩) := by intro _ _; rfl) :
    PE X (.Subscript o e pos) (tD W M E (dOpX r fo f)) := by
  refine ⟨fun pins s σ H Q I h => ?_⟩
  obtain ⟨io, hp, as, rl, S, P⟩ := h
  refine Subscript_ (thn (ho.run pins s σ H _ I (step (rh := RV W) (f := fo) rl S P)) fun v s1 ⟨xv, H1, I1, rx, io1, hp1, a1, e1, rl1, ra1, P1⟩ => ?_)
  refine thn (hi.run pins s1 σ H1 _ I1 (step (rh := RV W) (f := f) rl1 (M.mono e1 S) P1)) fun u s2 ⟨yv, H2, I2, ry, io2, hp2, a2, e2, rl2, ra2, P2⟩ => ?_
  exact hx o e pins s2 σ H2 io2 hp2 a1 a2 xv yv v u Q I2 rx ry rl2 (ra1.mono e2) ra2 P2 (h1 _ _) (h2 _ _)
end
end Dn
namespace Dn
open PySem PySem.Spec PyProof.Rows L2

section
variable {M : Model} {prog : Program} {w : World} {A : Around} {E : Value → Shared → Prop} {s : Shared} {K : PySem.W.Frag} {x C f : Addr} {ox : Obj} {od : Option Obj} {b tb : Value}
end
end Dn
namespace Dn
open PySem PySem.Spec PyProof.Rows L2
section
variable {W : Wd} {M : Md W} {E : WX} {X : Cx} {k j n t : Nat} {ps : List Str} {F : DF} {x : Str} {p pos apos : Pos} {e e' o : Expr} {f g fo : DE}
variable {ct : CT}
end
end Dn
namespace Dn
open PySem PySem.Spec PyProof.Rows L2
section
variable {W : Wd} {M : Md W} {E : WX} {X : Cx} {k j n m q t : Nat} {ps ks : List Str} {F : DF} {x : Str} {p pos apos : Pos} {e o : Expr} {es : List Expr} {kws : List Keyword} {f fo : DE} {fa fk : DA} {ix : List Nat} {dfl : List AV} {bs : Bs}
theorem makeC (H : HasC X.prog X.w X.mg X.base W j t x ps n F bs) (i : Nat) (hi : bs[i]? = some (m + 1, ks, ix, dfl)) (hq : ks.length = q) (hr : Room k X.A) (hj : j + 1 ≤ k) (hK : X.K = W.K) (tk : Takes X E)
    (ha : PA X (e :: es) (tDA W M E fa)) (hkw : PK X kws (tDA W M E fk)) (hg : Gl X x := by rfl) (hall : (backToKw pos (keywordEach kws X.env)).all (·.1.isSome) = true := by rfl) (hks : (backToKw pos (keywordEach kws X.env)).filterMap (·.1) = ks := by rfl)
    (hdb : (x == ("__debug__" : Str)) = false := by decide) (he : starEach (e :: es) X.env = (false, eval e X.env) :: starEach es X.env := by rfl)
    (hpl : ((backTo pos (starEach (e :: es) X.env)).any (·.1) || (backToKw pos (keywordEach kws X.env)).any (·.1.isNone)) = false := by rfl) :
    PE X (.Call (.Name x p) (e :: es) kws pos) (tD W M E (dMake t F m q n ix dfl fa fk)) := by
  subst hq
  obtain ⟨a, fd, h1, h2, h3, h4, h5⟩ := H
  have h6 := h5 _ (List.mem_of_getElem? hi)
  rw [← hK] at h1 h4
  exact makeD h3 rfl h1 h4 hr hj h2 hK h6 tk ha hkw hg hall hks hdb he hpl
def HasP (P : Program) (w : World) (mg : Str → Option Value) (base : Heap) (W : Wd) (k : Nat) (t : Nat) (x : Str) (ps : List Str) (F : DF) : Prop :=
  ∃ (pa a : Addr) (fd : FuncData), PropOf W.K (W.cl t) x pa a ∧ FnOk P w W.K mg base (L2.CX P w) k a fd ps (spD W 1 F) ∧ BnD W fd ps 1 [] [0] []
def dProp (t : Nat) (F : DF) (fo : DE) : DE := fun s h => (fo s h).bind fun o h1 => if isT h1 t o = true then (F [o] h1).noX else .stuck
theorem propD (H : HasP X.prog X.w X.mg X.base W j t x ps F) (hr : Room k X.A) (hj : j + 1 ≤ k) (hK : X.K = W.K) (tk : Takes X E) (ho : PE X o (tD W M E fo)) (hb : attributeBase o x X.env (eval o X.env) = eval o X.env := by rfl) : PE X (.Attribute o x pos) (tD W M E (dProp t F fo)) := by
  obtain ⟨pa, a, fd, hp', hF, hbn⟩ := H
  rw [← hK] at hp' hF
  refine ⟨fun pins s σ H Q I h => ?_⟩
  obtain ⟨io, hp, as, rl, S, P⟩ := h
  refine attr_of hb (thn (ho.run pins s σ H _ I (step (rh := RV W) (f := fo) rl S P)) fun u s1 ⟨xv, H1, I1, rx, io1, hp1, a1, e1, rl1, ra1, P1⟩ => ?_)
  by_cases ht : isT hp1 t a1 = true
  · rw [if_pos ht] at P1
    obtain ⟨q, dx, vs, rfl, ea, hk⟩ := isT_in ht rl1 ra1
    obtain rfl : u = Value.ref q := rx
    have c : Cls X.K (W.cl t) := by
      rw [hK]
      exact W.cks t hk
    obtain ⟨mA, O, _, _, _, _⟩ := ins_get I1.hok ea
    obtain ⟨od, J, _⟩ := O.look
    obtain ⟨rest, hrec⟩ := hp'.rec_
    have I2 := I1.tok (s1.toks + 1)
    have hc : (PySem.W.clsIn X.K (W.cl t)).isSome = true := by
      obtain ⟨cd, hc, _⟩ := PySem.W.any_some c.hd
      rw [hc]
      rfl
    refine PySem.W.get_bind I1.kIn J (PySem.W.plainGet_of (c.get x)).1 (PySem.W.findObj_data hc hp'.at_ hp'.get hp'.tak) (PySem.W.plainGet_of (c.get x)).2 (wpAny_call (PySem.W.prop_get (s := { s1 with toks := s1.toks + 1 }) I1.kIn hrec ?_))
    obtain ⟨g, gV, kb, hg⟩ := hbn
    rw [← hK] at kb
    have r : Vals [V.ref q] [Value.ref q] := .cons rfl .nil
    have r2 := kb.rel r (.nil : Vals [] [])
    have P2 : Pst W (RV W) (fun _ _ _ _ => False) σ Q io1 H1 (F [a1] hp1) := by
      cases z : F [a1] hp1 with
      | ok v h => rw [z] at P1; exact P1
      | exc t fs h => rw [z] at P1; exact P1.elim
      | stuck => rw [z] at P1; exact P1.elim
    have qq : spD W 1 F (gV [V.ref q] []) H1 Q (WE (fun _ _ _ _ => False) σ) := call_at (a := [a1]) (dfl := []) rl1 (.cons ra1 .nil) .nil hg rfl P2
    refine codeAny_mono (hF.run X.A.in1 X.stack { s1 with toks := s1.toks + 1 } H1 ⟨[.ref q], []⟩ (g [.ref q] []) (gV [V.ref q] []) Q (WE (fun _ _ _ _ => False) σ) (hr.mono hj).in1 I2.env0.in1 (kb.to _ [.ref q] [] I2.kIn rfl rfl) r2 qq) fun r s' hq => ?_
    cases r with
    | error er =>
      obtain ⟨_, _, _, _, _, _, _, _, _, _, _, _, z⟩ := hq
      exact z.elim
    | ok fl =>
      cases fl with
      | ret u =>
        obtain ⟨v, H', I3, rv, q3⟩ := I2.after hq
        show wpAny _ _ (handedOut u) _ _ _
        rw [PySem.W.handedOut_of (handed_of rv)]
        exact wpAny_pure ⟨v, H', I3, rv, q3⟩
      | next => exact False.elim hq
      | brk => exact False.elim hq
      | cont => exact False.elim hq
  · rw [if_neg ht] at P1
    exact P1.elim
end
end Dn
namespace Dn
open PySem PySem.Spec PyProof.Rows L2

theorem clB_ok {K : PySem.W.Frag} {C : Addr} (h : clB K C = true) : Cls K C ∧ PySem.W.findIn K (.ref C) "__class__" = some (some (.builtin "object.__class__")) ∧ PySem.W.mroIn K C (.type "object") = some true := by
  obtain ⟨h1, h⟩ := He.ba h
  obtain ⟨h2, h⟩ := He.ba h
  obtain ⟨h3, h⟩ := He.ba h
  obtain ⟨h4, h⟩ := He.ba h
  obtain ⟨h5, h6⟩ := He.ba h
  exact ⟨⟨h1, h2, h3, He.eqO_ok h4⟩, He.eqO_ok h5, of_decide_eq_true h6⟩
theorem allN_ok {n : Nat} {p : Nat → Bool} (h : allN n p = true) (t : Nat) (ht : t < n) : p t = true := List.all_eq_true.mp h t (List.mem_range.mpr ht)
theorem DefF.fun_ {d : DefF} {K : PySem.W.Frag} (e : d.look K = d.want) (c : d.good K = true) : ∃ g, FunD K d.nm d.ql d.pr d.bd d.sp (d.dl.map (He.Dv.v K)) (d.kw.map fun q => (q.1, q.2.v K)) (d.ad K) g := by
  obtain ⟨kp, c2⟩ := He.ba c
  unfold DefF.look at e
  cases q : K.lookup (d.ad K) with
  | none =>
    rw [q] at c2
    cases c2
  | some o =>
    obtain ⟨o1, o2, o3, o4⟩ := o
    rw [q] at c2 e
    cases o3 with
    | func g =>
      obtain ⟨m1, m2, m3, m4, m5, m6, m7, m8, m9, m10, m11, m12, m13, m14, m15⟩ := g
      have e2 : (some (m1, m2, m3, m4, m5, m6, m7, m15) : He.FnW) = some (d.nm, d.ql, d.pr, .stmts d.bd, d.sp, mainGlobals, [], builtinsNs) := e
      simp only [Option.some.injEq, Prod.mk.injEq] at e2
      obtain ⟨g1, g2, g3, g4, g5, g6, g7, g8⟩ := e2
      subst g1 g2 g3 g4 g5 g6 g7 g8
      have c3 : (PySem.W.codeIn K m13 d.ql && (He.dflB K m8 (d.dl.map (He.Dv.v K)) && He.kwdB K m9 (d.kw.map fun q => (q.1, q.2.v K)))) = true := c2
      obtain ⟨k1, k2⟩ := He.ba c3
      obtain ⟨k3, k4⟩ := He.ba k2
      exact ⟨_, ⟨o1, o2, m8, m9, m10, m11, m12, m13, m14, o4, rfl, q, k1, He.dflB_ok k3, He.kwdB_ok k4⟩, kp⟩
    | _ => cases c2
theorem methB_ok {K : PySem.W.Frag} {C m : Str} {p : Pth} (h : methB C m p K = true) : Meth K (He.ga K C) m (p K) := by
  obtain ⟨h1, h⟩ := He.ba h
  obtain ⟨h2, h3⟩ := He.ba h
  exact ⟨He.eqO_ok h1, h2, h3⟩
theorem mkB_ok {K : PySem.W.Frag} {C : Str} {p : Pth} (h : mkB C p K = true) : Mk K (He.ga K C) (p K) := by
  obtain ⟨h1, h⟩ := He.ba h
  obtain ⟨h2, h⟩ := He.ba h
  obtain ⟨h3, h4⟩ := He.ba h
  exact ⟨h1, He.eqO_ok h2, h3, h4⟩
theorem propB_ok {K : PySem.W.Frag} {C m : Str} {p : Pth} (h : propB C m p K = true) : PropOf K (He.ga K C) m (He.ma K (He.ga K C) m) (p K) := by
  obtain ⟨h1, h⟩ := He.ba h
  obtain ⟨h2, h⟩ := He.ba h
  obtain ⟨h3, h4⟩ := He.ba h
  refine ⟨He.eqO_ok h1, He.eqO_ok h2, of_decide_eq_true h3, ?_⟩
  cases q : PySem.W.recIn K (He.ma K (He.ga K C) m) "property" with
  | none =>
    rw [q] at h4
    cases h4
  | some l =>
    rw [q] at h4
    cases l with
    | nil => cases h4
    | cons v r =>
      cases v with
      | ref g =>
        have e : g = p K := of_decide_eq_true h4
        subst e
        exact ⟨r, rfl⟩
      | _ => cases h4
section
variable {fa : List He.Fa} {fn : List DefF} {xt : List (PySem.W.Frag → Bool)} {K : PySem.W.Frag}
theorem SaysF.fact (c : SaysF fa fn xt K) (i : Nat) {f : He.Fa} (h : fa[i]? = some f := by rfl) : f.ok K = true := List.all_eq_true.mp c.one.1 f (List.mem_of_getElem? h)
theorem SaysF.def_ (c : SaysF fa fn xt K) (i : Nat) {d : DefF} (h : fn[i]? = some d := by rfl) : ∃ g, FunD K d.nm d.ql d.pr d.bd d.sp (d.dl.map (He.Dv.v K)) (d.kw.map fun q => (q.1, q.2.v K)) (d.ad K) g := by
  have e : fn.map (fun d => d.look K) = fn.map DefF.want := congrArg (fun z : AlF => z.2) c
  have e2 : (fn.map fun d => d.look K)[i]? = (fn.map DefF.want)[i]? := by rw [e]
  rw [List.getElem?_map, List.getElem?_map, h] at e2
  exact DefF.fun_ (Option.some.inj e2) (List.all_eq_true.mp c.one.2.1 d (List.mem_of_getElem? h))
end
/-- a name of an attribute -/
theorem fnx {W : Wd} {fn : List Str} (h : W.fn = fn) {i : Nat} {x : Str} (e : fn[i]? = some x) : W.fn[i]? = some x := by
  rw [h]
  exact e
theorem fnn {W : Wd} {fn : List Str} (h : W.fn = fn) {x : Str} (e : x ∉ fn) : x ∉ W.fn := by
  rw [h]
  exact e
section
variable {P : Program} {w : World} {mg : Str → Option Value} {base : Heap} {W : Wd} {k n t : Nat} {f : Addr} {fd : FuncData} {ps : List Str} {F : DF} {bs : Bs} {x : Str}
theorem FnB.meth (B : FnB P w mg base W k f fd ps n F bs) (h : Meth W.K (W.cl t) x f) : HasM P w mg base W k t x ps n F bs := ⟨f, fd, h, B.2.1, B.2.2⟩
theorem FnB.prop (B : FnB P w mg base W k f fd ps 1 F bs) {pa : Addr} (h : PropOf W.K (W.cl t) x pa f) (i : Nat) (hi : bs[i]? = some (1, [], [0], [])) : HasP P w mg base W k t x ps F := ⟨pa, f, fd, h, B.2.1, B.2.2 _ (List.mem_of_getElem? hi)⟩
end
section
variable {W : Wd} {x qual : Str} {params : Arguments} {body : List Stmt} {scope : Scope} {dvs : List V} {kws : List (Str × V)} {f : Addr} {fd : FuncData} {ps : List Str}
/-- both kinds of defaults -/
theorem bnPK (F : FunD W.K x qual params body scope dvs kws f fd) (n : Nat) (ks : List Str) (ms : List (Str × V)) (ix : List Nat) (hd : dvs ≠ []) (hk : kws ≠ []) (hms : ∀ q ∈ ms, q ∈ kws) {dfl : List AV} (hf : RW0s W dfl (dvs ++ ms.map (·.2)))
    (h : ∀ (T D : Addr) (doc pm : Value) (an : Option Addr) (cdv ct : Value) (us its mv ws : List Value), us.length = n → its.length = dvs.length → mv.length = ms.length → ws.length = ks.length →
      ∃ k, bindArgs (PySem.W.fnOf x qual params body scope (.ref T) (.ref D) doc pm an cdv ct) ⟨us, ks.zip ws⟩ = seqItems? (.ref T) >>= k ∧ KwChain D ((ms.map (·.1)).zip mv) (k (some its.toArray)) (ps.zip (sel ix (us ++ (its ++ mv) ++ ws)))) : BnD W fd ps n ks ix dfl := by
  obtain ⟨its, mv, hb⟩ := FunD.kbinds F n ks ms (fun us its mv ws => sel ix (us ++ (its ++ mv) ++ ws)) hd hk hms (fun r1 r2 r3 r4 => sel_vals ((r1.append (r2.append r3)).append r4) ix) h
  exact ⟨_, _, hb, fun io H as bs vs zs r1 r2 => sel_rel ((r1.app (hf io H)).app r2) ix⟩
end
theorem etB_ok {p : Pth} {K : PySem.W.Frag} (c : etB p K = true) : ∀ H, SqT K H (p K) [] := by
  unfold etB at c
  split at c
  · rename_i dd its n sl z
    obtain ⟨c1, c2⟩ := He.ba c
    have e : its.toList = [] := by simpa using c1
    have e2 : its.size = 0 := of_decide_eq_true c2
    refine fun H => .inr ⟨_, its, n, z, rfl, rfl, ?_, ?_⟩
    · rw [e2]
      exact Nat.zero_le _
    · rw [e]
      exact .nil
  · cases c
end Dn
namespace Dn
open PySem
section
variable {T : Type} {a b v : AV} {h h1 : Hep} {s : Sl} {t i j n m q c : Nat} {f g k : DE} {fa fk : DA} {F : DF} {ix : List Nat} {dfl : List AV} {fs : List (Nat × AV)} {r r' : DX} {r2 : D2} {ct : CT}
@[simp] theorem fget_nil : fget [] j = none := rfl
@[simp] theorem fget_cons : fget ((i, v) :: fs) j = if i = j then some v else fget fs j := rfl
@[simp] theorem fput_nil : fput [] j v = [(j, v)] := rfl
@[simp] theorem fput_cons : fput ((i, a) :: fs) j v = if i = j then (i, v) :: fs else (i, a) :: fput fs j v := rfl
theorem ins_of (e : h[n]? = some (.ins t fs)) : insAt h (.ref n) = some (n, t, fs) := by
  simp [insAt, e]
@[simp] theorem xFld : dFld j f s h = (f s h).bind fun a h1 => fldK j (insAt h1 a) h1 := rfl
@[simp] theorem fldK_some : fldK j (some (n, t, fs)) h = match fget fs j with
    | some v => .ok v h
    | none => .stuck := rfl
@[simp] theorem xSetF : dSetF j f g s h = (g s h).st s fun v h1 => (f s h1).st s fun o h2 => setfK s j v (insAt h2 o) h2 := rfl
@[simp] theorem setfK_some : setfK s j v (some (n, t, fs)) h = if fs.length < 900 then .nx s (h.set n (.ins t (fput fs j v))) else .stuck := rfl
@[simp] theorem xAugF : dAugF r2 j f g s h = (f s h).st s fun o h1 => augK r2 s j g o h1 := rfl
def aug1 (r : D2) (s : Sl) (j t : Nat) (o x : AV) (y : AV) (h : Hep) : SR := match r x y h with
  | some (z, h3) => setfK s j z (chkT t (insAt h3 o)) h3
  | none => .stuck
theorem augK_of (e : h[n]? = some (.ins t fs)) (e2 : fget fs j = some a) : augK r2 s j g (.ref n) h = (g s h).st s fun y h2 => aug1 r2 s j t (.ref n) a y h2 := by
  unfold augK
  rw [ins_of e]
  dsimp only
  rw [e2]
  rfl
@[simp] theorem chkT_some : chkT t (some (n, m, fs)) = if m = t then some (n, m, fs) else none := rfl
@[simp] theorem addII_ii {i j : Int} : addII (.int i) (.int j) h = some (.int (i + j), h) := rfl
@[simp] theorem subII_ii {i j : Int} : subII (.int i) (.int j) h = some (.int (i - j), h) := rfl
theorem aug_int {i y : Int} (hr : (r2 = addII ∧ v = .int (i + y)) ∨ (r2 = subII ∧ v = .int (i - y))) (e : h[n]? = some (.ins t fs)) (hl : fs.length < 900) : aug1 r2 s j t (.ref n) (.int i) (.int y) h = .nx s (h.set n (.ins t (fput fs j v))) := by
  rcases hr with ⟨rfl, rfl⟩ | ⟨rfl, rfl⟩
  · simp [aug1, ins_of e, hl]
  · simp [aug1, ins_of e, hl]
@[simp] theorem xMeth : dMeth t F n m q ix dfl f fa fk s h = (f s h).bind fun o h1 => methK t F n m q ix dfl fa fk s o h1 := rfl
theorem methK_of (e : h[i]? = some (.ins t fs)) : methK t F n m q ix dfl fa fk s (.ref i) h = (fa s h).bind fun a h1 => (fk s h1).bind fun b h2 => if a.length = n ∧ b.length = m ∧ (sel ix (.ref i :: a ++ dfl ++ b)).length = q then F (sel ix (.ref i :: a ++ dfl ++ b)) h2 else .stuck := by
  unfold methK
  rw [ins_of e]
  exact if_pos rfl
theorem isT_of (e : h[i]? = some (.ins t fs)) : isT h t (.ref i) = true := by
  simp [isT, ins_of e]
@[simp] theorem xProp : dProp t F f s h = (f s h).bind fun o h1 => if isT h1 t o = true then (F [o] h1).noX else .stuck := rfl
@[simp] theorem xLenO : dLenO t F fa s h = (fa s h).bind fun as h1 => lenOK t F as h1 := rfl
@[simp] theorem lenOK_one : lenOK t F [a] h = if isT h t a = true then (F [a] h).bind lenK else .stuck := rfl
@[simp] theorem lenK_int {i : Int} : lenK (.int i) h = if 0 ≤ i ∧ i ≤ 1000000000 then .ok (.int i) h else .stuck := rfl
@[simp] theorem xOpX : dOpX r f g s h = (f s h).bind fun a h1 => (g s h1).bind fun b h2 => r a b h2 := rfl
@[simp] theorem xAlt : dAlt f g s h = altK (f s h) (g s h) := rfl
@[simp] theorem altK_ok {x : T} {k : R T} : altK (.ok x h) k = .ok x h := rfl
@[simp] theorem altK_stuck {k : R T} : altK .stuck k = k := rfl
@[simp] theorem ofX_eq : ofX r2 a b h = R.of (r2 a b h) := rfl
@[simp] theorem blK_bl {c d : Bool} : blK c (.bl d) h = .ok (.bl (if c = true then d else !d)) h := rfl
@[simp] theorem xinOK {c : Bool} : inOK c t F a b h = if isT h t b = true then (F [b, a] h).bind (blK c) else .stuck := rfl
@[simp] theorem xixOK : ixOK t F a b h = if isT h t a = true then F [a, b] h else .stuck := rfl
def makK (n : Nat) (v : AV) (h : Hep) : R AV := match v with
  | .non => .ok (.ref n) h
  | _ => .stuck
@[simp] theorem makK_non : makK n .non h = .ok (.ref n) h := rfl
@[simp] theorem xMake : dMake t F n m q ix dfl fa fk s h = (fa s h).bind fun a h1 => (fk s h1).bind fun b h2 =>
  if a.length = n ∧ b.length = m ∧ (sel ix (.ref h2.length :: a ++ dfl ++ b)).length = q then (F (sel ix (.ref h2.length :: a ++ dfl ++ b)) (h2 ++ [AO.ins t []])).bind (makK h2.length) else .stuck := by
  unfold dMake makK
  rfl
theorem isi_lst {c : Nat} {xs : List AV} (e : h[i]? = some (.lst xs)) (hc : ct.kit c = true) : isiL ct [.ref i, .cls c] h = some (.bl false, h) := by
  simp [isiL, isiB, twOf, e, twO, twC, kitB, hc, TW.sub]
end
end Dn
namespace Dn
open PySem PySem.Spec PyProof.Rows L2
def mIndex : DMt := fun a as h => match lstAt h a, as with
  | some (_, xs), [y] => (match toD DD h y, xs.mapM (toD DD h) with
    | some d, some ds => if SeqAt.shaped (.list ds) = true ∧ SeqAt.shaped d = true then (ds.findIdx? fun z => PyData.eqv z d).map fun j => (.int (j : Nat), h) else none
    | _, _ => none)
  | _, _ => none
section
variable {W : Wd} {X : Cx}
theorem meIndex (hK : X.K = W.K) (hu : X.A.units + 65 < cLine) : MtR X "list.index" (tm W mIndex) := mt_imp (mt_indexD hu) fun x xs H Q ⟨io, hp, a, as, rl, ra, ras, P⟩ => by
  unfold mIndex at P
  cases z : lstAt hp a with
  | none =>
    rw [z] at P
    exact P.elim
  | some q =>
    obtain ⟨n, ys⟩ := q
    rw [z] at P
    obtain ⟨p, vs, rfl, hi, hu, rv⟩ := lstAt_in z rl ra
    match as, ras, P with
    | [], .nil, P => exact P.elim
    | _ :: _ :: _, _, P => exact P.elim
    | [c], ras, P =>
      obtain ⟨y, rfl, rb⟩ := one_inv ras
      dsimp only at P
      cases z1 : toD DD hp c with
      | none =>
        rw [z1] at P
        exact P.elim
      | some d =>
        cases z2 : ys.mapM (toD DD hp) with
        | none =>
          rw [z1, z2] at P
          exact P.elim
        | some ds =>
          rw [z1, z2] at P
          dsimp only at P
          by_cases h : SeqAt.shaped (.list ds) = true ∧ SeqAt.shaped d = true
          · rw [if_pos h] at P
            cases z3 : ds.findIdx? (fun z => PyData.eqv z d) with
            | none =>
              rw [z3] at P
              exact P.elim
            | some j =>
              rw [z3] at P
              obtain ⟨hj, hj2, hj3⟩ := List.findIdx?_eq_some_iff_getElem.mp z3
              rw [hK]
              refine ⟨p, y, d, ds, j, ds[j], rfl, rfl, .lst (SqL.of hu) (toD_list DD (toD_in rl DD) ys vs ds z2 rv), toD_in rl DD c y d z1 rb, h.1, h.2, List.getElem?_eq_getElem hj, hj2, fun m z' hm hz => ?_, P.ok rl (.int _)⟩
              obtain ⟨hm2, ez⟩ := List.getElem?_eq_some_iff.mp hz
              subst ez
              simpa using hj3 m hm
          · rw [if_neg h] at P
            exact P.elim
def rCountD (K : PySem.W.Frag) : V → List V → Hp → VK → Prop := fun x xs H Q => ∃ (a : Addr) (y : V) (d : PyData) (ds : List PyData), x = V.ref a ∧ xs = [y] ∧ Dp K H (V.ref a) (.list ds) ∧ Dp K H y d ∧
  SeqAt.shaped (.list ds) = true ∧ SeqAt.shaped d = true ∧ Q (.int (ds.countP (fun z => PyData.eqv z d) : Nat)) H
theorem mt_countD (hu : X.A.units + 65 < cLine) : MtR X "list.count" (rCountD X.K) := by
  intro pins s σ H x xs v us Q I rx rxs h
  obtain ⟨a, y, d, ds, rfl, rfl, hl, hy, sl, sd, q⟩ := h
  cases rx
  cases rxs with
  | cons ry rt =>
    rename_i uy ut
    cases rt
    obtain ⟨bs, r1⟩ := Dp.reads I d y uy hy ry
    have hxs : PyData.canLayAll0 ds = true := SeqAt.canLay_of_shaped sl
    have hroom : X.A.units + 1 + min (PyData.depthAll ds) d.depth < cLine := room_in_shaped sd hu
    cases hl with
    | lst hs ha =>
      obtain ⟨its, rv, ⟨⟨cls, dd, data, sls⟩, n, ho, hc, hdn, hdt⟩, hlen⟩ := I.list hs
      simp only at hc hdt
      subst hc hdt
      obtain ⟨as, h4⟩ := Dp.readsAll I ds _ its ha rv
      have hmap : its.map (SeqAt.readOf s.heap) = ds := SeqAt.readsAll_map ds its as hxs h4
      refine call_meets PySem.F.slot_list_count ⟨_, ho, rfl⟩ PySem.F.entry_list_count (PySem.F.args_list_count_2 _ _)
        (SeqAt.list_countAt a its.toArray n dd sls uy (fun u => PyData.eqv (SeqAt.readOf s.heap u) d)) ⟨ho, SeqAt.items_eqAt (vs := its.toArray) (show ReadsAll s.heap its.toArray.toList ds as from h4) r1 hxs (SeqAt.canLay_of_shaped sd) hroom, ?_⟩
      have ec : its.toArray.toList.countP (fun u => PyData.eqv (SeqAt.readOf s.heap u) d) = ds.countP (fun z => PyData.eqv z d) := by
        rw [← hmap, List.countP_map]
        rfl
      refine ⟨.int (ds.countP (fun z => PyData.eqv z d) : Nat), H, I.tok _, ⟨s.toks, ?_⟩, q⟩
      show Value.int ((its.toArray.toList.countP (fun u => PyData.eqv (SeqAt.readOf s.heap u) d) : Nat) : Int) s.toks = Value.int ((ds.countP (fun z => PyData.eqv z d) : Nat) : Int) s.toks
      rw [ec]
def mCount : DMt := fun a as h => match lstAt h a, as with
  | some (_, xs), [y] => (match toD DD h y, xs.mapM (toD DD h) with
    | some d, some ds => if SeqAt.shaped (.list ds) = true ∧ SeqAt.shaped d = true then some (.int (ds.countP (fun z => PyData.eqv z d) : Nat), h) else none
    | _, _ => none)
  | _, _ => none
theorem meCount (hK : X.K = W.K) (hu : X.A.units + 65 < cLine) : MtR X "list.count" (tm W mCount) := mt_imp (mt_countD hu) fun x xs H Q ⟨io, hp, a, as, rl, ra, ras, P⟩ => by
  unfold mCount at P
  cases z : lstAt hp a with
  | none =>
    rw [z] at P
    exact P.elim
  | some q =>
    obtain ⟨n, ys⟩ := q
    rw [z] at P
    obtain ⟨p, vs, rfl, hi, hu, rv⟩ := lstAt_in z rl ra
    match as, ras, P with
    | [], .nil, P => exact P.elim
    | _ :: _ :: _, _, P => exact P.elim
    | [c], ras, P =>
      obtain ⟨y, rfl, rb⟩ := one_inv ras
      dsimp only at P
      cases z1 : toD DD hp c with
      | none =>
        rw [z1] at P
        exact P.elim
      | some d =>
        cases z2 : ys.mapM (toD DD hp) with
        | none =>
          rw [z1, z2] at P
          exact P.elim
        | some ds =>
          rw [z1, z2] at P
          dsimp only at P
          by_cases h : SeqAt.shaped (.list ds) = true ∧ SeqAt.shaped d = true
          · rw [if_pos h] at P
            rw [hK]
            exact ⟨p, y, d, ds, rfl, rfl, .lst (SqL.of hu) (toD_list DD (toD_in rl DD) ys vs ds z2 rv), toD_in rl DD c y d z1 rb, h.1, h.2, P.ok rl (.int _)⟩
          · rw [if_neg h] at P
            exact P.elim
end
end Dn
namespace Dn
open PySem PySem.Spec PyProof.Rows L2
def txtOf : AV → Option Str
  | .str x => if x.length ≤ SZ then some x else none
  | .int i => if i.natAbs.log2 < 1920 then some (toString i : String) else none
  | .non => some "None"
  | _ => none
def strL : DL := fun as h => match as with
  | [.str x] => if x.length ≤ SZ then some (.str x, h) else none
  | [.int i] => if i.natAbs.log2 < 1920 then some (.str (toString i : String), h) else none
  | [.non] => some (.str "None", h)
  | _ => none
def fmtAV : D1 := fun a h => (txtOf a).map fun x => (.str x, h)
section
variable {W : Wd} {M : Md W} {E : WX} {X : Cx}
theorem call_str_none : CallR X (.type "str") (fun xs H Q => xs = [.non] ∧ Q (.str "None") H) := by
  intro pins s σ H xs us Q I r h
  obtain ⟨rfl, q⟩ := h
  obtain ⟨u, rfl, r1⟩ := vals1 r
  cases r1
  exact PySem.P.str_of_none ⟨.str "None", H, I.tok _, ⟨_, rfl⟩, q⟩
theorem cStr : CallR X (.type "str") (tl W strL) := call_imp (call_or (call_or call_str_int SkE.call_str_str) call_str_none) fun xs H Q ⟨io, hp, as, rl, ra, P⟩ => by
  match as, ra, P with
  | [.int i], ra, P =>
    obtain ⟨x, rfl, r⟩ := one_inv ra
    obtain rfl := r.int_inv
    have P' : Pop W (RV W) Q io H (if i.natAbs.log2 < 1920 then some (AV.str (toString i : String), hp) else none) := P
    by_cases h : i.natAbs.log2 < 1920
    · rw [if_pos h] at P'
      exact .inl (.inl ⟨i, rfl, h, P'.ok rl (.str _)⟩)
    · rw [if_neg h] at P'
      exact P'.elim
  | [.str i], ra, P =>
    obtain ⟨x, rfl, r⟩ := one_inv ra
    obtain rfl := r.str_inv
    have P' : Pop W (RV W) Q io H (if i.length ≤ SZ then some (AV.str i, hp) else none) := P
    by_cases h : i.length ≤ SZ
    · rw [if_pos h] at P'
      exact .inl (.inr ⟨i, rfl, P'.ok rl (.str _)⟩)
    · rw [if_neg h] at P'
      exact P'.elim
  | [.non], ra, P =>
    obtain ⟨x, rfl, r⟩ := one_inv ra
    cases r
    exact .inr ⟨rfl, P.ok rl (.str _)⟩
/-- a part of an f-string -/
def dFmt (f : DE) : DE := dUn fmtAV f
theorem pe_fmt3 {e : Expr} {te : TE} {pos : Pos} (he : PE X e te) : PE X (.FormattedValue e (-1) none pos) (fun σ H Q => te σ H fun x H1 => t1 W fmtAV x H1 Q) := by
  refine ⟨fun pins s σ H Q I h => ?_⟩
  refine wpAny_FormattedValue_plain (thn (he.run pins s σ H _ I h) fun v s1 hv => ?_)
  obtain ⟨x, H1, I1, r1, io, hp, a, rl, ra, P⟩ := hv
  cases a with
  | str y =>
    obtain rfl := ra.str_inv
    have P' : Pop W (RV W) Q io H1 ((if y.length ≤ SZ then some y else none).map fun x => (AV.str x, hp)) := P
    by_cases h : y.length ≤ SZ
    · rw [if_pos h] at P'
      obtain ⟨t, rfl⟩ := r1
      have q := P'.ok rl (.str _)
      exact wpAny_formatField_str ⟨.str y, H1, I1, ⟨t, rfl⟩, q⟩ ⟨.str y, H1, I1.tok _, ⟨_, rfl⟩, q⟩ (szL h)
    · rw [if_neg h] at P'
      exact P'.elim
  | int i =>
    obtain rfl := ra.int_inv
    have P' : Pop W (RV W) Q io H1 ((if i.natAbs.log2 < 1920 then some (Str.ofString (toString i : String)) else none).map fun x => (AV.str x, hp)) := P
    by_cases h : i.natAbs.log2 < 1920
    · rw [if_pos h] at P'
      obtain ⟨t, rfl⟩ := r1
      exact wpAny_formatField_int h ⟨.str (toString i), H1, I1.tok _, ⟨_, rfl⟩, P'.ok rl (.str _)⟩
    · rw [if_neg h] at P'
      exact P'.elim
  | non =>
    cases ra
    cases r1
    have P' : Pop W (RV W) Q io H1 (some (AV.str "None", hp)) := P
    exact wpAny_formatField_none ⟨.str "None", H1, (I1.tok _).tok _, ⟨_, rfl⟩, P'.ok rl (.str _)⟩
  | _ => exact P.elim
theorem fmtD {e : Expr} {f : DE} {pos : Pos} (he : PE X e (tD W M E f)) : PE X (.FormattedValue e (-1) none pos) (tD W M E (dFmt f)) := peI (pe_fmt3 he) fun _ _ _ h => un_in h
def jsR : List DE → Str → DE
  | [], acc => fun _ h => .ok (.str acc) h
  | f :: fs, acc => fun s h => (f s h).bind fun a h1 => match a with
    | .str y => if (acc ++ y).length ≤ SZ then jsR fs (acc ++ y) s h1 else .stuck
    | _ => .stuck
theorem js_in : ∀ (fs : List DE) (acc : Str) {σ : L2.St} {H : Hp} {Q : VK}, tD W M E (jsR fs acc) σ H Q → tJs (fs.map (tD W M E)) acc σ H fun out H1 => Q (.str out) H1
  | [], acc, σ, H, Q, ⟨io, hp, as, rl, S, P⟩ => Pst.ok P rl (.str _)
  | f :: fs, acc, σ, H, Q, ⟨io, hp, as, rl, S, P⟩ => (step (rh := RV W) (f := f) rl S P).imp fun x H1 ⟨io2, hp2, a, e2, rl2, ra, P2⟩ => by
    cases a with
    | str y =>
      obtain rfl := ra.str_inv
      dsimp only at P2
      by_cases h : (acc ++ y).length ≤ SZ
      · rw [if_pos h] at P2
        exact ⟨y, rfl, szL h, js_in fs (acc ++ y) ⟨io2, hp2, as, rl2, M.mono e2 S, P2⟩⟩
      · rw [if_neg h] at P2
        exact P2.elim
    | _ => exact P2.elim
theorem jsD {v1 v2 : Expr} {rest : List Expr} {fs : List DE} {pos : Pos} (h : PJ X (v1 :: v2 :: rest) (fs.map (tD W M E))) : PE X (.JoinedStr (v1 :: v2 :: rest) pos) (tD W M E (jsR fs Str.empty)) := peI (pe_joined h) fun _ _ _ h => js_in fs _ h
theorem js0 : PJ X [] (List.map (tD W M E) []) := .nil
theorem jsC {e : Expr} {f : DE} {es : List Expr} {fs : List DE} (he : PE X e (tD W M E f)) (h : PJ X es (fs.map (tD W M E))) : PJ X (e :: es) ((f :: fs).map (tD W M E)) := .cons he h
end
def strK (v : AV) (h : Hep) : R AV := match v with
  | .str x => .ok (.str x) h
  | _ => .stuck
def reprOK (t : Nat) (F : DF) (as : List AV) (h : Hep) : R AV := match as with
  | [o] => if isT h t o = true then (F [o] h).bind strK else .stuck
  | _ => .stuck
def dReprO (t : Nat) (F : DF) (fa : DA) : DE := fun s h => (fa s h).bind fun as h1 => reprOK t F as h1
section
variable {W : Wd} {M : Md W} {E : WX} {X : Cx} {k j n t : Nat} {ps : List Str} {F : DF} {x : Str} {p pos apos : Pos} {e e' o : Expr} {f g fo : DE}
theorem reprOD {es : List Expr} {fa : DA} (H : HasO X.prog X.w X.mg X.base W j t "__repr__" ps 1 F) (hr : Room k X.A) (hj : j + 1 ≤ k) (hK : X.K = W.K) (tk : Takes X E) (hm : X.mg "repr" = none) (ho : PA X (o :: es) (tDA W M E fa)) (hg : Gl X "repr" := by rfl)
    (he : starEach (o :: es) X.env = (false, eval o X.env) :: starEach es X.env := by rfl) (hpl : (backTo pos (starEach es X.env)).any (·.1) = false := by rfl) : PE X (.Call (.Name "repr" p) (o :: es) [] pos) (tD W M E (dReprO t F fa)) := by
  obtain ⟨a, fd, hm', hfi, hF, hb⟩ := H
  rw [← hK] at hm' hF
  refine ⟨fun pins s σ H Q I h => ?_⟩
  obtain ⟨io, hp, as, rl, S, P⟩ := h
  refine wpAny_Call_Name_kw (ld_blt I hg hm bt_repr ?_ (by decide) (by decide))
  refine PyProof.Rows.callWith_builtin1 (thn (ho.run pos pins s σ H _ I (step (rh := RVs W) (f := fa) rl S P)) fun us s1 ⟨xv, H1, I1, rx, io1, hp1, a1, e1, rl1, ra1, P1⟩ => ?_) he hpl
  match a1, ra1, P1 with
  | [], .nil, P1 => exact P1.elim
  | _ :: _ :: _, .cons _ (.cons _ _), P1 => exact P1.elim
  | [a1], .cons (v := xv) ra1 .nil, P1 =>
  obtain ⟨u, rfl, rx2⟩ : ∃ u, us = [u] ∧ L2.RelV xv u := by
    cases rx with
    | cons r t =>
      cases t
      exact ⟨_, rfl, r⟩
  have P1' : Pst W (RV W) E σ Q io1 H1 (if isT hp1 t a1 = true then (F [a1] hp1).bind strK else .stuck) := P1
  by_cases ht : isT hp1 t a1 = true
  · rw [if_pos ht] at P1'
    obtain ⟨q, dx, vs, rfl, ea, hk⟩ := isT_in ht rl1 ra1
    obtain rfl : u = Value.ref q := rx2
    obtain ⟨od, J⟩ := inst_of I1 ea
    obtain ⟨mm, fr⟩ := I1.fr
    refine PySem.W.repr_K (ru1 hr) fr I1.ok.mod.kin J hm'.at_ hm'.fn ?_
    refine wpAny_mono (run_sp hF (hr.mono hj).in1 I1.env0.in1 hb hK tk I1 (vs := [.ref q]) (.cons rfl .nil) rl1 (.cons ra1 .nil) rfl rfl (P1'.imp (rh' := RV W) (Q' := fun y H2 => ∃ i, y = .str i ∧ Q (.str i) H2) fun io2 H2 b hp2 y e2 rl2 rb P2 => ?_)) (fun v s2 ⟨y, H2, I2, ry, i, ei, q2⟩ => ?_) fun _ _ z => z
    · cases b with
      | str i =>
        have P3 : Pst W (RV W) E σ Q io2 H2 (.ok (.str i) hp2) := P2
        exact ⟨i, rb.str_inv, Pst.ok P3 rl2 (.str i)⟩
      | _ => exact P2.elim
    · subst ei
      obtain ⟨tk', rfl⟩ := (show ∃ t, v = Value.str i t from ry)
      exact ⟨.str i, H2, I2, ⟨_, rfl⟩, q2⟩
  · rw [if_neg ht] at P1'
    exact P1'.elim
end
end Dn
namespace Dn
open PySem PySem.Spec PyProof.Rows L2
section
variable {prog : Program} {w : World} {A : Around} {E : Value → Shared → Prop} {s : Shared}
end
section
variable {X : Cx}
end
section
variable {W : Wd} {M : Md W} {E : WX} {X : Cx} {k : Nat}
end
end Dn
namespace PySem
namespace DX
open PySem.W PySem.Calls PyProof.Rows
theorem newF_ValueError : NewF "ValueError" "ValueError.__new__" [.type "ValueError", .type "Exception", .type "BaseException", .type "object"] := NewF.of PySem.F.excBase_ValueError
theorem newF_IndexError : NewF "IndexError" "IndexError.__new__" [.type "IndexError", .type "LookupError", .type "Exception", .type "BaseException", .type "object"] := NewF.of PySem.F.excBase_IndexError
theorem newF_LookupError : NewF "LookupError" "LookupError.__new__" [.type "LookupError", .type "Exception", .type "BaseException", .type "object"] := NewF.of PySem.F.excBase_LookupError
section
variable {md : Model} {ar : Around} {ex : Value → Shared → Prop} {hp : Heap} {gs : Array GenState} {dr : Drawn} {tc : Nat} {ops : OsState}
variable {cn qn : Str} {C N : Addr} {bs bm bmB : List Value} {hd : Bool} {sl : List Str} {sb : List Value} {ab : Bool} {col : Option Bool} {dd : Option Addr} {k0 k1 k2 k3 k5 : Option Value} {O nid : String}
/-- the check of the call of `__new__` -/
theorem newOk (F : NewF O nid bmB) (same : ∀ X : String, bm.contains (.type X) = bmB.contains (.type X)) {more : List Value} {Q : Unit → Shared → Prop} (cAt : ClsAt hp cn qn C N bs bm hd sl sb ab col dd k0 k1 k2 k3 k5 nid) (z : Q () ⟨hp, gs, dr, tc, ops⟩) :
    wpAny md ar (checkBuiltinCall nid ⟨.ref C :: more, []⟩) Q ex ⟨hp, gs, dr, tc, ops⟩ := by
  have isO : (Value.ref C :: bm).contains (.type O) = true := (List.contains_cons ..).trans ((congrArg (_ || ·) ((same O).trans F.has)).trans (Bool.or_true _))
  have st := F.sta
  simp only [checkBuiltinCall, F.spl, F.knd, F.sig]
  repeat
    first
      | refine wpAny_loadPart_at cAt ?_
      | (refine wpAny_isSubtype_exc cAt ?_
         rw [isO])
      | refine wpAny_staticBase_exc cAt ?_
      | refine wpAny_madeBy_exc cAt ?_
      | simp only [bne_self_eq_false, if_false, Bool.false_eq_true]
      | wp_step
  exact z
end
section
variable {prog : Program} {w : World} {ar : Around} {ex : Value → Shared → Prop} {R : Result → Shared → Prop} {hp : Heap} {gs : Array GenState} {dr : Drawn} {tc : Nat} {ops : OsState}
variable {cn qn : Str} {C N : Addr} {bs bm bmB : List Value} {hd : Bool} {sl : List Str} {sb : List Value} {ab : Bool} {col : Option Bool} {dd : Option Addr} {k0 k1 k2 k3 k5 : Option Value} {O nid : String}
/-- `__new__` itself -/
theorem newRun (F : NewF O nid bmB) (same : ∀ X : String, bm.contains (.type X) = bmB.contains (.type X)) {more : List Value} (cAt : ClsAt hp cn qn C N bs bm hd sl sb ab col dd k0 k1 k2 k3 k5 nid)
    (z : R (.ok (.ret (.ref (hp.objs.size + 1)))) ⟨(hp.push (W.kdv_tup more)).push (HandSPX.excO C hp.objs.size), gs, dr, tc, ops⟩) (few : more.length ≤ sizeLine) :
    codeAny (model prog w) ar (.builtin nid ⟨.ref C :: more, []⟩) R ⟨hp, gs, dr, tc, ops⟩ := by
  have en := F.fin
  have isO : (Value.ref C :: bm).contains (.type O) = true := (List.contains_cons ..).trans ((congrArg (_ || ·) ((same O).trans F.has)).trans (Bool.or_true _))
  have noA : (Value.ref C :: bm).contains (.type "AttributeError") = false := (List.contains_cons ..).trans ((congrArg (_ || ·) ((same _).trans F.nat)).trans rfl)
  have noN : (Value.ref C :: bm).contains (.type "NameError") = false := (List.contains_cons ..).trans ((congrArg (_ || ·) ((same _).trans F.nnm)).trans rfl)
  refine codeAny_builtinAt F.ent ?_
  unfold Builtin.«BaseException.__new__»
  refine wpAt_bind (?_ : wpAt _ _ _ (stack >>= _) _ _ _)
  refine wpAt_bind (wpAt_stack fun _ _ => wpAt_of_wpAny ?_)
  wp_walk
  refine wpAt_of_wpAny ?_
  rw [F.own]
  repeat
    first
      | with_reducible refine wpAny_madeHere_exc F.can cAt ?_
      | with_reducible refine wpAny_loadPart_at cAt ?_
      | (with_reducible refine wpAny_isSubtype_exc cAt ?_
         first | rw [isO] | rw [noA] | rw [noN])
      | wp_step
  refine (?_ : R _ _)
  rw [Heap.size_push]
  exact z
/-- type.__call__ -/
theorem typeRun (F : NewF O nid bmB) (same : ∀ X : String, bm.contains (.type X) = bmB.contains (.type X)) {more : List Value} {fI : Addr} {Q : Fin → Shared → Prop} (cAt : ClsAt hp cn qn C N bs bm hd sl sb ab col dd k0 k1 k2 k3 k5 nid)
    (li : W.Looks (model prog w) hp (typeLookup (.ref C) "__init__") (some (.ref fI))) (lb : ∀ me, W.Looks (model prog w) hp (bindSpecial (.ref fI) me) (.ref fI, [me])) (few : more.length ≤ sizeLine)
    (z : codeAny (model prog w) ar (.call (.ref fI) ⟨.ref (hp.objs.size + 1) :: more, []⟩)
      (fun r s' => match r with | .ok (.ret v) => v = .none ∧ Q (.done (.ret (.ref (hp.objs.size + 1)))) s' | .ok _ => False | .error e => ex e s') ⟨(hp.push (W.kdv_tup more)).push (HandSPX.excO C hp.objs.size), gs, dr, tc, ops⟩) :
    wpAny (model prog w) ar (Builtin.«type.__call__» ⟨.ref C :: more, []⟩) Q ex ⟨hp, gs, dr, tc, ops⟩ := by
  repeat
    first
      | with_reducible refine wpAny_loadPart_at cAt ?_
      | with_reducible refine wpAny_madeBy_exc cAt ?_
      | wp_step
  refine codeAny_call_builtin_code (Code.quiet_builtin _ F.qui) (newOk F same cAt (newRun F same cAt (?_ : wpAny _ _ _ _ _ _) few))
  have kp : ∀ b o, hp.get? b = some o → ((hp.push (W.kdv_tup more)).push (HandSPX.excO C hp.objs.size)).get? b = some o := fun b o q => Heap.get?_push_of_some _ (Heap.get?_push_of_some _ q)
  have at1 := kp _ _ cAt
  have at2 : ((hp.push (W.kdv_tup more)).push (HandSPX.excO C hp.objs.size)).get? (hp.objs.size + 1) = some (HandSPX.excO C hp.objs.size) := by heap_get
  have self : (Value.ref C :: bm).contains (.ref C) = true := by simp
  have l1 := li.keeps kp
  have l2 := (lb (.ref (hp.objs.size + 1))).keeps kp
  unfold isInstance
  repeat
    first
      | with_reducible refine wpAny_loadPart_at at2 ?_
      | (with_reducible refine wpAny_isSubtype_exc at1 ?_
         rw [self])
      | wp_step
  refine (?_ : wpAny _ _ (typeLookup (.ref C) _) _ _ _)
  refine l1.at (wpAny_holding (wpAny_bind (l2.at (wpAny_bind (wpAny_call (codeAny_mono z fun r s' y => ?_))))))
  cases r with
  | error er => exact y
  | ok fl =>
    cases fl with
    | ret u =>
      obtain ⟨e0, y2⟩ := (show u = .none ∧ Q (.done (.ret (.ref (hp.objs.size + 1)))) s' from y)
      subst e0
      first
        | exact wpAny_pure (wpAny_pure y2)
        | (wp_walk
           exact y2)
    | _ => exact (show False from y).elim
/-- C(..) -/
theorem makeRun (F : NewF O nid bmB) (same : ∀ X : String, bm.contains (.type X) = bmB.contains (.type X)) {more : List Value} {fI : Addr} (cAt : ClsAt hp cn qn C N bs bm hd sl sb ab col dd k0 k1 k2 k3 k5 nid)
    (li : W.Looks (model prog w) hp (typeLookup (.ref C) "__init__") (some (.ref fI))) (lb : ∀ me, W.Looks (model prog w) hp (bindSpecial (.ref fI) me) (.ref fI, [me])) (few : more.length ≤ sizeLine)
    (z : codeAny (model prog w) (ar.under (.builtin "type.__call__" ⟨.ref C :: more, []⟩)) (.call (.ref fI) ⟨.ref (hp.objs.size + 1) :: more, []⟩) (W.InitBack (hp.objs.size + 1) R) ⟨(hp.push (W.kdv_tup more)).push (HandSPX.excO C hp.objs.size), gs, dr, tc, ops⟩) :
    codeAny (model prog w) ar (.call (.ref C) ⟨more, []⟩) R ⟨hp, gs, dr, tc, ops⟩ := by
  have t1 := tc_lookup
  have t2 := tc_bind (.ref C)
  have ty : (⟨hp, gs, dr, tc, ops⟩ : Shared).TypeIs (.ref C) "type" := ⟨_, cAt, rfl⟩
  refine codeAny_of_tree (?_ : wpAny _ _ (callAny (.ref C) _) _ _ _)
  repeat
    any_goals
      first
        | assumption
        | with_reducible refine wpAny_loadPart_at cAt ?_
        | wp_step
  refine ⟨rfl, codeAny_call_builtin_at (Code.quiet_builtin _ (by decide +kernel)) entry_typeCall (wpAny_check_type_call_sub cAt (typeRun F same cAt li lb few (codeAny_mono z fun r s' y => ?_)))⟩
  rcases r with e | (v | _ | _ | _) <;> exact y
end
section
variable {prog : Program} {w : World} {A : Around} {R : Result → Shared → Prop} {g : Array GenState} {d : Drawn} {tt : Nat} {os : OsState}
/-- the first field of a new exception, over any built-in base -/
theorem first_field {K : Frag} {G : Heap} {nm : Str} {tk : Tok} {u : Value} {e C t1 : Addr} {B : String} {bmB : List Value} (SF : StoreFacts B bmB "object.__setattr__" "object") (kin : K.In G) (he : G.get? e = some (excObj C t1 none .none))
    (h1 : excOver K C bmB = true) (h2 : takerIn K C nm = some none) (h3 : hasDictIn K C = true)
    (fin : ∀ G' tk' dx, (∀ b o, b ≠ e → G.get? b = some o → G'.get? b = some o) → G.objs.size ≤ dx → dx ≠ e → G'.get? e = some (excObj C t1 (some dx) .none) → G'.Ns1 dx (fun y => if y = nm then some u else none) → R (.ok (.ret .none)) ⟨G', g, d, tk', os⟩) :
    codeAny (model prog w) A (.call (.builtin "object.__setattr__") ⟨[.ref e, .str nm tk, u], []⟩) R ⟨G, g, d, tt, os⟩ := by
  have ne : e ≠ G.objs.size := Nat.ne_of_lt (Heap.lt_size he)
  refine osa_openX (od := none) SF kin ⟨he, rfl, rfl, trivial⟩ h1 h2 fun b => ?_
  obtain ⟨cd, c1, c2⟩ := any_some h3
  refine wpAny_bind (wpAny_pure (wpAny_bind (instanceDict_exc he (looks_clsIn kin c1) c2 ?_)))
  refine HandSPX.store_in_new ⟨_, #[], _, (Heap.get?_update_ne _ _ _ _ ne.symm).trans (Heap.get?_push_at rfl rfl), rfl, fun x hx => absurd hx (by simp), fun _ => rfl⟩ fun G' tk' ns same => ?_
  have he' : (G.push (dictOf [] 0)).get? e = some (excObj C t1 none .none) := Heap.get?_push_of_some _ he
  have z1 : ((G.push (dictOf [] 0)).update e fun o => { o with dict := some G.objs.size }).get? e = some (excObj C t1 (some G.objs.size) .none) := Heap.get?_update_self _ he' rfl
  refine fin G' tk' G.objs.size (fun b o hb hbo => ?_) (Nat.le_refl _) ne.symm ((same.2 e ne).trans z1) ns
  have z2 := Heap.get?_push_of_some (dictOf [] 0) hbo
  exact (same.2 b (Nat.ne_of_lt (Heap.lt_size hbo))).trans ((Heap.get?_update_ne _ _ _ _ hb).trans z2)
end
end DX
end PySem

namespace Dn
open PySem PySem.Spec PyProof.Rows L2

section
variable {X : Cx} {pins : List (Addr × Obj)} {σ : L2.St} {H : Hp} {s : Shared} {e C : Addr} {nm : Str} {y : V} {u : Value} {Q : Unit → Shared → Prop} {E : Value → Shared → Prop} {A : Around} {B newId initId : String} {bmB : List Value}
theorem xi_store (SF : StoreFacts B bmB "object.__setattr__" "object") (T : Xi X.K C bmB newId nm) (I : Inv X pins σ H s) (he : H e = some (exo e C none)) (ry : RelV y u)
    (fin : ∀ dx s', H dx = none → dx ≠ e → Inv X pins σ (upd (upd H dx (exd dx [(nm, y)])) e (exo e C (some dx))) s' → Q () s') : wpAny (model X.prog X.w) A (setAttr (.ref e) nm u) Q E s := by
  obtain ⟨t1, z⟩ := exo_at I.hok he
  obtain ⟨G, gs, dr, tk, os⟩ := s
  refine PySem.W.set_plain I.kIn (ox := PySem.W.excObj C t1 none .none) (od := none) ⟨z, rfl, rfl, trivial⟩ T.sat ?_
  refine PySem.DX.first_field SF I.kIn z T.ovr T.tkr T.dct fun G' tk' dx kp big ndx ze ns => ?_
  have fresh : H dx = none := I.hok.fresh big
  have far : ∀ {b : Addr} {o : Obj}, G.get? b = some o → b ≠ dx := fun q => Nat.ne_of_lt (Nat.lt_of_lt_of_le (Heap.lt_size q) big)
  have off : ∀ {b : Addr}, H b = none → b ≠ e := fun n q => by
    subst q
    rw [he] at n
    cases n
  have U : Un X.fs [] H (upd (upd H dx (exd dx [(nm, y)])) e (exo e C (some dx))) G G' := by
    refine ⟨fun b o q n _ _ => kp b o (off n) q, fun b o q n _ _ => ⟨o.slots, kp b o (off n) q⟩, fun b o q n _ => ?_, fun b o q _ => ?_, fun b xs q => ?_, fun b o v q => ?_, fun b ps q => ?_⟩
    · rw [upd_ne (off n), upd_ne (far q)]
      exact n
    · by_cases hb : b = e
      · subst hb
        exact ⟨_, ze⟩
      · exact ⟨o, kp b o hb q⟩
    · rw [upd_ne (at_ne he q exo_tup), upd_ne (ne_of_none q fresh)]
      exact q
    · rw [upd_ne (at_ne he q exo_frz), upd_ne (ne_of_none q fresh)]
      exact q
    · refine ⟨#[], ?_⟩
      rw [upd_ne (at_ne he q exo_tbl), upd_ne (ne_of_none q fresh), q]
      simp
  refine fin dx _ fresh ndx (I.un (t' := tk') U fun b o q => ?_)
  by_cases hb : b = e
  · subst hb
    rw [upd_same] at q
    cases q
    exact exo_ok ze
  by_cases hd : b = dx
  · subst hd
    rw [upd_ne hb, upd_same] at q
    cases q
    exact exd_ok ns (relO_put (fs := []) ry fun _ => True.intro)
  rw [upd_ne hb, upd_ne hd] at q
  refine (I.hok b o q).stay (fun c v hc z => kp c v ?_ z) (fun c hc => ?_) (fun c xs hc => ?_)
  · rcases hc with hc | hc
    · rw [hc]
      exact hb
    · exact at_ne he hc exo_own
  · rw [upd_ne (at_ne he hc exo_own), upd_ne (ne_of_none hc fresh)]
    exact hc
  · rw [upd_ne (at_ne he hc exo_tup), upd_ne (ne_of_none hc fresh)]
    exact hc
/-- self.f = e, in such an __init__ -/
def tXiS (K : PySem.W.Frag) (bmB : List Value) (newId : String) (nm : Str) (to te : TE) : TS := fun D σ H => te σ H fun y H1 => to σ H1 fun x H2 => ∃ e C : Addr, x = .ref e ∧ Xi K C bmB newId nm ∧ H2 e = some (exo e C none) ∧
  ∀ dx, H2 dx = none → dx ≠ e → D.nx σ (upd (upd H2 dx (exd dx [(nm, y)])) e (exo e C (some dx)))
theorem ps_xiS {o v : Expr} {to te : TE} {p pos : Pos} (SF : StoreFacts B bmB "object.__setattr__" "object") (ho : PE X o to) (hv : PE X v te) (hs : swapsWith v (some (.Attribute o nm p)) pos.line X.env = pure false := by rfl) :
    PS X (.Assign [.Attribute o nm p] v pos) (tXiS X.K bmB newId nm to te) := ⟨fun pins s σ H D I h => by
  refine plainObj_wpAny_Assign_Attribute (thn (hv.run pins s σ H _ I h) fun v1 s1 h1 => ?_) hs
  obtain ⟨y, H1, I1, r1, q1⟩ := h1
  refine thn (ho.run pins s1 σ H1 _ I1 q1) fun v2 s2 h2 => ?_
  obtain ⟨x, H2, I2, r2, e, C, rfl, T, he, q⟩ := h2
  cases (show v2 = Value.ref e from r2)
  exact xi_store SF T I2 he r1 fun dx s' f n J => ⟨σ, _, J, q dx f n⟩⟩
/-- the promise of such an __init__ -/
def spXi (K : PySem.W.Frag) (bmB : List Value) (newId : String) (nm : Str) : Sp := fun vs H Q _ => ∃ (e C : Addr) (y : V), vs = [.ref e, y] ∧ Xi K C bmB newId nm ∧ H e = some (exo e C none) ∧ ∀ dx, H dx = none → dx ≠ e → Q .non (upd (upd H dx (exd dx [(nm, y)])) e (exo e C (some dx)))
end
/-- def __init__(self, x): self.nm = x -/
theorem xi_init {P : Program} {w : World} {mg : Str → Option Value} {base : Heap} {K : PySem.W.Frag} {q x0 x1 nm : Str} {f : Addr} {fd : FuncData} {params : Arguments} {scope : Scope} {bmB : List Value} {newId B : String} {p1 p2 p3 pos : Pos} {dvs : List V} {kws : List (Str × V)} {fn : Str}
    (SF : StoreFacts B bmB "object.__setattr__" "object") (F : FunD K fn q params [.Assign [.Attribute (.Name x0 p1) nm p2] (.Name x1 p3) pos] scope dvs kws f fd) (S : FnScope [x0, x1] [x0, x1] scope)
    (hb : ∀ (cdv : Value) (A : Around) (outer : List Env) (s : Shared) (H : Hp) (E : XK), PS (cxOf (L2.CX P w) P w K mg base [x0, x1] q scope f cdv A outer s H E) (.Assign [.Attribute (.Name x0 p1) nm p2] (.Name x1 p3) pos) (tXiS K bmB newId nm (tVar 0) (tVar 1))) :
    FnOk P w K mg base (L2.CX P w) 1 f fd [x0, x1] (spXi K bmB newId nm) := by
  refine F.ok (k := 0) S (fun vs H Q E h => ?_) fun cdv A outer s H vs Q E hr h => ⟨_, pss_one (hb cdv A outer s H E), ?_⟩
  · obtain ⟨e, C, y, rfl, _⟩ := h
    rfl
  · obtain ⟨e, C, y, rfl, T, he, q⟩ := h
    exact ⟨y, rfl, .ref e, rfl, e, C, rfl, T, he, q⟩
section
variable {X : Cx} {E : WX} {C : Addr} {nm : Str} {B newId initId : String} {bmB : List Value} {x : Str} {p pos : Pos} {e : Expr}
/-- C(e) with such an __init__ -/
def tXiM (C : Addr) (nm : Str) (ta : TA) : L2.St → Hp → XK → Prop := fun σ H Q => ta σ H fun vs H1 => ∃ y, vs = [y] ∧ ∀ dx, H1 dx = none → Q (.ref C) (some dx) (upd H1 dx (.xd [(nm, y)]))
theorem pmk_xi {ta : TA} {k : Nat} {fI : Addr} {fd : FuncData} {ps : List Str} (FB : PySem.DX.NewF B newId bmB) (T : Xi X.K C bmB newId nm) (iC : PySem.W.findIn X.K (.ref C) "__init__" = some (some (.ref fI))) (tI : PySem.W.typeIn X.K (.ref fI) = some (.type "function"))
    (F : FnOk X.prog X.w X.K X.mg X.base (L2.CX X.prog X.w) k fI fd ps (spXi X.K bmB newId nm)) (hr : Room (k + 1) X.A) (hb : Binds X.K fd ps []) (tk : Takes X E)
    (hm : X.mg x = some (.ref C)) (ha : PA X [e] ta) (hg : Gl X x := by rfl) (hdb : (x == ("__debug__" : Str)) = false := by decide) (hse : starEach [e] X.env = (false, eval e X.env) :: starEach [] X.env := by rfl) (hpl : (backTo pos (starEach [] X.env)).any (·.1) = false := by rfl) :
    PMk X (.Call (.Name x p) [e] [] pos) (tXiM C nm ta) := fun pins s σ H Q I h => by
  refine wpAny_Call_Name_kw (ld_glob I hg hm ?_ hdb)
  refine PySem.W.callWith_K (h₀ := X.base) I.ok.mod.kin T.kep (thn (ha.run pos pins s σ H _ I h) fun us s1 q0 => ?_) hse hpl
  obtain ⟨vs, H1, I1, r1, y, rfl, fin⟩ := q0
  refine ⟨I1.kIn, ?_⟩
  cases r1 with
  | @cons _ u0 _ ur ru rn =>
    cases rn
    show wpAny _ _ (call (.ref C) [u0]) _ _ _
    obtain ⟨G, gs, dr, tk0, os⟩ := s1
    obtain ⟨nm', N', qn, bs, bm, hdct, sn, sub, ab, col, dd, k0, k1, k2, k3, k5, hC, hT⟩ := PySem.W.excInit_of (I1.kIn) T.ini
    have big : G.objs.size ≤ G.objs.size + 1 := Nat.le_succ _
    have fresh : H1 (G.objs.size + 1) = none := I1.hok.fresh big
    have kp : ∀ b o, G.get? b = some o → ((G.push (PySem.W.kdv_tup [u0])).push (PySem.HandSPX.excO C G.objs.size)).get? b = some o := fun b o z => Heap.get?_push_of_some _ (Heap.get?_push_of_some _ z)
    have at2 : ((G.push (PySem.W.kdv_tup [u0])).push (PySem.HandSPX.excO C G.objs.size)).get? (G.objs.size + 1) = some (PySem.HandSPX.excO C G.objs.size) := by heap_get
    have I2 : Inv X pins σ (upd H1 (G.objs.size + 1) (exo (G.objs.size + 1) C none)) ⟨(G.push (PySem.W.kdv_tup [u0])).push (PySem.HandSPX.excO C G.objs.size), gs, dr, tk0, os⟩ := I1.laid (t' := tk0) kp big (exo_ok at2)
    have one : ([u0] : List Value).length ≤ sizeLine := by
      show 1 ≤ sizeLine
      rw [sizeLine_eq]
      decide
    have pr : spXi X.K bmB newId nm [V.ref (G.objs.size + 1), y] (upd H1 (G.objs.size + 1) (exo (G.objs.size + 1) C none)) (fun v H2 => v = .non ∧ ∃ dx, H1 dx = none ∧ dx ≠ G.objs.size + 1 ∧ H2 = upd (upd (upd H1 (G.objs.size + 1) (exo (G.objs.size + 1) C none)) dx (exd dx [(nm, y)])) (G.objs.size + 1) (exo (G.objs.size + 1) C (some dx))) (fun _ _ _ => False) :=
      ⟨_, C, y, rfl, T, upd_same, fun dx f n => ⟨rfl, dx, by rw [upd_ne n] at f; exact f, n, rfl⟩⟩
    have lps : ps.length = 2 := (F.len _ _ _ _ pr).symm
    have b2 := hb ⟨(G.push (PySem.W.kdv_tup [u0])).push (PySem.HandSPX.excO C G.objs.size), gs, dr, tk0, os⟩ [Value.ref (G.objs.size + 1), u0] I2.kIn (by rw [List.append_nil]; exact lps.symm)
    rw [List.append_nil] at b2
    have rr : Vals [V.ref (G.objs.size + 1), y] [Value.ref (G.objs.size + 1), u0] := .cons rfl (.cons ru .nil)
    refine wpAny_call (PySem.DX.makeRun FB hT hC (PySem.W.looks_findIn I1.kIn iC) (fun self => PySem.W.bind_fn I1.kIn self tI) one
      (codeAny_mono (F.run _ X.stack _ _ ⟨[Value.ref (G.objs.size + 1), u0], []⟩ _ _ _ (fun _ _ _ => False) (hr.make C [u0] []) (I2.env0.make C [u0] []) b2 rr pr) fun r s' z => ?_))
    cases r with
    | error er => exact passAt tk σ pins _ _ er s' I2 (by
        obtain ⟨a, B', H', cls, dd', _, _, _, _, _, _, _, w⟩ := z
        exact w.elim)
    | ok fl =>
      cases fl with
      | ret v =>
        obtain ⟨v', H2, os2, bare2, un2, hok2, rv, rfl, dx, f1, n1, rfl⟩ := z
        obtain ⟨h2, g2, d2, t2, os'⟩ := s'
        have e1 : upd (del (upd (upd (upd H1 (G.objs.size + 1) (exo (G.objs.size + 1) C none)) dx (exd dx [(nm, y)])) (G.objs.size + 1) (exo (G.objs.size + 1) C (some dx))) (G.objs.size + 1)) dx (.xd [(nm, y)]) = upd H1 dx (.xd [(nm, y)]) := by
          funext b
          by_cases c1 : b = dx
          · subst c1
            rw [upd_same, upd_same]
          · rw [upd_ne c1, upd_ne c1]
            by_cases c2 : b = G.objs.size + 1
            · subst c2
              rw [del_same, fresh]
            · rw [del_ne c2, upd_ne c2, upd_ne c1, upd_ne c2]
        refine ⟨rv, mk_end (raises_own T.sub T.typ) I1 big kp un2 hok2 os2 bare2 upd_same (by rw [upd_ne n1, upd_same]) f1 ?_⟩
        rw [e1]
        exact fin dx f1
      | next => exact z.elim
      | brk => exact z.elim
      | cont => exact z.elim
/-- C() of a class without own __init__ -/
theorem pmk_x0 (FB : ExcBaseFacts B newId initId bmB) (q : PySem.W.excIn X.K C bmB newId = true) (gC : X.mg x = some (.ref C)) (kC : PySem.W.keepIn X.K (.ref C) = true) (r : Raises X (.ref C)) (hg : Gl X x := by rfl) (hdb : (x == ("__debug__" : Str)) = false := by decide)
    (hpl : ((backTo pos (starEach [] X.env)).any (·.1) || (backToKw pos (keywordEach [] X.env)).any (·.1.isNone)) = false := by rfl) (hall : (backToKw pos (keywordEach [] X.env)).all (·.1.isSome) = true := by rfl) (hnil : ((backToKw pos (keywordEach [] X.env)).map (·.2)) = [] := by rfl) (hfm : (backToKw pos (keywordEach [] X.env)).filterMap (·.1) = [] := by rfl) :
    PMk X (.Call (.Name x p) [] [] pos) (fun _ H Q => Q (.ref C) none H) := fun pins s σ H Q I h => by
  refine wpAny_Call_Name_kw (ld_glob I hg gC ?_ hdb)
  refine PySem.W.callWith_KW0 (h₀ := X.base) I.ok.mod.kin kC hall ?_ hpl
  rw [hnil, hfm]
  unfold evalAll
  refine wpAny_pure ⟨I.kIn, ?_⟩
  show wpAny _ _ (call (.ref C) []) _ _ _
  obtain ⟨bm, N, nm, qn, bs, hdct, sn, sub, ab, col, dd, k0, k1, k2, k3, k5, mN, hC, hN, hni, T⟩ := exc_obj I.kIn q
  exact wpAny_call_exc_subT FB T hC hN hni (fun h' e hm => mk_of I hm r h (I.hok.gone hm.new)) (by rw [sizeLine_eq]; decide)
end
end Dn
namespace Dn
open PySem PySem.Spec PyProof.Rows L2

def Lnd (X : Cx) (pins : List (Addr × Obj)) (σ : L2.St) (H : Hp) (a : Addr) (cls : Value) (d : Option Addr) (s : Shared) : Prop :=
  ∃ (B : Heap) (sI : Shared), Inv X pins σ H sI ∧ (∀ b o, sI.heap.get? b = some o → b ∉ frs X.stack → B.get? b = some o) ∧ sI.heap.UpToSlots s.heap ∧ HandSPX.FlyingZ B X.stack a (Zc cls d) s.heap ∧ H a = none ∧ s.os = sI.os ∧ AllBare s.gens
/-- clauses that serve all exceptions with the wish w -/
def Cls_ (X : Cx) (D : Ends) (hds : List ExceptHandler) (w : WX) : Prop := ∀ (pins : List (Addr × Obj)) (σ : L2.St) (H : Hp) (a : Addr) (cls : Value) (d : Option Addr) (s : Shared), Lnd X pins σ H a cls d s → w cls d σ H →
  wpAny (model X.prog X.w) X.A (handleBy (.ref a) X.env hds) (SP X pins D) X.xe s
section
variable {X : Cx} {pins : List (Addr × Obj)} {σ : L2.St} {H : Hp} {a : Addr} {cls : Value} {d : Option Addr} {s : Shared} {D : Ends}
theorem Lnd.inv (l : Lnd X pins σ H a cls d s) : Inv X pins σ H s := by
  obtain ⟨B, sI, J, nb, up, fl, na, os, ag⟩ := l
  exact J.landed nb fl.1 up os ag
/-- its object, and that it is no frame -/
theorem Lnd.obj (l : Lnd X pins σ H a cls d s) (hs : X.stack = X.env :: X.outer) (hf : X.env.frame = some X.env.locals) : ∃ oe vs, s.heap.get? a = some oe ∧ Zc cls d oe ∧ oe.data = .fields vs ∧ a ≠ X.env.locals ∧ a ∉ X.fs ∧ H a = none := by
  obtain ⟨B, sI, J, nb, up, fl, na, os, ag⟩ := l
  obtain ⟨oe, vs, z1, z2, z3⟩ := fl.there
  have no : a ∉ frs X.stack := fun hm => by
    obtain ⟨_, o', e', hn⟩ := fl.2.2.1.mem hm
    rw [z1] at e'
    cases e'
    exact hn _ z3
  refine ⟨oe, vs, z1, z2, z3, fun z => no ?_, fun hm => no ?_, na⟩
  · rw [hs]
    exact List.mem_filterMap.mpr ⟨X.env, List.mem_cons_self, by rw [hf, z]⟩
  · rw [hs]
    obtain ⟨e, he, q⟩ := List.mem_filterMap.mp hm
    exact List.mem_filterMap.mpr ⟨e, List.mem_cons_of_mem _ he, q⟩
theorem cls_nil {w : WX} (hf : X.env.frame = some X.env.locals) (tk : Takes X w) : Cls_ X D [] w := fun pins σ H a cls d s l hw => by
  obtain ⟨B, sI, J, nb, up, fl, na, os, ag⟩ := l
  refine wpAny_handleBy_nil ?_
  obtain ⟨_, _, _, oe, vs, T, _, _, z1, _, z3, z4, _⟩ := id fl
  unfold PySem.passOn
  refine wpAny_bind (wpAny_field z1 z3 z4 ?_)
  rw [if_neg (by simp)]
  have up2 : wpAny (model X.prog X.w) X.A (setFlight (.ref a) X.env.frame) (fun _ s4 => wpAny (model X.prog X.w) X.A (throw (.ref a) : Sem Flow) (SP X pins D) X.xe s4) X.xe s := by
    rw [hf]
    exact HandSPX.setFlight_upZ fl fun h4 held up4 => wpAny_throw (tk _ _ ⟨a, B, sI, pins, σ, H, cls, d, rfl, J, nb, up.trans up4, .inr (.inr held), na, os, ag, hw⟩)
  first
    | exact wpAny_bind (wpAny_pure (wpAny_bind up2))
    | exact wpAny_bind up2
/-- a clause's test -/
theorem Lnd.test {x : Str} {np pos : Pos} {c : Value} {b : Bool} {R : Result → Shared → Prop} (l : Lnd X pins σ H a cls d s) (hs : X.stack = X.env :: X.outer) (hf : X.env.frame = some X.env.locals) (hc : Names X x c) (hb : PySem.W.exmOne X.K cls c = some b) (q : R (.ok (if b then .brk else .next)) s) :
    codeAny (model X.prog X.w) (X.A.mark (some (.ref a))) (.handlers (.ref a) [.ExceptHandler (some (.Name x np)) none [] pos] X.env) R s := by
  obtain ⟨oe, vs, z1, z2, z3, nL, nF, na⟩ := l.obj hs hf
  have I2 := l.inv.suite z1 z3 na nL nF
  have ty : PySem.W.Looks (model X.prog X.w) s.heap (typeOf (.ref a)) cls := fun _ _ _ _ k q => wpAny_typeOf_ref (k _ _ z1) (by rw [z2.1]; exact q)
  have lk := PySem.W.exm_one (M := model X.prog X.w) l.inv.kIn ty hb
  refine codeAny_handlers_test ?_
  obtain ⟨g1, g2, g3⟩ := hc
  rcases g3 with g3 | ⟨g3, g4, g5⟩
  · exact ld_glob (X := X.suite a ((a, oe) :: (X.pn ++ pins))) I2 g1 g3 (lk.here q) g2
  · exact ld_blt (X := X.suite a ((a, oe) :: (X.pn ++ pins))) I2 g1 g3 g4 (lk.here q) g5 g2
theorem Lnd.again (l : Lnd X pins σ H a cls d s) {M : Model} {A : Around} {E : Value → Shared → Prop} {Q : Unit → Shared → Prop} (q : ∀ s', Lnd X pins σ H a cls d s' → Q () s') : wpAny M A (setFlight (.ref a) none) Q E s := by
  obtain ⟨B, sI, J, nb, up, fl, na, os, ag⟩ := l
  exact HandSPX.lands_againZ fl fun h4 fl4 up4 => q _ ⟨B, sI, J, nb, up.trans up4, fl4, na, os, ag⟩
variable {hds : List ExceptHandler} {x n : Str} {np pos : Pos} {b₀ : Stmt} {suite : List Stmt} {c : Value} {i : Nat}
/-- except x: suite -/
theorem cls_only {w w' : WX} {ts : Addr → Value → Option Addr → TS} (hs : X.stack = X.env :: X.outer) (hf : X.env.frame = some X.env.locals) (hc : Names X x c)
    (hsu : ∀ (a : Addr) (oe : Obj) (cls : Value) (d : Option Addr) (pn : List (Addr × Obj)), Zc cls d oe → (∃ vs, oe.data = .fields vs) → PSs (X.suite a ((a, oe) :: pn)) (b₀ :: suite) (ts a cls d))
    (hw : ∀ cls d σ H, w cls d σ H → ∃ b, PySem.W.exmOne X.K cls c = some b ∧ (b = true → ∀ a, H a = none → ts a cls d D σ H) ∧ (b = false → w' cls d σ H)) (r : Cls_ X D hds w') :
    Cls_ X D (.ExceptHandler (some (.Name x np)) none (b₀ :: suite) pos :: hds) w := fun pins σ H a cls d s l h => by
  obtain ⟨b, hb, yes, no⟩ := hw _ _ _ _ h
  refine wpAny_handleBy_cons (l.test hs hf hc hb ?_) (fun q => by cases q)
  cases b with
  | false => exact r pins σ H a cls d s l (no rfl)
  | true =>
    refine codeAny_handlers_suite (l.again fun s4 l4 => ?_)
    obtain ⟨oe, vs, z1, z2, z3, nL, nF, na⟩ := l4.obj hs hf
    refine wpAny_mono ((hsu a oe cls d (X.pn ++ pins) z2 ⟨_, z3⟩).run [] _ _ H _ (l4.inv.suite z1 z3 na nL nF) (yes rfl a na)) (fun f s6 h6 => ?_) (fun _ _ z => z.elim)
    have ok := l4.inv.ok
    cases f with
    | ret u =>
      obtain ⟨v6, σ6, H6, S6, r6, q6⟩ := h6
      exact ⟨_, _, _, S6.unsuite ok, r6, q6⟩
    | next =>
      obtain ⟨σ6, H6, S6, q6⟩ := h6
      exact ⟨_, _, S6.unsuite ok, q6⟩
    | brk =>
      obtain ⟨σ6, H6, S6, q6⟩ := h6
      exact ⟨_, _, S6.unsuite ok, q6⟩
    | cont =>
      obtain ⟨σ6, H6, S6, q6⟩ := h6
      exact ⟨_, _, S6.unsuite ok, q6⟩
/-- except x as n: suite -/
theorem cls_as {w w' : WX} {ts : Addr → Value → Option Addr → TS} (hs : X.stack = X.env :: X.outer) (hf : X.env.frame = some X.env.locals) (hN : X.N.Nodup) (hi : X.N[i]? = some n) (hl : X.env.kindOf n = some .local) (hc : Names X x c)
    (hsu : ∀ (a : Addr) (oe : Obj) (cls : Value) (d : Option Addr) (pn : List (Addr × Obj)), Zc cls d oe → (∃ vs, oe.data = .fields vs) → PSs (X.suite a ((a, oe) :: pn)) (b₀ :: suite) (ts a cls d))
    (hw : ∀ cls d σ H, w cls d σ H → ∃ b, PySem.W.exmOne X.K cls c = some b ∧ (b = true → ∀ a, H a = none → ts a cls d ⟨fun σ' H' => D.nx (σ'.set i none) H', D.rt, fun σ' H' => D.bk (σ'.set i none) H', fun σ' H' => D.ct (σ'.set i none) H'⟩ (σ.set i (some (.ref a))) H) ∧ (b = false → w' cls d σ H)) (r : Cls_ X D hds w') :
    Cls_ X D (.ExceptHandler (some (.Name x np)) (some n) (b₀ :: suite) pos :: hds) w := fun pins σ H a cls d s l h => by
  obtain ⟨b, hb, yes, no⟩ := hw _ _ _ _ h
  refine wpAny_handleBy_cons (l.test hs hf hc hb ?_) (fun q => by cases q)
  cases b with
  | false => exact r pins σ H a cls d s l (no rfl)
  | true =>
    refine codeAny_handlers_suite_as (l.again fun s4 l4 => ?_)
    obtain ⟨oe, vs, z1, z2, z3, nL, nF, na⟩ := l4.obj hs hf
    refine store_ok (v := .ref a) (X := X.suite a ((a, oe) :: (X.pn ++ pins))) (l4.inv.suite z1 z3 na nL nF) hN hi (.inl hl) rfl (fun s5 I5 => ?_) (.inr hl)
    refine wpAny_mono ((hsu a oe cls d (X.pn ++ pins) z2 ⟨_, z3⟩).run [] s5 _ H _ I5 (yes rfl a na)) (fun f s6 h6 => ?_) (fun _ _ z => z.elim)
    have ok := l4.inv.ok
    cases f with
    | ret u =>
      obtain ⟨v6, σ6, H6, S6, r6, q6⟩ := h6
      exact gone_ok (S6.unsuite ok) hN hi hl fun s7 J7 => ⟨_, _, _, J7, r6, q6⟩
    | next =>
      obtain ⟨σ6, H6, S6, q6⟩ := h6
      exact gone_ok (S6.unsuite ok) hN hi hl fun s7 J7 => ⟨_, _, J7, q6⟩
    | brk =>
      obtain ⟨σ6, H6, S6, q6⟩ := h6
      exact gone_ok (S6.unsuite ok) hN hi hl fun s7 J7 => ⟨_, _, J7, q6⟩
    | cont =>
      obtain ⟨σ6, H6, S6, q6⟩ := h6
      exact gone_ok (S6.unsuite ok) hN hi hl fun s7 J7 => ⟨_, _, J7, q6⟩
/-- try: body except ..: .. -/
theorem ps_tryG {body : List Stmt} {h₀ : ExceptHandler} {tb : WX → TS} {wi : Ends → WX} (hs : X.stack = X.env :: X.outer) (hf : X.env.frame = some X.env.locals)
    (hb : ∀ (w : WX) (pn : List (Addr × Obj)) (xe : Value → Shared → Prop), Takes (X.tr pn xe) w → PassesOwn (model X.prog X.w) X.A X.env xe → PSs (X.tr pn xe) body (tb w)) (hh : ∀ D, Cls_ X D (h₀ :: hds) (wi D)) :
    PS X (.Try body (h₀ :: hds) [] [] pos) (fun D σ H => tb (wi D) D σ H) := ⟨fun pins s σ H D I h => by
  have ok := I.ok
  have hfr : X.A.frames = some (X.env :: X.outer) := ok.frames.trans (by rw [hs])
  refine wpAny_Try_except ?_
  have tkn : Takes (X.tr (X.pn ++ pins) (fun e s₁ => wpAny (model X.prog X.w) X.A (noteFrame e X.env) (fun _ s₂ => wpAny (model X.prog X.w) X.A (setFlight e none) (fun _ s₃ => wpAny (model X.prog X.w) X.A (handleBy e X.env (h₀ :: hds)) (SP X pins D) X.xe s₃) X.xe s₂) X.xe s₁)) (wi D) := fun u s' x => by
    obtain ⟨a, B, sI, pins', σ', H', cls, d, rfl, J', nb, up, sky, na, os, ag, w⟩ := x
    have J : Inv X pins σ' H' sI := J'.ofTry ok
    have sky2 : Sky B (X.env :: X.outer) a (Zc cls d) X.env.locals s'.heap := by
      rw [← hs]
      exact sky
    show wpAny (model X.prog X.w) X.A (noteFrame (.ref a) X.env) _ _ _
    refine Sky.land Zc.steady hfr hf sky2 fun h3 fl3 up3 => ?_
    exact hh D pins σ' H' a cls d _ ⟨B, sI, J, nb, up.trans up3, by rw [hs]; exact fl3, na, os, ag⟩ w
  refine wpAny_mono ((hb _ _ _ tkn PassesOwn.looking).run [] s σ H D (I.toTry _) h) (fun f s1 h1 => ?_) (fun _ _ z => z)
  cases f with
  | ret u =>
    obtain ⟨v, σ', H', J', r, q⟩ := h1
    exact ⟨v, σ', H', J'.ofTry ok, r, q⟩
  | next =>
    obtain ⟨σ', H', J', q⟩ := h1
    exact wpAny_execs_nil ⟨σ', H', J'.ofTry ok, q⟩
  | brk =>
    obtain ⟨σ', H', J', q⟩ := h1
    exact ⟨σ', H', J'.ofTry ok, q⟩
  | cont =>
    obtain ⟨σ', H', J', q⟩ := h1
    exact ⟨σ', H', J'.ofTry ok, q⟩⟩
end
end Dn
namespace Dn
open PySem PySem.Spec PyProof.Rows L2

def dRaise0 (t : Nat) : DS := fun s h => .exc t [] s h
def dRaiseI (t j : Nat) (f : DE) : DS := fun s h => (f s h).st s fun v h1 => .exc t [(j, v)] s h1
def SR.noX : SR → SR
  | .exc _ _ _ _ => .stuck
  | r => r
def SR.wip (i : Nat) : SR → SR
  | .nx s h => .nx (s.set i none) h
  | .bk s h => .bk (s.set i none) h
  | .ct s h => .ct (s.set i none) h
  | .rt v h => .rt v h
  | _ => .stuck
def pickH (T : XT) (t : Nat) (fs : List (Nat × AV)) (s : Sl) (h : Hep) : Hds → SR
  | [] => .exc t fs s h
  | (c, o, f) :: r => match T.sub t c with
    | true => (match o with
      | none => (f s h).noX
      | some i => if i < s.length then (f (s.set i (some (.exn t fs))) h).wip i else .stuck)
    | false => pickH T t fs s h r
def dTry (T : XT) (f : DS) (hs : Hds) : DS := fun s h => match f s h with
  | .exc t fs s1 h1 => if T.n ≤ t ∧ t < T.m then pickH T t fs s1 h1 hs else .stuck
  | r => r
def xfK (j : Nat) (o : Option (Option AV)) (h : Hep) : R AV := match o with
  | some (some (.exn _ fs)) => (match fget fs j with
    | some v => .ok v h
    | none => .stuck)
  | _ => .stuck
/-- e.f of a caught exception -/
def dXf (i j : Nat) : DE := fun s h => xfK j s[i]? h
def tyLook (l : List (Nat × String × Bool)) (t : Nat) (n : String) : Option Bool := match l with
  | [] => none
  | (t', n', b) :: r => if t' = t ∧ n' = n then some b else tyLook r t n
def isXK (T : XT) (n : String) (o : Option (Option AV)) (h : Hep) : R AV := match o with
  | some (some (.exn t _)) => (match tyLook T.ty t n with
    | some b => .ok (.bl b) h
    | none => .stuck)
  | _ => .stuck
/-- isinstance(e, T), e a caught exception -/
def dIsX (T : XT) (i : Nat) (n : String) : DE := fun s h => isXK T n s[i]? h

/-- a class without own __init__ -/
def HasX0 (mg : Str → Option Value) (W : Wd) (t : Nat) (x : Str) : Prop := ∃ (B newId initId : String) (bmB : List Value), ExcBaseFacts B newId initId bmB ∧ PySem.W.excIn W.K (W.cl t) bmB newId = true ∧ mg x = some (.ref (W.cl t)) ∧ PySem.W.keepIn W.K (.ref (W.cl t)) = true ∧
  PySem.W.subIn W.K (.ref (W.cl t)) (.type "BaseException") = some true ∧ PySem.W.typeIn W.K (.ref (W.cl t)) = some (.type "type")
/-- a class whose own __init__ stores its argument as attribute j -/
def HasXI (P : Program) (w : World) (mg : Str → Option Value) (base : Heap) (W : Wd) (t j : Nat) (x : Str) : Prop := ∃ (B newId : String) (bmB : List Value) (nm : Str) (fI : Addr) (fd : FuncData) (ps : List Str), PySem.DX.NewF B newId bmB ∧ W.fn[j]? = some nm ∧ Xi W.K (W.cl t) bmB newId nm ∧
  PySem.W.findIn W.K (.ref (W.cl t)) "__init__" = some (some (.ref fI)) ∧ PySem.W.typeIn W.K (.ref fI) = some (.type "function") ∧ FnOk P w W.K mg base (L2.CX P w) 1 fI fd ps (spXi W.K bmB newId nm) ∧ Binds W.K fd ps [] ∧ mg x = some (.ref (W.cl t))
section
variable {W : Wd} {M : Md W} {E : WX} {X : Cx} {t j k : Nat} {x : Str} {e : Expr} {f : DE} {p p2 pos : Pos}
theorem sRaise0 (h : HasX0 X.mg W t x) (hK : X.K = W.K) (hc : X.calm = true) (tk : Takes X E) (hg : Gl X x := by rfl) (hdb : (x == ("__debug__" : Str)) = false := by decide)
    (hpl : ((backTo p2 (starEach [] X.env)).any (·.1) || (backToKw p2 (keywordEach [] X.env)).any (·.1.isNone)) = false := by rfl) (hall : (backToKw p2 (keywordEach [] X.env)).all (·.1.isSome) = true := by rfl) (hnil : ((backToKw p2 (keywordEach [] X.env)).map (·.2)) = [] := by rfl) (hfm : (backToKw p2 (keywordEach [] X.env)).filterMap (·.1) = [] := by rfl) :
    PS X (.Raise (some (.Call (.Name x p) [] [] p2)) none pos) (tS W M E (dRaise0 t)) := by
  obtain ⟨B, newId, initId, bmB, FB, h1, h2, h3, h4, h5⟩ := h
  rw [← hK] at h1 h3 h4 h5
  refine psI (ps_raise hc tk (pmk_x0 FB h1 h2 h3 (raises_own h4 h5) hg hdb hpl hall hnil hfm)) fun D σ H ⟨io, hp, as, rl, S, P⟩ => ?_
  exact P io H σ _ _ Ext.refl rl S ⟨rfl, .inl ⟨rfl, rfl⟩⟩
theorem sRaiseI (h : HasXI X.prog X.w X.mg X.base W t j x) (hr : Room k X.A) (hk : 2 ≤ k) (hK : X.K = W.K) (hc : X.calm = true) (tk : Takes X E) (he : PE X e (tD W M E f)) (hg : Gl X x := by rfl) (hdb : (x == ("__debug__" : Str)) = false := by decide)
    (hse : starEach [e] X.env = (false, eval e X.env) :: starEach [] X.env := by rfl) (hpl : (backTo p2 (starEach [] X.env)).any (·.1) = false := by rfl) :
    PS X (.Raise (some (.Call (.Name x p) [e] [] p2)) none pos) (tS W M E (dRaiseI t j f)) := by
  obtain ⟨B, newId, bmB, nm, fI, fd, ps, FB, hn, T, iC, tI, F, hb, hm⟩ := h
  rw [← hK] at T iC tI F hb
  refine psI (ps_raise hc tk (pmk_xi FB T iC tI F (hr.mono hk) hb tk hm (aD (M := M) (E := E) he nD hse) hg hdb hse hpl)) fun D σ H ⟨io, hp, as, rl, S, P⟩ => ?_
  refine ⟨io, hp, as, rl, S, ?_⟩
  have P' : Pss W M E D io H ((f as hp).st as fun v h1 => .exc t [(j, v)] as h1) := P
  unfold dCons dNil
  cases z : f as hp with
  | stuck =>
    rw [z] at P'
    exact P'
  | exc t' fs hp1 =>
    rw [z] at P'
    exact fun io' H' cls d e' rl' rx => P' io' H' σ cls d e' rl' (M.mono e' S) rx
  | ok a hp1 =>
    rw [z] at P'
    intro io' H' xs e' rl' rxs
    match xs, rxs with
    | [y], .cons ry .nil =>
      refine ⟨y, rfl, fun dx hn2 => ?_⟩
      have ex : Ext W io' H' io' (upd H' dx (.xd [(nm, y)])) := Ext.new0 hn2
      exact P' io' _ σ _ _ (e'.trans ex) (rl'.other hn2) (M.mono (e'.trans ex) S) ⟨rfl, .inr ⟨dx, _, rfl, upd_same, .cons hn (ry.mono ex) .nil⟩⟩
end

section
variable {W : Wd} {X : Cx} {T : XT}
theorem PssE0 {D : Ends} {io : List Addr} {H : Hp} {E : WX} {M : Md W} {r : SR} (P : Pss W M E D io H r.noX) : Pss W M E0x D io H r := by
  cases r with
  | exc t fs s h => exact P.elim
  | _ => exact P
end
section
variable {W : Wd} {X : Cx} {T : XT} {E : WX} {a : Addr} {oe : Obj} {pn : List (Addr × Obj)} {i j t : Nat} {fs : List (Nat × AV)} {d : Option Addr} {x nm : Str} {p pos : Pos}
theorem tyLook_in : ∀ {l : List (Nat × String × Bool)} {t : Nat} {n : String} {b : Bool}, tyLook l t n = some b → (t, n, b) ∈ l
  | [], _, _, _, h => by cases h
  | (t', n', b') :: r, t, n, b, h => by
    unfold tyLook at h
    by_cases e : t' = t ∧ n' = n
    · rw [if_pos e] at h
      cases h
      obtain ⟨rfl, rfl⟩ := e
      exact List.mem_cons_self
    · rw [if_neg e] at h
      exact List.mem_cons_of_mem _ (tyLook_in h)
end
end Dn
namespace Dn
open PySem PySem.Spec PyProof.Rows L2

section
variable {X : Cx}
theorem vt (i : Nat) {x : Str} {pos : Pos} (hN : X.N[i]? = some x := by rfl) (hv : Vis X.env.scope x := by first | exact Or.inl rfl | exact Or.inr (Or.inl rfl) | exact Or.inr (Or.inr rfl)) (hd : (x == ("__debug__" : Str)) = false := by decide)
    (hcd : (x == ("__classdict__" : Str)) = false := by decide) : PE X (.Name x pos) (tVar i) := pe_var hN hv hd hcd
end
theorem bt_ValueError : bootBuiltins "ValueError" = some (.type "ValueError") := by decide +kernel
theorem bt_IndexError : bootBuiltins "IndexError" = some (.type "IndexError") := by decide +kernel
theorem bt_LookupError : bootBuiltins "LookupError" = some (.type "LookupError") := by decide +kernel
def mkWX (K : PySem.W.Frag) (cs xs fn : List Str) (sub : Nat → Nat → Bool) (hn : fn.Nodup) (h : wdXB cs xs fn sub K = true) (h1 : PySem.W.specialIn K (.builtin "object.__class__") "__get__" = some (some (.builtin "getset_descriptor.__get__"))) (h2 : PySem.W.takesIn K (.builtin "object.__class__") = some true) : Wd where
  K := K
  cl := clOf K (cs ++ xs)
  fn := fn
  fnd := hn
  ct := ctOf cs.length sub
  cg := fun t ht => clB_ok (He.ba (allN_ok h t (of_decide_eq_true ht))).1
  cd := h1
  ck := h2
  ctf := fun n t hn ht => by
    have h3 := (He.ba (He.ba (He.ba (allN_ok h t (of_decide_eq_true ht))).2).2).1
    exact of_decide_eq_true (He.ba (List.all_eq_true.mp h3 n hn)).1
  cty := fun n t hn ht => by
    have h3 := (He.ba (He.ba (He.ba (allN_ok h t (of_decide_eq_true ht))).2).2).1
    exact of_decide_eq_true (He.ba (List.all_eq_true.mp h3 n hn)).2
  csf := fun s t hs ht => by
    have h3 := (He.ba (He.ba (He.ba (He.ba (allN_ok h t (of_decide_eq_true ht))).2).2).2).1
    exact of_decide_eq_true (He.ba (allN_ok h3 s (of_decide_eq_true hs))).1
  cks := fun t ht => (clB_ok (He.ba (allN_ok h t (of_decide_eq_true ht))).1).1
  cb := fun t ht => (He.ba (He.ba (allN_ok h t (of_decide_eq_true ht))).2).1
  css := fun s t hs ht => by
    have h3 := (He.ba (He.ba (He.ba (He.ba (allN_ok h t (of_decide_eq_true ht))).2).2).2).1
    exact of_decide_eq_true (He.ba (allN_ok h3 s (of_decide_eq_true hs))).2
  noat := fun t s ht hs => by
    have h3 := (He.ba (He.ba (He.ba (He.ba (allN_ok h t (of_decide_eq_true ht))).2).2).2).2
    exact He.eqO_ok (List.all_eq_true.mp h3 s hs)
theorem xwB_ok {W : Wd} {cs : List Str} {T : XT} (hc : W.cl = clOf W.K cs) (h : xwB cs W.fn T W.K = true) : XWd W T := by
  obtain ⟨h1, h2⟩ := He.ba h
  have at_ : ∀ t, T.n ≤ t → t < T.m → xcB W.fn W.K (W.cl t) = true ∧ allN (T.m - T.n) (fun j => decide (PySem.W.exmOne W.K (.ref (clOf W.K cs t)) (.ref (clOf W.K cs (T.n + j))) = some (T.sub t (T.n + j)))) = true := fun t a b => by
    have z := He.ba (allN_ok h1 (t - T.n) (by omega))
    rw [show T.n + (t - T.n) = t by omega, ← hc] at z
    rw [← hc]
    exact z
  have xc : ∀ t, T.n ≤ t → t < T.m → xfB W.K (W.cl t) = true ∧ (W.fn.all fun x => He.eqO (PySem.W.findIn W.K (.ref (W.cl t)) x) (some none)) = true ∧ He.eqO (PySem.W.findIn W.K (.ref (W.cl t)) "__class__") (some (some (.builtin "object.__class__"))) = true ∧ decide (PySem.W.mroIn W.K (W.cl t) (.type "object") = some true) = true := fun t a b => by
    obtain ⟨z1, z⟩ := He.ba (at_ t a b).1
    obtain ⟨z2, z⟩ := He.ba z
    exact ⟨z1, z2, He.ba z⟩
  refine ⟨fun s t a b c d => ?_, fun t a b => xfB_ok (xc t a b).1, fun t s a b hs => He.eqO_ok (List.all_eq_true.mp (xc t a b).2.1 s hs), fun t a b => ?_, fun q hq => ?_⟩
  · have z := of_decide_eq_true (allN_ok (at_ s a b).2 (t - T.n) (by omega))
    rw [show T.n + (t - T.n) = t by omega, ← hc] at z
    exact z
  · have xf := xfB_ok (xc t a b).1
    exact ⟨xf.ga, xf.gg, xf.exC, xf.hdC, He.eqO_ok (xc t a b).2.2.1, W.cd, W.ck, of_decide_eq_true (xc t a b).2.2.2⟩
  · rw [hc]
    exact of_decide_eq_true (List.all_eq_true.mp h2 q hq)
theorem x0B_ok {mg : Str → Option Value} {W : Wd} {t : Nat} {x : Str} {B newId initId : String} {bmB : List Value} (F : ExcBaseFacts B newId initId bmB) (hc : W.cl t = He.ga W.K x) (hm : mg x = some (.ref (He.ga W.K x))) (h : x0B x bmB newId W.K = true) : HasX0 mg W t x := by
  obtain ⟨h1, h2⟩ := He.ba h
  obtain ⟨h3, h4⟩ := He.ba h2
  obtain ⟨h5, h6⟩ := He.ba h4
  exact ⟨B, newId, initId, bmB, F, by rw [hc]; exact h1, by rw [hc]; exact hm, by rw [hc]; exact h6, by rw [hc]; exact of_decide_eq_true h3, by rw [hc]; exact of_decide_eq_true h5⟩
theorem xiB_ok {P : Program} {w : World} {mg : Str → Option Value} {base : Heap} {W : Wd} {t j : Nat} {x nm : Str} {p : Pth} {B newId : String} {bmB : List Value} {fd : FuncData} {ps : List Str} (F : PySem.DX.NewF B newId bmB) (hc : W.cl t = He.ga W.K x) (hm : mg x = some (.ref (He.ga W.K x))) (hj : W.fn[j]? = some nm)
    (h : xiB x nm p bmB newId W.K = true) (fo : FnOk P w W.K mg base (L2.CX P w) 1 (p W.K) fd ps (spXi W.K bmB newId nm)) (hb : ∀ (s : Shared) (us : List Value), us.length = ps.length → BindsTo s fd ⟨us, []⟩ (ps.zip us)) : HasXI P w mg base W t j x := by
  obtain ⟨h1, h⟩ := He.ba h
  obtain ⟨h2, h⟩ := He.ba h
  obtain ⟨h3, h⟩ := He.ba h
  obtain ⟨h4, h⟩ := He.ba h
  obtain ⟨h5, h⟩ := He.ba h
  obtain ⟨h6, h⟩ := He.ba h
  obtain ⟨h7, h⟩ := He.ba h
  obtain ⟨h8, h⟩ := He.ba h
  obtain ⟨h9, h10⟩ := He.ba h
  refine ⟨B, newId, bmB, nm, p W.K, fd, ps, F, hj, ⟨?_, ?_, ?_, ?_, ?_, ?_, ?_, ?_⟩, by rw [hc]; exact He.eqO_ok h6, of_decide_eq_true h7, fo, fun s us _ hl => ?_, by rw [hc]; exact hm⟩
  · rw [hc]; exact h1
  · rw [hc]; exact h2
  · rw [hc]; exact He.eqO_ok h3
  · rw [hc]; exact h4
  · rw [hc]; exact He.eqO_ok h5
  · rw [hc]; exact of_decide_eq_true h8
  · rw [hc]; exact of_decide_eq_true h9
  · rw [hc]; exact h10
  · rw [List.append_nil] at hl ⊢
    exact hb s us hl
end Dn
namespace Dn
open PySem
section
variable {h : Hep} {s : Sl} {t j i c : Nat} {fs : List (Nat × AV)} {v : AV} {f : DE} {fb : DS} {T : XT} {hs : Hds} {n : String}
@[simp] theorem xRaise0 : dRaise0 t s h = .exc t [] s h := rfl
@[simp] theorem xRaiseI : dRaiseI t j f s h = (f s h).st s fun v h1 => .exc t [(j, v)] s h1 := rfl
@[simp] theorem SR.fin_exc' : (SR.exc t fs s h).fin = .exc t fs h := rfl
def tryK (T : XT) (hs : Hds) (r : SR) : SR := match r with
  | .exc t fs s1 h1 => if T.n ≤ t ∧ t < T.m then pickH T t fs s1 h1 hs else .stuck
  | r => r
@[simp] theorem xTry : dTry T fb hs s h = tryK T hs (fb s h) := rfl
@[simp] theorem tryK_nx : tryK T hs (.nx s h) = .nx s h := rfl
@[simp] theorem tryK_rt : tryK T hs (.rt v h) = .rt v h := rfl
@[simp] theorem tryK_bk : tryK T hs (.bk s h) = .bk s h := rfl
@[simp] theorem tryK_ct : tryK T hs (.ct s h) = .ct s h := rfl
@[simp] theorem tryK_exc : tryK T hs (.exc t fs s h) = if T.n ≤ t ∧ t < T.m then pickH T t fs s h hs else .stuck := rfl
@[simp] theorem pickH_nil : pickH T t fs s h [] = .exc t fs s h := rfl
@[simp] theorem pickH_only : pickH T t fs s h ((c, none, fb) :: hs) = if T.sub t c = true then (fb s h).noX else pickH T t fs s h hs := by
  rw [pickH]
  cases T.sub t c <;> rfl
@[simp] theorem pickH_as : pickH T t fs s h ((c, some i, fb) :: hs) = if T.sub t c = true then (if i < s.length then (fb (s.set i (some (.exn t fs))) h).wip i else .stuck) else pickH T t fs s h hs := by
  rw [pickH]
  cases T.sub t c <;> rfl
@[simp] theorem noX_nx : (SR.nx s h).noX = .nx s h := rfl
@[simp] theorem noX_rt : (SR.rt v h).noX = .rt v h := rfl
@[simp] theorem noX_bk : (SR.bk s h).noX = .bk s h := rfl
@[simp] theorem noX_ct : (SR.ct s h).noX = .ct s h := rfl
@[simp] theorem wip_nx : (SR.nx s h).wip i = .nx (s.set i none) h := rfl
@[simp] theorem wip_rt : (SR.rt v h).wip i = .rt v h := rfl
@[simp] theorem wip_bk : (SR.bk s h).wip i = .bk (s.set i none) h := rfl
@[simp] theorem wip_ct : (SR.ct s h).wip i = .ct (s.set i none) h := rfl
@[simp] theorem xXf : dXf i j s h = xfK j s[i]? h := rfl
@[simp] theorem xfK_some : xfK j (some (some (.exn t fs))) h = match fget fs j with
  | some v => .ok v h
  | none => .stuck := rfl
@[simp] theorem xIsX : dIsX T i n s h = isXK T n s[i]? h := rfl
@[simp] theorem isXK_some : isXK T n (some (some (.exn t fs))) h = match tyLook T.ty t n with
  | some b => .ok (.bl b) h
  | none => .stuck := rfl
@[simp] theorem fget_one : fget [(j, v)] j = some v := by simp [fget]
/-- an exception leaves a call -/
@[simp] theorem R.st_exc' {U : Type} {k : U → Hep → SR} : (R.exc t fs h : R U).st s k = .exc t fs s h := rfl
end
end Dn
namespace Dn
open PySem PySem.Spec PyProof.Rows L2

section
variable {W : Wd} {M : Md W} {E : WX} {X : Cx} {o e f : Expr} {fo fk fx : DE} {pos apos cpos : Pos}
end
end Dn
namespace Dn
open PySem PySem.Spec PyProof.Rows L2

section
variable {W : Wd} {io : List Addr} {H H' : Hp}
variable {p : Addr} {od : Obj} {vs : List (Key × V)} {o : HO}
end
section
variable {W : Wd} {M : Md W} {E : WX} {X : Cx} {e : Expr} {fd f : DE}
end

section
variable {W : Wd} {io : List Addr} {H : Hp} {n : Nat} {p : Addr} {od : Obj} {vs : List (Key × V)}
end
section
variable {W : Wd} {M : Md W} {E : WX} {X : Cx} {tg e : Expr} {f : DE} {apos cpos : Pos}
end
end Dn
namespace Dn
open PySem PySem.Spec PyProof.Rows L2

section
variable {W : Wd} {M : Md W} {E : WX} {X : Cx} {pos : Pos}
end

section
variable {W : Wd} {M : Md W} {E : WX} {X : Cx}
end

section
variable {W : Wd} {X : Cx}
end

section
variable {W : Wd} {X : Cx}
end
end Dn
namespace Dn
open PySem PySem.Spec PyProof.Rows L2

def h0 : DGHs := fun xs s h => match xs with
  | [] => .nx s h
  | _ => .stuck
section
variable {W : Wd} {M : Md W} {E : WX} {X : Cx}
end

section
variable {W : Wd} {M : Md W} {E : WX} {X : Cx}
end
end Dn
namespace PySem
open Sem (wp)
section
variable {prog : Program} {w : World} {A : Around} {E : Value → Shared → Prop} {s : Shared}
end
end PySem
namespace Dn
open PySem PySem.Spec PyProof.Rows L2

section
variable {W : Wd} {io : List Addr} {H : Hp} {n : Nat} {p : Addr} {od : Obj} {vs : List (Key × V)}
end
section
variable {W : Wd} {M : Md W} {E : WX} {X : Cx} {e : Expr} {f : DE} {p pos tpos : Pos} {elts : List Expr} {kk : Nat}
end
end Dn
namespace Dn
open PySem PySem.Spec PyProof.Rows L2

section
variable {W : Wd} {M : Md W} {E : WX} {X : Cx} {io : List Addr} {H H' : Hp} {hp : Hep}
end
end Dn
namespace Dn
open PySem L2
theorem set_last {h : Hep} {a b : AO} : (h ++ [a]).set h.length b = h ++ [b] := by
  rw [List.set_append_right _ _ (Nat.le_refl _), Nat.sub_self]
  rfl
theorem at_last {h : Hep} {a : AO} : (h ++ [a])[h.length]? = some a := by
  rw [List.getElem?_append_right (Nat.le_refl _), Nat.sub_self]
  rfl
end Dn
namespace Dn
open PySem PySem.Spec PyProof.Rows L2

section
variable {W : Wd} {M : Md W} {E : WX} {X : Cx} {c a b : Expr} {ft fa fb : DT} {pos : Pos}
end
end Dn
namespace Dn
open PySem PySem.SeqAt
open AutoSeq1 (wpAny_loadPart')
open MeetsSeq MeetsSeq2 MeetsSeq3 SeqRoads2
section
variable {prog : Program} {w : World}
end
end Dn
namespace Dn
open PySem PySem.Spec PyProof.Rows L2
section
variable {W : Wd} {X : Cx}
end
end Dn
namespace Dn
open PySem PySem.Spec PyProof.Rows L2
section
variable {prog : Program} {w : World} {A : Around} {E : Value → Shared → Prop} {s : Shared}
end
section
variable {X : Cx} {pos : Pos}
end
def hL (gs : DGHs) : DGH := fun v s h => match lstAt h v with
  | some (_, xs) => gs xs s h
  | none => .stuck
section
variable {W : Wd} {M : Md W} {E : WX} {X : Cx}
end
section
variable {W : Wd} {M : Md W} {E : WX} {X : Cx} {tg iter : Expr} {body : List Stmt} {f : DI} {g : DGH} {fb : DS} {pos : Pos}
end
end Dn
namespace Dn
open PySem PySem.Spec PyProof.Rows L2
section
variable {P : Program} {w : World} {mg : Str → Option Value} {base : Heap} {W : Wd} {k n : Nat} {x : Str} {ps : List Str} {F : DF} {bs : Bs}
end
end Dn
namespace Dn
open PySem PySem.Spec PyProof.Rows L2
section
variable {P : Program} {w : World} {mg : Str → Option Value} {base : Heap} {W : Wd} {k n t : Nat} {f : Addr} {fd : FuncData} {ps : List Str} {F : DF} {x : Str} {bs : Bs}
end
section
variable {W : Wd} {M : Md W} {E : WX} {X : Cx} {k j n m q t : Nat} {ps ks : List Str} {F : DF} {x c : Str} {p pos apos kpos : Pos} {e : Expr} {es : List Expr} {kws : List Keyword} {fa fk : DA} {ix : List Nat} {dfl : List AV} {bs : Bs}
end
end Dn
namespace Dn
open PySem PySem.Spec PyProof.Rows L2
end Dn
namespace Dn
open PySem PySem.Spec PyProof.Rows L2
section
variable {W : Wd} {X : Cx}
end
end Dn
namespace Dn
open PySem PySem.Spec PyProof.Rows L2
section
variable {prog : Program} {w : World} {A : Around} {E : Value → Shared → Prop} {s : Shared} {K : PySem.W.Frag} {x y C C2 : Addr} {ox oy : Obj} {od od2 : Option Obj}
end
section
variable {W : Wd} {M : Md W} {E : WX} {X : Cx} {k j n q t : Nat} {ps : List Str} {F : DF} {ct : CT}
end
section
variable {P : Program} {w : World} {mg : Str → Option Value} {base : Heap} {W : Wd} {x qual : Str} {params : Arguments} {body : List Stmt} {scope : Scope} {f : Addr} {fd : FuncData}
end
section
variable {W : Wd} {M : Md W} {E : WX} {X : Cx} {k j n m t : Nat} {ks : List Str} {F : DF} {x : Str} {p pos : Pos} {e : Expr} {es : List Expr} {fa : DA} {f : Addr}
end
end Dn
namespace Dn
open PySem PySem.Spec PyProof.Rows L2
section
variable {W : Wd} {M : Md W} {E : WX} {X : Cx} {o e f : Expr} {fo fk fx : DE} {pos apos cpos : Pos}
end
section
variable {W : Wd} {M : Md W} {E : WX} {X : Cx} {k j n m t : Nat} {F : DF} {x : Str} {p pos p2 : Pos} {e e2 : Expr} {es : List Expr} {fa : DA} {f : Addr}
end
section
variable {W : Wd} {X : Cx}
end
end Dn
namespace Dn
open PySem PySem.Spec PyProof.Rows L2
section
variable {W : Wd} {M : Md W} {E : WX} {X : Cx} {a b : Expr} {es : List Expr} {f g : DE} {pos : Pos}
end
end Dn
namespace Dn
open PySem PySem.Spec PyProof.Rows L2
section
variable {W : Wd} {M : Md W} {E : WX} {X : Cx} {k j n m t : Nat} {F : DF} {x : Str} {p pos p2 p3 : Pos} {e e2 : Expr} {es : List Expr} {fa : DA} {f : Addr} {fe : DE}
open PySem.Calls in
end
end Dn
namespace Dn
open PySem PySem.Spec PyProof.Rows L2

section
variable {W : Wd} {M : Md W} {E : WX} {X : Cx} {st : Stmt} {fd : DE} {f : DS}
end
end Dn
namespace Dn
open PySem PySem.Spec PyProof.Rows L2

section
variable {W : Wd} {X : Cx}
end

end Dn
namespace Dn
open PySem PySem.Spec PyProof.Rows L2

section
variable {M : Model} {A : Around} {E : Value → Shared → Prop} {s : Shared} {K : PySem.W.Frag} {x C L f : Addr} {h₀ : Heap} {m : Str → Option Value} {ox : Obj} {od : Option Obj} {Q : Value → Shared → Prop}
end
section
variable {W : Wd} {M : Md W} {E : WX} {X : Cx} {k j t : Nat} {ps : List Str} {F : DF} {pos : Pos} {o : Expr} {fo : DE}
end
end Dn
namespace Dn
open PySem PySem.Spec PyProof.Rows L2

section
variable {W : Wd} {M : Md W} {E : WX} {X : Cx} {pos : Pos}
end
end Dn
namespace Dn
open PySem
theorem lcL_opt {src : Src} {g : DG} {tt : DT} {te : DE} {s0 : Sl} {h1 : Hep} {xs : List AV} {zs : List (Option AV)} (hl : xs.length = zs.length) (hz : xs.length ≤ 100000) (hs : ∀ (acc : List AV) (i : Nat), src.next i (h1 ++ [AO.lst acc]) = some xs[i]?)
    (step : ∀ (i : Nat) (x : AV) (z : Option AV) (acc : List AV), xs[i]? = some x → zs[i]? = some z → ∃ s1, g x s0 = some s1 ∧ tt s1 (h1 ++ [AO.lst acc]) = .ok z.isSome (h1 ++ [AO.lst acc]) ∧ ∀ y, z = some y → te s1 (h1 ++ [AO.lst acc]) = .ok y (h1 ++ [AO.lst acc])) :
    ∀ (k i : Nat) (acc : List AV), k + i = xs.length → acc.length ≤ i → dLcL src g tt te h1.length s0 (k + 1) i (h1 ++ [AO.lst acc]) = .ok (.ref h1.length) (h1 ++ [AO.lst (acc ++ (zs.drop i).filterMap id)])
  | k, i, acc, e, ha => by
    have hn := hs acc i
    cases z : xs[i]? with
    | none =>
      have hi := List.getElem?_eq_none_iff.mp z
      rw [z] at hn
      rw [List.drop_eq_nil_of_le (by omega), List.filterMap_nil, List.append_nil]
      unfold dLcL
      simp only [hn]
    | some x =>
      obtain ⟨hi, _⟩ := List.getElem?_eq_some_iff.mp z
      obtain ⟨k, rfl⟩ : ∃ m, k = m + 1 := ⟨k - 1, by omega⟩
      rw [z] at hn
      obtain ⟨y, z2⟩ : ∃ p, zs[i]? = some p := ⟨_, List.getElem?_eq_getElem (by omega)⟩
      obtain ⟨s1, e1, t1, e2⟩ := step i x y acc z z2
      have ed : zs.drop i = y :: zs.drop (i + 1) := by
        obtain ⟨l2, z3⟩ := List.getElem?_eq_some_iff.mp z2
        rw [← z3]
        exact List.drop_eq_getElem_cons l2
      rw [ed]
      cases y with
      | none =>
        have r := lcL_opt hl hz hs step k (i + 1) acc (by omega) (by omega)
        rw [List.filterMap_cons_none rfl, ← r]
        conv => lhs; unfold dLcL
        simp only [hn, e1, t1, R.noX_ok, R.bind_ok, Option.isSome_none]
      | some y =>
        have hzz : acc.length < SZ := by
          have : SZ = 1000000 := rfl
          omega
        have e5 : addAt h1.length y (h1 ++ [AO.lst acc]) = some (h1 ++ [AO.lst (acc ++ [y])]) := by
          unfold addAt
          rw [at_last]
          simp only [if_pos hzz, set_last]
        have r := lcL_opt hl hz hs step k (i + 1) (acc ++ [y]) (by omega) (by simp; omega)
        rw [show (some y :: zs.drop (i + 1)).filterMap id = y :: (zs.drop (i + 1)).filterMap id from rfl, show acc ++ y :: (zs.drop (i + 1)).filterMap id = (acc ++ [y]) ++ (zs.drop (i + 1)).filterMap id by simp, ← r]
        conv => lhs; unfold dLcL
        simp only [hn, e1, t1, R.noX_ok, R.bind_ok, Option.isSome_some, e2 y rfl, e5]
/-- a source that gives these values, whatever is made behind -/
structure Sq (f : DI) (s : Sl) (h h1 : Hep) (xs : List AV) : Prop where
  ex : ∃ src, f s h = .ok src h1 ∧ src.len h1 = xs.length ∧ ∀ (o : AO) (i : Nat), src.next i (h1 ++ [o]) = some xs[i]?
theorem app_at0 {h : Hep} {i : Nat} {o a : AO} (e : h[i]? = some o) : (h ++ [a])[i]? = some o := by
  rw [List.getElem?_append_left (List.getElem?_eq_some_iff.mp e).1]
  exact e
theorem Sq.at {f : DE} {s : Sl} {h h1 : Hep} {n : Nat} {xs : List AV} (ef : f s h = .ok (.ref n) h1) (e : h1[n]? = some (.lst xs)) : Sq (dSrc f) s h h1 xs :=
  ⟨.at n, src_ref ef e, len_at e, fun o i => next_at (app_at0 e)⟩
theorem Sq.fix {f : DI} {s : Sl} {h h1 : Hep} {xs : List AV} (ef : f s h = .ok (.fix xs) h1) : Sq f s h h1 xs :=
  ⟨.fix xs, ef, rfl, fun o i => rfl⟩
theorem Fr.into {A B : List Nat} {h h1 h2 : Hep} (f : Fr A h h1) (g : Fr B h1 h2) (k : ∀ i ∈ B, i ∈ A ∨ h.length ≤ i) : Fr A h h2 :=
  ⟨Nat.le_trans f.1 g.1, fun i hi he => (g.2 i (Nat.lt_of_lt_of_le hi f.1) fun z => (k i z).elim he (fun q => absurd hi (Nat.not_lt.mpr q))).trans (f.2 i hi he)⟩
theorem lc_filt {α : Type} {f : DI} {g : DG} {tt : DT} {te : DE} {vs : List Nat} {s : Sl} {h h1 : Hep} {l : List α} (fx fy : α → AV) (p : α → Bool) (S : Sq f s h h1 (l.map fx)) (hz : l.length ≤ 100000)
    (step : ∀ (x : α) (acc : List AV), x ∈ l → ∃ s1, g (fx x) (wipeS s vs) = some s1 ∧ tt s1 (h1 ++ [AO.lst acc]) = .ok (p x) (h1 ++ [AO.lst acc]) ∧ (p x = true → te s1 (h1 ++ [AO.lst acc]) = .ok (fy x) (h1 ++ [AO.lst acc]))) :
    dLc f g tt te vs s h = .ok (.ref h1.length) (h1 ++ [AO.lst ((l.filter p).map fy)]) := by
  obtain ⟨src, ef, hlen, hs⟩ := S.ex
  have r := lcL_opt (g := g) (tt := tt) (te := te) (s0 := wipeS s vs) (h1 := h1) (xs := l.map fx) (zs := l.map fun x => if p x = true then some (fy x) else none) (by simp) (by simpa using hz) (fun acc i => hs (.lst acc) i)
    (fun i x z acc hx hz => by
      rw [List.getElem?_map] at hx hz
      cases q : l[i]? with
      | none =>
        rw [q] at hx
        cases hx
      | some w =>
        rw [q] at hx hz
        cases hx
        cases hz
        obtain ⟨s1, a, b, c⟩ := step w acc (List.mem_of_getElem? q)
        refine ⟨s1, a, ?_, fun y hy => ?_⟩
        · rw [b]
          by_cases d : p w = true
          · simp [d]
          · simp [d]
        · by_cases d : p w = true
          · have hy2 : some (fy w) = some y := by simpa [d] using hy
            cases hy2
            exact c d
          · have hy2 : (none : Option AV) = some y := by simpa [d] using hy
            cases hy2) (l.map fx).length 0 [] (by omega) (Nat.le_refl _)
  unfold dLc
  rw [ef]
  show dLcL src g tt te h1.length (wipeS s vs) (src.len h1 + 1) 0 (h1 ++ [AO.lst []]) = _
  rw [hlen, r]
  congr 3
  rw [List.drop_zero, List.nil_append, List.filterMap_map]
  have : ∀ l : List α, List.filterMap (id ∘ fun x => if p x = true then some (fy x) else none) l = (l.filter p).map fy := fun l => by
    induction l with
    | nil => rfl
    | cons a l ih =>
      by_cases d : p a = true
      · rw [List.filterMap_cons_some (b := fy a) (by simp [d]), ih, List.filter_cons_of_pos d]
        rfl
      · rw [List.filterMap_cons_none (by simp [d]), ih, List.filter_cons_of_neg d]
  rw [this]
theorem lc_map {α : Type} {f : DI} {g : DG} {te : DE} {vs : List Nat} {s : Sl} {h h1 : Hep} {l : List α} (fx fy : α → AV) (S : Sq f s h h1 (l.map fx)) (hz : l.length ≤ 100000)
    (step : ∀ (x : α) (acc : List AV), x ∈ l → ∃ s1, g (fx x) (wipeS s vs) = some s1 ∧ te s1 (h1 ++ [AO.lst acc]) = .ok (fy x) (h1 ++ [AO.lst acc])) :
    dLc f g dYes te vs s h = .ok (.ref h1.length) (h1 ++ [AO.lst (l.map fy)]) := by
  have r := lc_filt (tt := dYes) (te := te) fx fy (fun _ => true) S hz fun x acc hx => by
    obtain ⟨s1, a, b⟩ := step x acc hx
    exact ⟨s1, a, rfl, fun _ => b⟩
  rw [r, List.filter_eq_self.mpr (fun _ _ => rfl)]
end Dn
namespace Dn
open PySem PySem.Spec PyProof.Rows L2

def okK' (r : R AV) (K : AV → Hep → SR) : SR := match r with
  | .ok a h => K a h
  | _ => .stuck
def puK (s : Sl) (o : Option Hep) : SR := match o with
  | some h => .nx s h
  | none => .stuck
def hI (fo fi : DE) : DGH := fun v s h => okK' (fo s h) fun o h1 => okK' (fi s h1) fun i h2 => puK s (putAV o i v h2)
section
variable {W : Wd} {M : Md W} {E : WX} {X : Cx} {k : Nat}
end
@[simp] theorem okK_ok {a : AV} {h : Hep} {K : AV → Hep → SR} : okK' (.ok a h) K = K a h := rfl
@[simp] theorem puK_some {s : Sl} {h : Hep} : puK s (some h) = .nx s h := rfl
@[simp] theorem xhI {fo fi : DE} {v : AV} {s : Sl} {h : Hep} : hI fo fi v s h = okK' (fo s h) fun o h1 => okK' (fi s h1) fun i h2 => puK s (putAV o i v h2) := rfl
end Dn
namespace Dn
open PySem PySem.Spec PyProof.Rows L2
section
variable {W : Wd} {X : Cx}
end
end Dn
namespace Dn
open PySem PySem.Spec PyProof.Rows L2
section
variable {X : Cx} {W : Wd} {M : Md W} {E : WX} {j k t : Nat} {x : Str} {ps : List Str} {F : DF}
end
end Dn
namespace Dn
open PySem PySem.Spec PyProof.Rows L2
/-- repr(a), a a datum -/
def reprL : DL := fun as h => match as with
  | [a] => match toD DD h a with
    | some d => if d.showable = true ∧ d.hasDict = false ∧ d.shown.length ≤ SZ ∧ d.depth ≤ 60 then some (.str d.shown, h) else none
    | none => none
  | _ => none
section
variable {W : Wd} {M : Md W} {E : WX} {X : Cx}
theorem call_repr_dat (hg : X.A.guards = some []) (hu : X.A.units + 65 < cLine) : CallR X (.builtin "repr") (fun xs H Q => ∃ v d, xs = [v] ∧ Dp X.K H v d ∧ d.showable = true ∧ d.hasDict = false ∧ d.shown.length ≤ sizeLine ∧ d.depth ≤ 60 ∧ Q (.str d.shown) H) := by
  intro pins s σ H xs us Q I r h
  obtain ⟨v, d, rfl, hd, h1, h2, h3, h4, q⟩ := h
  obtain ⟨u, rfl, ru⟩ := vals1 r
  obtain ⟨as, rd⟩ := Dp.reads I d v u hd ru
  have big : ∀ {b : Addr}, u = .ref b → wpAny (model X.prog X.w) X.A (call (.builtin "repr") [.ref b]) (EP X pins σ Q) X.xe s := fun {b} e => by
    subst e
    refine PySem.repr_of_reads' rd h1 (fun z => ?_) hg (by omega) (fun _ _ z => z) (fun h' t tk k => ⟨.str d.shown, H, I.kept k, ⟨t, rfl⟩, q⟩) h3
    rw [h2] at z
    cases z
  cases rd with
  | none =>
    simp only [PyData.shown] at q
    exact PySem.P.repr_of_none ⟨.str _, H, I.tok _, ⟨_, rfl⟩, q⟩
  | bool b =>
    simp only [PyData.shown] at q
    exact PySem.P.repr_of_bool ⟨.str _, H, I.tok _, ⟨_, rfl⟩, q⟩
  | int i t =>
    simp only [PyData.shown] at q
    refine PySem.P.repr_of_int ?_ ⟨.str _, H, I.tok _, ⟨_, rfl⟩, q⟩
    simpa [PyData.showable] using h1
  | str x t =>
    simp only [PyData.shown] at q h3
    exact PySem.P.repr_of_str ⟨.str _, H, I.tok _, ⟨_, rfl⟩, q⟩ h3
  | list _ _ _ _ => exact big rfl
  | tuple _ _ _ _ => exact big rfl
  | dict _ _ _ _ _ => exact big rfl
theorem cRepr (hK : X.K = W.K) (hg : X.A.guards = some []) (hu : X.A.units + 65 < cLine) : CallR X (.builtin "repr") (tl W reprL) := call_imp (call_repr_dat hg hu) fun xs H Q ⟨io, hp, as, rl, ra, P⟩ => by
  match as, ra, P with
  | [a], ra, P =>
    obtain ⟨x, rfl, r⟩ := one_inv ra
    have P' : Pop W (RV W) Q io H (match toD DD hp a with
      | some d => if d.showable = true ∧ d.hasDict = false ∧ d.shown.length ≤ SZ ∧ d.depth ≤ 60 then some (AV.str d.shown, hp) else none
      | none => none) := P
    cases e : toD DD hp a with
    | none =>
      rw [e] at P'
      exact P'.elim
    | some d =>
      rw [e] at P'
      by_cases c : d.showable = true ∧ d.hasDict = false ∧ d.shown.length ≤ SZ ∧ d.depth ≤ 60
      · have P2 : Pop W (RV W) Q io H (if d.showable = true ∧ d.hasDict = false ∧ d.shown.length ≤ SZ ∧ d.depth ≤ 60 then some (AV.str d.shown, hp) else none) := P'
        rw [if_pos c] at P2
        exact ⟨x, d, rfl, by rw [hK]; exact toD_in rl _ _ _ _ e r, c.1, c.2.1, szL c.2.2.1, c.2.2.2, P2.ok rl (.str _)⟩
      · have P2 : Pop W (RV W) Q io H (if d.showable = true ∧ d.hasDict = false ∧ d.shown.length ≤ SZ ∧ d.depth ≤ 60 then some (AV.str d.shown, hp) else none) := P'
        rw [if_neg c] at P2
        exact P2.elim
  | [], ra, P => exact P.elim
  | _ :: _ :: _, ra, P => exact P.elim
end
end Dn
namespace Dn
open PySem PySem.Spec PyProof.Rows L2
section
variable {P : Program} {w : World} {mg : Str → Option Value} {base : Heap} {W : Wd} {x qual : Str} {params : Arguments} {body : List Stmt} {scope : Scope} {dvs : List V} {kws : List (Str × V)} {f : Addr} {fd : FuncData}
end
section
variable {W : Wd} {M : Md W} {E : WX} {X : Cx} {k j n m q : Nat} {f : Addr} {fd : FuncData} {ps ks : List Str} {F : DF} {x : Str} {p pos : Pos} {e : Expr} {es : List Expr} {kws : List Keyword} {fa fk : DA} {ix : List Nat} {dfl : List AV} {bs : Bs}
theorem run_genG {pins : List (Addr × Obj)} {σ : L2.St} {H : Hp} {s : Shared} {Q : VK} {us ws : List Value} {vs zs : List V} {sp : Sp} {g : List Value → List Value → List Value} {gV : List V → List V → List V}
    (hF : FnG X.prog X.w X.K X.mg X.base (L2.CX X.prog X.w) j f fd ps sp) (hgd : X.A.guards = some []) (hr : Room j X.A) (hb : KBn X.K fd ps n ks g gV) (tk : Takes X E)
    (I : Inv X pins σ H s) (r : Vals vs us) (rz : Vals zs ws) (l1 : vs.length = n) (l2 : zs.length = ks.length) (h : sp (gV vs zs) H Q (WE E σ)) : wpAny (model X.prog X.w) X.A (call (.ref f) us (ks.zip ws)) (EP X pins σ Q) X.xe s := by
  have r2 := hb.rel r rz
  refine wpAny_call (codeAny_mono (hF.2 X.A X.stack s H ⟨us, ks.zip ws⟩ (g us ws) (gV vs zs) Q (WE E σ) hgd hr I.env0 (hb.to s us ws I.kIn (r.length.symm.trans l1) (rz.length.symm.trans l2)) r2 h) fun r s' hq => ?_)
  cases r with
  | error e => exact passAt tk σ pins H s e s' I hq
  | ok fl =>
    cases fl with
    | ret u => exact I.after hq
    | next => exact False.elim hq
    | brk => exact False.elim hq
    | cont => exact False.elim hq
theorem callHG (H : HasG X.prog X.w X.mg X.base W j x ps n F bs) (hgd : X.A.guards = some []) (i : Nat) (hi : bs[i]? = some (m, ks, ix, dfl)) (hq : ks.length = q) (hr : Room k X.A) (hj : j ≤ k) (hK : X.K = W.K) (tk : Takes X E)
    (ha : PA X (e :: es) (tDA W M E fa)) (hkw : PK X kws (tDA W M E fk)) (hg : Gl X x := by rfl) (hall : (backToKw pos (keywordEach kws X.env)).all (·.1.isSome) = true := by rfl) (hks : (backToKw pos (keywordEach kws X.env)).filterMap (·.1) = ks := by rfl)
    (hdb : (x == ("__debug__" : Str)) = false := by decide) (he : starEach (e :: es) X.env = (false, eval e X.env) :: starEach es X.env := by rfl)
    (hpl : ((backTo pos (starEach (e :: es) X.env)).any (·.1) || (backToKw pos (keywordEach kws X.env)).any (·.1.isNone)) = false := by rfl) :
    PE X (.Call (.Name x p) (e :: es) kws pos) (tD W M E (dCallC F m q n ix dfl fa fk)) := by
  subst hq
  obtain ⟨a, fd, h1, hkp, h3, h4⟩ := H
  obtain ⟨g, gV, kb, hg2⟩ := h4 _ (List.mem_of_getElem? hi)
  rw [← hK] at hkp h3 kb
  refine ⟨fun pins s σ H Q I h => ?_⟩
  refine wpAny_Call_Name_kw (ld_glob I hg h1 ?_ hdb)
  refine PySem.W.callWith_KW (h₀ := X.base) I.ok.mod.kin hkp hall (thn (ha.run pos pins s σ H _ I (args_in h)) fun us s1 ⟨vs, H1, I1, r, q⟩ => ?_) hpl he
  refine thn (hkw.run pos pins s1 σ H1 _ I1 q) fun ws s2 ⟨zs, H2, I2, rz, l1, l2, q2⟩ => ⟨I2.kIn, ?_⟩
  rw [hks]
  exact run_genG h3 hgd (hr.mono hj) kb tk I2 r rz l1 l2 (q2 gV hg2)
end
end Dn
namespace Dn
open PySem PySem.Spec PyProof.Rows L2
section
variable {W : Wd} {M : Md W} {E : WX} {X : Cx} {e : Expr} {es : List Expr} {f : DE} {fa : DA}
end
end Dn
namespace Dn
open PySem PySem.Spec PyProof.Rows L2
section
variable {X : Cx} {e o : Expr} {te td ty : TE} {p apos cpos pos : Pos}
end
section
variable {W : Wd} {M : Md W} {E : WX} {X : Cx} {o e : Expr} {fo fe : DE} {p apos cpos pos : Pos}
end
end Dn
namespace Dn
open PySem PySem.Spec PyProof.Rows L2
/-- how many -/
def rgN (i j c : Int) : Nat := (if i < j then (j - i - 1) / c + 1 else 0).toNat
def Rg3 (i j c : Int) : Prop := 0 ≤ i ∧ i < 2 ^ 40 ∧ 0 ≤ j ∧ j < 2 ^ 40 ∧ 0 < c ∧ c < 2 ^ 20 ∧ rgN i j c ≤ SZ
instance (i j c : Int) : Decidable (Rg3 i j c) := by
  unfold Rg3
  infer_instance
section
variable {W : Wd} {M : Md W} {E : WX} {X : Cx} {tg : Expr}
end
end Dn
namespace Dn
open PySem PySem.Spec PyProof.Rows L2

/-- what a() comes to -/
abbrev DAct := Hep → R AV
/-- x(lambda: d) -/
def dLamC (F : DAct → DAct) (d : DE) : DE := fun s h => F (fun g => d s g) h
/-- a(), in the def that got the lambda -/
def dAct (act : DAct) : DE := fun _ h => act h
/-- a def of n slots that gets a lambda -/
def dHlp (n : Nat) (b : DAct → DS) : DAct → DAct := fun act h => (b act (List.replicate n none) h).fin

/-- the slots of such a def: slot 0 holds the lambda -/
def MZ (W : Wd) (f c' : Addr) (q : Str) (io0 : List Addr) (H0 : Hp) : Md W where
  rel := fun io H as σ => (std W).rel io H as σ ∧ (as[0]? = some none ∧ σ[0]? = some (some (.ref f))) ∧ H c' = some (LamX.CodeO c' q) ∧ Ext W io0 H0 io H
  mono := fun e h => ⟨(std W).mono e h.1, h.2.1, e.cod _ _ h.2.2.1, h.2.2.2.trans e⟩
  var := fun h a n => (std W).var h.1 a n
  ok := fun i => i ≠ 0
  set := fun h r hi => ⟨(std W).set h.1 r trivial, ⟨by rw [List.getElem?_set_ne hi]; exact h.2.1.1, by rw [List.getElem?_set_ne hi]; exact h.2.1.2⟩, h.2.2⟩
  wipe := fun h hi => ⟨(std W).wipe h.1 trivial, ⟨by rw [List.getElem?_set_ne hi]; exact h.2.1.1, by rw [List.getElem?_set_ne hi]; exact h.2.1.2⟩, h.2.2⟩
/-- a(), where the def runs in Xg: f the lambda, c' its code object, tl what its body asks -/
def ActP (Xg : Cx) (a : Str) (f c' : Addr) (q : Str) (tl : XK → Hp → VK → Prop) : Prop :=
  ∀ (E' : WX) (pn : List (Addr × Obj)) (xe : Value → Shared → Prop) (p1 p2 : Pos), Takes (Xg.tr pn xe) E' →
    PE (Xg.tr pn xe) (.Call (.Name a p1) [] [] p2) (fun σZ HZ Q => σZ[0]? = some (some (.ref f)) ∧ HZ c' = some (LamX.CodeO c' q) ∧ tl (WE E' σZ) HZ Q)
/-- what it comes to, in any later heap -/
def ActS (W : Wd) (io0 : List Addr) (H0 : Hp) (act : DAct) (tl : XK → Hp → VK → Prop) : Prop :=
  ∀ (E : XK) (io : List Addr) (H : Hp) (hp : Hep) (Q : VK), Ext W io0 H0 io H → Rl W io hp H → Pfn W E Q io H (act hp) → tl E H Q
theorem Pfn.st {W : Wd} {E : XK} {Q : VK} {io : List Addr} {H : Hp} {r : R AV} {σ : L2.St} (h : Pfn W E Q io H r) : Pst W (RV W) (wxE E) σ Q io H r := by
  cases r with
  | ok v hp => exact h
  | exc t fs hp => exact h
  | stuck => exact h
theorem actD {W : Wd} {Xg : Cx} {a : Str} {f c' : Addr} {q : Str} {io0 : List Addr} {H0 : Hp} {act : DAct} {tl : XK → Hp → VK → Prop} {E' : WX} {pn : List (Addr × Obj)} {xe : Value → Shared → Prop} {p1 p2 : Pos}
    (h : ActP Xg a f c' q tl) (hs : ActS W io0 H0 act tl) (tk : Takes (Xg.tr pn xe) E') : PE (Xg.tr pn xe) (.Call (.Name a p1) [] [] p2) (tD W (MZ W f c' q io0 H0) E' (dAct act)) :=
  peI (h E' pn xe p1 p2 tk) fun σ H Q ⟨io, hp, as, rl, S, P⟩ => ⟨S.2.1.2, S.2.2.1, hs _ io H hp Q S.2.2.2 rl (Pst.fn P)⟩
/-- a def of the text that calls what it gets -/
def HasL (P : Program) (w : World) (mg : Str → Option Value) (base : Heap) (W : Wd) (k : Nat) (x : Str) (gq : Bool) (F : DAct → DAct) : Prop :=
  ∃ (g : Addr) (fd : FuncData) (pg : Arguments) (bg : List Stmt) (sg : Scope) (Ng : List Str) (a : Str) (b : DAct → DS), mg x = some (.ref g) ∧ FunD W.K x x pg bg sg [] [] g fd ∧ L2.Binds W.K fd [a] [] ∧ FnScope Ng [a] sg ∧ Ng[0]? = some a ∧ Vis sg a ∧
    (a == ("__debug__" : Str)) = false ∧ (a == ("__classdict__" : Str)) = false ∧ F = dHlp Ng.length b ∧
    ∀ (cdv : Value) (A : Around) (outer : List Env) (s : Shared) (H : Hp) (E : XK), (gq = true → (A.deeper (envOfC x sg s.heap.objs.size g cdv)).guards = some []) → Room k (A.deeper (envOfC x sg s.heap.objs.size g cdv)) → Takes (cxD W P w mg base Ng x sg g cdv A outer s H E) (wxE E) →
      ∀ (f c' : Addr) (q : Str) (io0 : List Addr) (H0 : Hp) (act : DAct) (tl : XK → Hp → VK → Prop), ActP (cxD W P w mg base Ng x sg g cdv A outer s H E) a f c' q tl → ActS W io0 H0 act tl →
        PSs (cxD W P w mg base Ng x sg g cdv A outer s H E) bg (tS W (MZ W f c' q io0 H0) (wxE E) (b act))

/-- all but the tables stay, the tables are such as before: our objects stay -/
theorem extN {W : Wd} {io : List Addr} {hp : Hep} {H H1 : Hp} (rl : Rl W io hp H) (e : LamX.ExtN H H1) (t : LamX.Tabs W.T H1) : Rl W io hp H1 ∧ Ext W io H io H1 := by
  have ex : Ext W io H io H1 := ⟨⟨[], by simp⟩, fun a xs h => by
      rcases h with (h | ⟨o, h⟩) | h
      · exact .inl (.inl (e _ _ h (fun ps z => by cases z)))
      · exact .inl (.inr ⟨o, e _ _ h (fun ps z => by cases z)⟩)
      · exact .inr h, fun a xs h => by
      rcases h with ⟨o, h⟩ | h
      · exact .inl ⟨o, e _ _ h (fun ps z => by cases z)⟩
      · exact .inr h, fun a fs h => e _ _ h (fun ps z => by cases z), fun a o u h => e _ _ h (fun ps z => by cases z), fun a u h => e _ _ h (fun ps z => by cases z), fun _ => t⟩
  refine ⟨⟨rl.len, rl.nd, fun i a o hi h => ?_, t⟩, ex⟩
  obtain ⟨u, eu, r⟩ := rl.ob i a o hi h
  refine ⟨u, e _ _ eu fun ps z => ?_, r.mono ex⟩
  subst z
  cases r

section
variable {X : Cx} {pins : List (Addr × Obj)} {σ : L2.St} {H HZ : Hp} {s s1 : Shared} {W : Wd}
open LamX
/-- a(), in the def that got the lambda; as LamX.pe_act, for what is let out at these slots -/
theorem pe_actZ {Ng : List Str} {qg : Str} {sg : Scope} {g f c' : Addr} {cdg pm ctv : Value} {params : Arguments} {body : Expr} {scope : Scope} {k : Nat} {a : Str} {pn : List (Addr × Obj)} {xe : Value → Shared → Prop} {E' : WX} {Eg : XK} {t : XK → TE} {p1 p2 : Pos}
    (I : Inv X pins σ H s) (L : LamS X.env.scope scope) (hf : s.heap.get? f = some (PySem.W.kla_obj "<lambda>" (X.env.qual ++ "<lambda>") params body scope (cloFrom X.env.cells scope.names []) pm c' ctv)) (hfn : H f = none) (hfr : f ∉ frs X.stack)
    (hbind : bindArgs (PySem.W.kla_fn "<lambda>" (X.env.qual ++ "<lambda>") params body scope (cloFrom X.env.cells scope.names []) pm (.ref c') ctv) ⟨[], []⟩ = pure [])
    (hK : X.K = W.K) (tk : Takes ((cxD W X.prog X.w X.mg X.base Ng qg sg g cdg X.A X.stack s H Eg).tr pn xe) E') (hr : Room (k + 1) (X.A.deeper (envOfC qg sg s.heap.objs.size g cdg)))
    (hbody : ∀ (A : Around) (outer : List Env) (s : Shared) (H : Hp) (E : XK), Room k (A.deeper (lamEnv X scope s.heap.objs.size f c')) → PE (lamCx X A outer s H E scope f c') body (t E))
    (hN : Ng[0]? = some a) (hv : Vis sg a) (hd : (a == ("__debug__" : Str)) = false) (hcd : (a == ("__classdict__" : Str)) = false) :
    PE ((cxD W X.prog X.w X.mg X.base Ng qg sg g cdg X.A X.stack s H Eg).tr pn xe) (.Call (.Name a p1) [] [] p2)
      (fun σZ HZ Q => σZ[0]? = some (some (.ref f)) ∧ HZ c' = some (CodeO c' (X.env.qual ++ "<lambda>")) ∧ t (WE E' σZ) σ HZ Q) := by
  refine ⟨fun pinsZ sZ σZ HZ Q IZ h => ?_⟩
  obtain ⟨hs, hc, ht⟩ := h
  refine wpAny_Call_Name_kw (thn ((pe_var (pos := p1) (i := 0) hN hv hd hcd).run pinsZ sZ σZ HZ (fun v H1 => v = .ref f ∧ H1 = HZ) IZ ⟨.ref f, hs, rfl, rfl⟩) fun u s1 ⟨v, H1, I1, r1, q1⟩ => ?_)
  obtain ⟨ev, eH⟩ := q1
  subst ev
  rw [eH] at I1
  obtain rfl : u = Value.ref f := r1
  have of1 : s1.heap.get? f = some (PySem.W.kla_obj "<lambda>" (X.env.qual ++ "<lambda>") params body scope (cloFrom X.env.cells scope.names []) pm c' ctv) := I1.base.keep f _ hf hfn hfr (fun z => nomatch (show f ∈ ([] : List Addr) from z))
  refine PySem.W.callWith_F0 ⟨_, _, _, _, of1⟩ ?_
  have un : Un (frs X.stack) [] H HZ s.heap s1.heap := I1.base
  obtain ⟨⟨oc, vs, t0, hoc, hdc, hvc⟩, _, _⟩ := I1.hok c' _ hc
  have rc : codeAny (model X.prog X.w) (X.A.deeper (envOfC qg sg s.heap.objs.size g cdg)) (.call (.ref f) ⟨[], []⟩) (CR (L2.CX X.prog X.w) (envOfC qg sg s.heap.objs.size g cdg :: X.stack) X.prog X.w HZ s1 Q (WE E' σZ)) s1 := by
    refine PySem.W.kla_callFunE hr.depth of1 rfl L.co L.gen rfl ⟨c', oc, vs, t0, rfl, hoc, hdc, hvc⟩ ?_
    rw [hbind]
    refine wpAny_pure (wpAny_newFunctionEnv (fun y hy => (L.own y hy).2) (fun y hy => absurd hy (by simp)) (fun h₁ hns hsb => ⟨I1.nolimit.fresh _ hsb, ?_⟩) L.kind)
    show codeAny _ _ (.expr body (lamEnv X scope s1.heap.objs.size f c')) _ _
    have kp : ∀ b o, s1.heap.get? b = some o → h₁.get? b = some o := fun b o e => hsb.extBut b o (Nat.ne_of_lt (Heap.lt_size e)) (Heap.get?_push_of_some _ e)
    have e0 : Env0 X.prog X.w X.K X.mg X.base (X.A.deeper (envOfC qg sg s.heap.objs.size g cdg)) (envOfC qg sg s.heap.objs.size g cdg :: X.stack) s1 HZ := by
      rw [hK]
      exact I1.env0
    have J : Inv (lamCx X (X.A.deeper (envOfC qg sg s.heap.objs.size g cdg)) (envOfC qg sg s.heap.objs.size g cdg :: X.stack) s1 HZ (WE E' σZ) scope f c') [] σ HZ { s1 with heap := h₁, toks := s1.toks + ([] : List (Str × Value)).length } :=
      lam_start2 I L e0 hr.hd un hns kp
    refine PySem.W.kla_codeExpr (wpAny_mono ((hbody _ _ s1 HZ _ (hr.deeper _)).run [] _ _ HZ Q J ht) (fun v s' hq => ?_) fun e s' hq => hq)
    obtain ⟨w', H', J', rv, q⟩ := hq
    exact ⟨w', H', J'.os, J'.bare, J'.base, J'.hok, rv, q⟩
  refine wpAny_call (codeAny_mono rc fun r s' hq => ?_)
  cases r with
  | error e => exact passAt tk σZ pinsZ HZ s1 e s' I1 hq
  | ok fl =>
    cases fl with
    | ret u => exact I1.after hq
    | next => exact False.elim hq
    | brk => exact False.elim hq
    | cont => exact False.elim hq
end
section
variable {X : Cx} {W : Wd} {M : Md W} {E : WX}
open LamX
/-- x(lambda: body) -/
theorem lamD {x : Str} {c P : Addr} {j k kb : Nat} {params : Arguments} {body : Expr} {scope : Scope} {F : DAct → DAct} {gq : Bool} {d : DE} {p lpos pos : Pos} (hL : HasL X.prog X.w X.mg X.base W j x gq F) (hgq : gq = true → X.A.guards = some []) (hK : X.K = W.K) (hg : Gl X x) (tk : Takes X E)
    (TB : TabB X.base X.mg c P) (hcode : X.env.code = .ref c) (hmT : (P, X.env.qual ++ "<lambda>") ∈ W.T) (hu : ∀ p ∈ W.T, p.1 = P → p.2 = X.env.qual ++ "<lambda>") (hr : Room k X.A) (hj : j + 1 ≤ k) (hkb : kb + 2 ≤ k) (L : LamS X.env.scope scope) (hdef : defaultsOf params X.env = ([], []))
    (hbind : ∀ (q : Str) (cl : List (Str × Addr)) (pm cv ctv : Value), bindArgs (PySem.W.kla_fn "<lambda>" q params body scope cl pm cv ctv) ⟨[], []⟩ = pure [])
    (hbody : ∀ (A : Around) (outer : List Env) (s : Shared) (H : Hp) (E1 : XK) (f c' : Addr), Room kb (lamCx X A outer s H E1 scope f c').A → Takes (lamCx X A outer s H E1 scope f c') (wxE E1) → PE (lamCx X A outer s H E1 scope f c') body (tD W M (wxE E1) d))
    (hdb : (x == ("__debug__" : Str)) = false := by decide) :
    PE X (.Call (.Name x p) [.Lambda params body scope lpos] [] pos) (tD W M E (dLamC F d)) := by
  obtain ⟨g, fd, pg, bg, sg, Ng, a, b, hm, FD, hb, Sg, hNg, hva, hd, hcd, rfl, hG⟩ := hL
  obtain ⟨oc, od, dV, kV, doc, pm, an, cdv, ct, osl, rfl, lk, hcg, _, _⟩ := FD.ex
  have hk : PySem.W.keepIn X.K (.ref g) = true := by
    rw [hK]
    exact FD.kp
  refine ⟨fun pins s σ H Q I h => ?_⟩
  obtain ⟨io, hp, as, rl, S, P0⟩ := h
  refine wpAny_Call_Name_kw (ld_glob I hg hm ?_ hdb)
  refine PySem.W.callWith_K (h₀ := X.base) I.ok.mod.kin hk ?_ (by rfl) (by rfl)
  show wpAny _ _ (spliced ((false, eval (.Lambda params body scope lpos) X.env) :: backTo pos (starEach [] X.env))) _ _ s
  refine Calls.spliced_cons (lam_make2 I TB hcode hmT hu rl.tb hdef (L.has I.ok) fun f c' pm' ctv H1 s' I1 eN T1 hf hfn hfr hco => ?_)
  refine Calls.spliced_nil ⟨I1.kIn, ?_⟩
  obtain ⟨rl1, e1⟩ := extN rl eN T1
  have S1 := M.mono e1 S
  have P1 := Pst.later P0 e1
  have kI : W.K.In s'.heap := by
    have := I1.kIn
    rw [hK] at this
    exact this
  have e0 : Env0 X.prog X.w W.K X.mg X.base X.A X.stack s' H1 := by
    rw [← hK]
    exact I1.env0
  have rc : codeAny (model X.prog X.w) X.A (.call (.ref g) ⟨[.ref f], []⟩) (CR (L2.CX X.prog X.w) X.stack X.prog X.w H1 s' Q (WE E σ)) s' := by
    obtain ⟨k', rfl⟩ : ∃ k', k = k' + 1 := ⟨k - 1, by omega⟩
    refine LamX.run_ofS (K := W.K) (N := Ng) (ps := [a]) (us := [.ref f]) (vs := [.ref f]) lk hcg Sg hr e0 (hb s' [.ref f] kI rfl) (.cons rfl .nil) rfl fun hr' => ?_
    refine ⟨_, hG cdv X.A X.stack s' H1 (WE E σ) hgq (hr'.mono (by omega)) (takes_of rfl rfl rfl rfl) f c' (X.env.qual ++ "<lambda>") io H1 (fun g => d as g) (fun E1 H' Q' => tD W M (wxE E1) d σ H' Q') ?_ ?_, ?_⟩
    · intro E' pn xe p1 p2 tk'
      exact pe_actZ (k := k' - 1) (t := fun E1 => tD W M (wxE E1) d) I1 L hf hfn hfr (hbind _ _ _ _ _) hK tk' (hr'.mono (by omega)) (fun A outer s H E1 hr2 => hbody A outer s H E1 f c' (hr2.mono (by omega)) (takes_of rfl rfl rfl rfl)) hNg hva hd hcd
    · intro E1 io' H' hp' Q' e' rl' P'
      exact ⟨io', hp', as, rl', M.mono e' S1, Pfn.st P'⟩
    · refine ⟨io, hp, List.replicate Ng.length none, rl1, ⟨⟨by
        obtain ⟨hl, _⟩ := List.getElem?_eq_some_iff.mp hNg
        simp [L2.start]
        omega, fun i v z => ?_⟩, ⟨?_, ?_⟩, hco, Ext.refl⟩, ?_⟩
      · rw [List.getElem?_replicate] at z
        split at z <;> cases z
      · obtain ⟨hl, _⟩ := List.getElem?_eq_some_iff.mp hNg
        rw [List.getElem?_replicate, if_pos hl]
      · cases Ng with
        | nil => cases hNg
        | cons n r => rfl
      · have P2 : Pst W (RV W) E σ Q io H1 ((b (fun g => d as g) (List.replicate Ng.length none) hp).fin) := P1
        cases e : b (fun g => d as g) (List.replicate Ng.length none) hp with
        | nx s h =>
          rw [e] at P2
          exact fun io' H' σ' e' rl' _ => P2 io' H' .non e' rl' .non
        | rt s h =>
          rw [e] at P2
          exact P2
        | bk s h =>
          rw [e] at P2
          exact P2.elim
        | ct s h =>
          rw [e] at P2
          exact P2.elim
        | exc t fs s h =>
          rw [e] at P2
          exact fun io' H' σ' cls d e' rl' _ rx => P2 io' H' cls d e' rl' rx
        | stuck =>
          rw [e] at P2
          exact P2
  refine wpAny_call (codeAny_mono rc fun r s2 hq => ?_)
  cases r with
  | error e => exact passAt tk σ pins H1 s' e s2 I1 hq
  | ok fl =>
    cases fl with
    | ret u => exact I1.after hq
    | next => exact False.elim hq
    | brk => exact False.elim hq
    | cont => exact False.elim hq
end
/-- the same where nothing is being shown -/
theorem fnDLG {P : Program} {w : World} {mg : Str → Option Value} {base : Heap} {W : Wd} {x qual : Str} {params : Arguments} {body : List Stmt} {scope : Scope} {dvs : List V} {kws : List (Str × V)} {f : Addr} {fd : FuncData} {N ps : List Str} {k n : Nat} {b : DS} {c : Addr}
    (F : FunD W.K x qual params body scope dvs kws f fd) (S : FnScope N ps scope) (hn : ps.length = n) (hc : fd.code = .ref c)
    (hb : ∀ (A : Around) (outer : List Env) (s : Shared) (H : Hp) (E : XK), (A.deeper (envOfC qual scope s.heap.objs.size f (.ref c))).guards = some [] → Room k (A.deeper (envOfC qual scope s.heap.objs.size f (.ref c))) → Takes (cxD W P w mg base N qual scope f (.ref c) A outer s H E) (wxE E) →
      PSs (cxD W P w mg base N qual scope f (.ref c) A outer s H E) body (tS W (std W) (wxE E) b)) : FnG P w W.K mg base (L2.CX P w) (k + 1) f fd ps (spD W n (dFun N.length b)) := by
  obtain ⟨⟨oc, od, dV, kV, doc, pm, an, cdv, ct, osl, rfl, lk, hcd, d1, d2⟩, kp⟩ := F
  have hc : cdv = .ref c := hc
  subst hc
  have lenS : ∀ vs H Q E, spD W n (dFun N.length b) vs H Q E → vs.length = ps.length := fun vs H Q E ⟨io, hp, as, hl, _, r, _⟩ => by
    rw [← r.len, hl, hn]
  refine ⟨lenS, fun A outer s H args us vs Q E hg hr e0 hbd r hsp => LamX.run_ofS lk hcd S hr e0 hbd r (lenS _ _ _ _ hsp) fun hr' => ⟨_, hb A outer s H E hg hr' (takes_of rfl rfl rfl rfl), ?_⟩⟩
  · obtain ⟨io, hp, as, hl, rl, r, P⟩ := hsp
    refine ⟨io, hp, dStart N.length as, rl, start_rel r rfl, ?_⟩
    unfold dFun at P
    cases e : b (dStart N.length as) hp with
    | nx s h =>
      rw [e] at P
      exact fun io' H' σ' e' rl' _ => P io' H' .non e' rl' .non
    | rt s h =>
      rw [e] at P
      exact P
    | bk s h =>
      rw [e] at P
      exact P.elim
    | ct s h =>
      rw [e] at P
      exact P.elim
    | exc t fs s h =>
      rw [e] at P
      exact fun io' H' σ' cls d e' rl' _ rx => P io' H' cls d e' rl' rx
    | stuck =>
      rw [e] at P
      exact P
end Dn
namespace Dn
open PySem PySem.Spec PyProof.Rows L2
/-- as many slots as names -/
def ML {W : Wd} (B : Md W) : Prop := ∀ {io : List Addr} {H : Hp} {as : Sl} {σ : L2.St}, B.rel io H as σ → as.length = σ.length
theorem ml_mz {W : Wd} {f c' : Addr} {q : Str} {io0 : List Addr} {H0 : Hp} : ML (MZ W f c' q io0 H0) := fun h => h.1.1
section
variable {W : Wd} {B : Md W} {X : Cx} {T : XT}
/-- the wish of the clauses -/
def wiG {W : Wd} (B : Md W) (T : XT) (E : WX) (hs : Hds) (D : Ends) : WX := fun cls d σ H => ∃ io hp as t fs, Rl W io hp H ∧ B.rel io H as σ ∧ RX W io H t fs cls d ∧ T.n ≤ t ∧ t < T.m ∧ Pss W B E D io H (pickH T t fs as hp hs)
theorem exG_in (bl : ML B) {i t : Nat} {fs : List (Nat × AV)} {a : Addr} {d : Option Addr} {io : List Addr} {H : Hp} {as : Sl} {σ : L2.St} (S : B.rel io H as σ) (hi : i < as.length) (ho : B.ok i) (rx : RXf W io H fs d) :
    (exG B i t fs a d).rel io H (as.set i (some (.exn t fs))) (σ.set i (some (.ref a))) := by
  have hl : as.length = σ.length := bl S
  refine ⟨⟨by simp [hl], List.getElem?_set_self (by rw [← hl]; exact hi), List.getElem?_set_self hi⟩, ?_, rx⟩
  rw [List.set_set, List.set_set]
  exact B.wipe S ho
theorem exG_out {i t : Nat} {fs : List (Nat × AV)} {a : Addr} {d : Option Addr} {io : List Addr} {H : Hp} {as : Sl} {σ : L2.St} (S : (exG B i t fs a d).rel io H as σ) : B.rel io H (as.set i none) (σ.set i none) := S.2.1
theorem PssWipG {E : WX} {D : Ends} {io : List Addr} {H : Hp} {i t : Nat} {fs : List (Nat × AV)} {a : Addr} {d : Option Addr} {r : SR} (P : Pss W B E D io H (r.wip i)) :
    Pss W (exG B i t fs a d) E0x ⟨fun σ' H' => D.nx (σ'.set i none) H', D.rt, fun σ' H' => D.bk (σ'.set i none) H', fun σ' H' => D.ct (σ'.set i none) H'⟩ io H r := by
  cases r with
  | nx s h => exact fun io' H' σ' e rl S => P io' H' _ e rl (exG_out S)
  | bk s h => exact fun io' H' σ' e rl S => P io' H' _ e rl (exG_out S)
  | ct s h => exact fun io' H' σ' e rl S => P io' H' _ e rl (exG_out S)
  | rt v h => exact P
  | exc t fs s h => exact P.elim
  | stuck => exact P
theorem hd_okG (bl : ML B) {E : WX} (w : XWd W T) (hK : X.K = W.K) (hs' : X.stack = X.env :: X.outer) (hf : X.env.frame = some X.env.locals) (tk : Takes X E) {hds : List ExceptHandler} {hs : Hds} (h : HdG B X T hds hs) (D : Ends) : Cls_ X D hds (wiG B T E hs D) := by
  induction h with
  | nil => exact cls_nil hf (tk.imp fun cls d σ H ⟨io, hp, as, t, fs, rl, S, rx, _, _, P⟩ => P io H σ cls d Ext.refl rl S rx)
  | @only x c f b₀ suite np pos hds hs hc h1 h2 hsu r ih =>
    refine cls_only (ts := fun _ _ _ => tS W B E0x f) (w' := wiG B T E hs D) hs' hf hc (fun a oe cls d pn _ _ => hsu a oe pn) (fun cls d σ H ⟨io, hp, as, t, fs, rl, S, rx, t1, t2, P⟩ => ?_) ih
    obtain ⟨rc, rx2⟩ := rx
    subst rc
    refine ⟨T.sub t c, by rw [hK]; exact w.exm t c t1 t2 h1 h2, fun hb a na => ⟨io, hp, as, rl, S, ?_⟩, fun hb => ⟨io, hp, as, t, fs, rl, S, ⟨rfl, rx2⟩, t1, t2, ?_⟩⟩
    · unfold pickH at P
      rw [hb] at P
      exact PssE0 P
    · unfold pickH at P
      rw [hb] at P
      exact P
  | @as x n i c f b₀ suite np pos hds hs hc h1 h2 hB hN hi hl hsu r ih =>
    refine cls_as (ts := fun a cls d D' σ H => ∃ t fs, T.n ≤ t ∧ t < T.m ∧ cls = .ref (W.cl t) ∧ tS W (exG B i t fs a d) E0x f D' σ H) (w' := wiG B T E hs D) hs' hf hN hi hl hc (fun a oe cls d pn z1 z2 => ⟨fun pins s σ H D' I ⟨t, fs, t1, t2, ec, q⟩ => ?_⟩) (fun cls d σ H ⟨io, hp, as, t, fs, rl, S, rx, t1, t2, P⟩ => ?_) ih
    · subst ec
      exact (hsu a oe pn t fs d t1 t2 z1 z2).run pins s σ H D' I q
    · obtain ⟨rc, rx2⟩ := rx
      subst rc
      refine ⟨T.sub t c, by rw [hK]; exact w.exm t c t1 t2 h1 h2, fun hb a na => ?_, fun hb => ⟨io, hp, as, t, fs, rl, S, ⟨rfl, rx2⟩, t1, t2, ?_⟩⟩
      · unfold pickH at P
        rw [hb] at P
        have P2 : Pss W B E D io H (if i < as.length then (f (as.set i (some (.exn t fs))) hp).wip i else .stuck) := P
        by_cases hl2 : i < as.length
        · rw [if_pos hl2] at P2
          exact ⟨t, fs, t1, t2, rfl, io, hp, _, rl, exG_in bl S hl2 hB rx2, PssWipG P2⟩
        · rw [if_neg hl2] at P2
          exact P2.elim
      · unfold pickH at P
        rw [hb] at P
        exact P
theorem sTryG (bl : ML B) {E : WX} {body : List Stmt} {h₀ : ExceptHandler} {hds : List ExceptHandler} {hs : Hds} {fb : DS} {pos : Pos} (w : XWd W T) (hK : X.K = W.K) (hs' : X.stack = X.env :: X.outer) (hf : X.env.frame = some X.env.locals) (tk : Takes X E)
    (hb : ∀ (E' : WX) (pn : List (Addr × Obj)) (xe : Value → Shared → Prop), Takes (X.tr pn xe) E' → PassesOwn (model X.prog X.w) X.A X.env xe → PSs (X.tr pn xe) body (tS W B E' fb)) (hd : HdG B X T (h₀ :: hds) hs) :
    PS X (.Try body (h₀ :: hds) [] [] pos) (tS W B E (dTry T fb hs)) := psI (ps_tryG (tb := fun w' => tS W B w' fb) (wi := wiG B T E hs) hs' hf hb (hd_okG bl w hK hs' hf tk hd)) fun D σ H ⟨io, hp, as, rl, S, P⟩ => by
  refine ⟨io, hp, as, rl, S, ?_⟩
  unfold dTry at P
  cases z : fb as hp with
  | exc t fs s1 h1 =>
    rw [z] at P
    have P2 : Pss W B E D io H (if T.n ≤ t ∧ t < T.m then pickH T t fs s1 h1 hs else .stuck) := P
    by_cases ht : T.n ≤ t ∧ t < T.m
    · rw [if_pos ht] at P2
      exact fun io' H' σ' cls d e rl' S' rx => ⟨io', h1, s1, t, fs, rl', S', rx, ht.1, ht.2, Pss.later P2 e⟩
    · rw [if_neg ht] at P2
      exact P2.elim
  | nx s h =>
    rw [z] at P
    exact P
  | rt v h =>
    rw [z] at P
    exact P
  | bk s h =>
    rw [z] at P
    exact P
  | ct s h =>
    rw [z] at P
    exact P
  | stuck =>
    rw [z] at P
    exact P
end
section
variable {W : Wd} {B : Md W} {X : Cx} {T : XT} {E : WX} {a : Addr} {oe : Obj} {pn : List (Addr × Obj)} {i j t : Nat} {fs : List (Nat × AV)} {d : Option Addr} {x nm : Str} {p pos : Pos}
theorem xfDG (w : XWd W T) (hK : X.K = W.K) (h1 : T.n ≤ t) (h2 : t < T.m) (hz : Zc (.ref (W.cl t)) d oe) (hf : ∃ vs, oe.data = .fields vs) (hj : W.fn[j]? = some nm) (he : PE (X.suite a ((a, oe) :: pn)) (.Name x p) (tVar i)) (hb : attributeBase (.Name x p) nm X.env (eval (.Name x p) X.env) = eval (.Name x p) X.env := by rfl) :
    PE (X.suite a ((a, oe) :: pn)) (.Attribute (.Name x p) nm pos) (tD W (exG B i t fs a d) E (dXf i j)) := by
  have xf := w.xf t h1 h2
  have no := w.no t nm h1 h2 (List.mem_of_getElem? hj)
  rw [← hK] at xf no
  refine peI (pe_xf xf no hz hf he hb) fun σ H Q ⟨io, hp, as, rl, S, P⟩ => ?_
  obtain ⟨⟨_, s2, s3⟩, _, s5⟩ := S
  unfold dXf at P
  rw [s3] at P
  refine ⟨.ref a, s2, rfl, rfl, ?_⟩
  cases z : fget fs j with
  | none =>
    have P2 : Pst W (RV W) E σ Q io H (match fget fs j with
      | some v => .ok v hp
      | none => .stuck) := P
    rw [z] at P2
    exact P2.elim
  | some v =>
    have P2 : Pst W (RV W) E σ Q io H (match fget fs j with
      | some v => .ok v hp
      | none => .stuck) := P
    rw [z] at P2
    rcases s5 with ⟨rfl, _⟩ | ⟨dd, vs, e1, e2, e3⟩
    · cases z
    · obtain ⟨y, l, ry⟩ := e3.get hj z
      exact ⟨dd, vs, y, e1, e2, l, P2.ok rl ry⟩
theorem isXDG {n : String} {xc : Str} {p2 p3 : Pos} (w : XWd W T) (hK : X.K = W.K) (h1 : T.n ≤ t) (h2 : t < T.m) (hz : Zc (.ref (W.cl t)) d oe) (hf : ∃ vs, oe.data = .fields vs) (hm : X.mg "isinstance" = none) (he : PE (X.suite a ((a, oe) :: pn)) (.Name x p) (tVar i)) (hm2 : X.mg xc = none) (hv : bootBuiltins xc = some (.type n))
    (hg : Gl X "isinstance" := by rfl) (hg2 : Gl X xc := by rfl) (hn : xc ≠ "__name__" := by decide) (hdb : (xc == ("__debug__" : Str)) = false := by decide)
    (hs : starEach [.Name x p, .Name xc p2] X.env = (false, eval (.Name x p) X.env) :: starEach [.Name xc p2] X.env := by rfl) (hs2 : starEach [.Name xc p2] X.env = (false, eval (.Name xc p2) X.env) :: starEach [] X.env := by rfl) (hpl : (backTo pos (starEach [.Name xc p2] X.env)).any (·.1) = false := by rfl) :
    PE (X.suite a ((a, oe) :: pn)) (.Call (.Name "isinstance" p3) [.Name x p, .Name xc p2] [] pos) (tD W (exG B i t fs a d) E (dIsX T i n)) := by
  have cr : CallR (X.suite a ((a, oe) :: pn)) (.builtin "isinstance") (fun xs H Q => ∃ (b : Bool), xs = [.ref a, .ty n] ∧ PySem.W.kitOne X.K (.ref (W.cl t)) (.type n) = some b ∧ (d = none ∨ ∃ dd vs, d = some dd ∧ H dd = some (.xd vs)) ∧ Q (.bl b) H) := by
    intro pins s σ H xs us Q I r h
    obtain ⟨b, rfl, e, hd, q⟩ := h
    cases r with
    | cons rx rr =>
      cases rr with
      | cons rt rr =>
        cases rr
        cases rx
        cases rt
        obtain ⟨hget, _⟩ := I.pin (a, oe) (List.mem_append.mpr (.inl List.mem_cons_self))
        obtain ⟨vs, hv⟩ := hf
        have ec := w.ec t h1 h2
        rw [← hK] at ec
        have hcl : (PySem.W.clsIn X.K (W.cl t)).isSome = true := by
          obtain ⟨cd, hc, _⟩ := PySem.W.any_some ec.hd
          rw [hc]
          rfl
        obtain ⟨od, J⟩ : ∃ od, PySem.W.InstAt s.heap a oe (W.cl t) od := by
          rcases hd with rfl | ⟨dd, ws, rfl, hdd⟩
          · exact ⟨none, hget, hz.1, by unfold PySem.W.notCls; rw [hv] <;> rfl, by rw [hz.2]; trivial⟩
          · have hx : ObjOk X.prog X.w H s.heap dd (.xd ws) := I.hok dd _ hdd
            obtain ⟨mA, hns, _⟩ := hx
            obtain ⟨o, ho, _⟩ := lookIn_ns hns
            exact ⟨some o, hget, hz.1, by unfold PySem.W.notCls; rw [hv] <;> rfl, by rw [hz.2]; exact ho⟩
        exact PySem.W.kia_one (PySem.W.kitx_exc hcl ec.hg ec.hk ec.hs ec.ha ec.hn ec.ht ec.hm) I.kIn J e (fun z => nomatch z) fun tk => ⟨.bl b, H, I.kept (t' := tk) fun _ _ z => z, rfl, q⟩
  have ta : PA (X.suite a ((a, oe) :: pn)) [.Name x p, .Name xc p2] (tCons (tVar i) (tCons (tC (.ty n)) tNil)) := pa_cons he (pa_cons (pe_bltn hg2 hm2 hv (v := .ty n) rfl hn hdb) pa_nil (by exact hs2)) (by exact hs)
  refine peI (pe_callB cr hg hm PyProof.Rows.Boot.«isinstance» ta (by decide) (by decide) (by exact hs) (by exact hpl)) fun σ H Q ⟨io, hp, as, rl, S, P⟩ => ?_
  obtain ⟨⟨_, s2, s3⟩, _, s5⟩ := S
  unfold dIsX at P
  rw [s3] at P
  have P2 : Pst W (RV W) E σ Q io H (match tyLook T.ty t n with
    | some b => .ok (.bl b) hp
    | none => .stuck) := P
  cases z : tyLook T.ty t n with
  | none =>
    rw [z] at P2
    exact P2.elim
  | some b =>
    rw [z] at P2
    have e := w.ty _ (tyLook_in z)
    rw [← hK] at e
    refine ⟨.ref a, s2, b, rfl, e, ?_, P2.ok rl (.bl b)⟩
    rcases s5 with ⟨_, h⟩ | ⟨dd, vs, h, h', _⟩
    · exact .inl h
    · exact .inr ⟨dd, vs, h, h'⟩
def isOK (T : XT) (c : Nat) (o : Option (Option AV)) (h : Hep) : R AV := match o with
  | some (some (.exn t _)) => .ok (.bl (T.sub t c)) h
  | _ => .stuck
/-- isinstance(e, C), e a caught exception, C a class of the text -/
def dIsO (T : XT) (i c : Nat) : DE := fun s h => isOK T c s[i]? h
def XOk (W : Wd) (T : XT) (c : Nat) : Prop := ∀ t, T.n ≤ t → t < T.m → PySem.W.kitOne W.K (.ref (W.cl t)) (.ref (W.cl c)) = some (T.sub t c)
theorem xoB_ok {cs : List Str} {c : Nat} (hc : W.cl = clOf W.K cs) (h : xoB cs T c W.K = true) : XOk W T c := fun t a b => by
  have z := of_decide_eq_true (allN_ok h (t - T.n) (by omega))
  rw [show T.n + (t - T.n) = t by omega, ← hc] at z
  exact z
theorem isOD {cc : Nat} {xc : Str} {p2 p3 : Pos} (ho : XOk W T cc) (w : XWd W T) (hK : X.K = W.K) (h1 : T.n ≤ t) (h2 : t < T.m) (hz : Zc (.ref (W.cl t)) d oe) (hf : ∃ vs, oe.data = .fields vs) (hm : X.mg "isinstance" = none) (he : PE (X.suite a ((a, oe) :: pn)) (.Name x p) (tVar i)) (hm2 : X.mg xc = some (.ref (W.cl cc)))
    (hg : Gl X "isinstance" := by rfl) (hg2 : Gl X xc := by rfl) (hn : xc ≠ "__name__" := by decide) (hdb : (xc == ("__debug__" : Str)) = false := by decide)
    (hs : starEach [.Name x p, .Name xc p2] X.env = (false, eval (.Name x p) X.env) :: starEach [.Name xc p2] X.env := by rfl) (hs2 : starEach [.Name xc p2] X.env = (false, eval (.Name xc p2) X.env) :: starEach [] X.env := by rfl) (hpl : (backTo pos (starEach [.Name xc p2] X.env)).any (·.1) = false := by rfl) :
    PE (X.suite a ((a, oe) :: pn)) (.Call (.Name "isinstance" p3) [.Name x p, .Name xc p2] [] pos) (tD W (exG B i t fs a d) E (dIsO T i cc)) := by
  have cr : CallR (X.suite a ((a, oe) :: pn)) (.builtin "isinstance") (fun xs H Q => ∃ (b : Bool), xs = [.ref a, .ref (W.cl cc)] ∧ PySem.W.kitOne X.K (.ref (W.cl t)) (.ref (W.cl cc)) = some b ∧ (d = none ∨ ∃ dd vs, d = some dd ∧ H dd = some (.xd vs)) ∧ Q (.bl b) H) := by
    intro pins s σ H xs us Q I r h
    obtain ⟨b, rfl, e, hd, q⟩ := h
    cases r with
    | cons rx rr =>
      cases rr with
      | cons rt rr =>
        cases rr
        cases rx
        cases rt
        obtain ⟨hget, _⟩ := I.pin (a, oe) (List.mem_append.mpr (.inl List.mem_cons_self))
        obtain ⟨vs, hv⟩ := hf
        have ec := w.ec t h1 h2
        rw [← hK] at ec
        have hcl : (PySem.W.clsIn X.K (W.cl t)).isSome = true := by
          obtain ⟨cd, hc, _⟩ := PySem.W.any_some ec.hd
          rw [hc]
          rfl
        obtain ⟨od, J⟩ : ∃ od, PySem.W.InstAt s.heap a oe (W.cl t) od := by
          rcases hd with rfl | ⟨dd, ws, rfl, hdd⟩
          · exact ⟨none, hget, hz.1, by unfold PySem.W.notCls; rw [hv] <;> rfl, by rw [hz.2]; trivial⟩
          · have hx : ObjOk X.prog X.w H s.heap dd (.xd ws) := I.hok dd _ hdd
            obtain ⟨mA, hns, _⟩ := hx
            obtain ⟨o, ho, _⟩ := lookIn_ns hns
            exact ⟨some o, hget, hz.1, by unfold PySem.W.notCls; rw [hv] <;> rfl, by rw [hz.2]; exact ho⟩
        exact PySem.W.kia_one (PySem.W.kitx_exc hcl ec.hg ec.hk ec.hs ec.ha ec.hn ec.ht ec.hm) I.kIn J e (fun z => nomatch z) fun tk => ⟨.bl b, H, I.kept (t' := tk) fun _ _ z => z, rfl, q⟩
  have ta : PA (X.suite a ((a, oe) :: pn)) [.Name x p, .Name xc p2] (tCons (tVar i) (tCons (tC (.ref (W.cl cc))) tNil)) := pa_cons he (pa_cons (pe_glob (v := .ref (W.cl cc)) hg2 hm2 rfl hdb) pa_nil (by exact hs2)) (by exact hs)
  refine peI (pe_callB cr hg hm PyProof.Rows.Boot.«isinstance» ta (by decide) (by decide) (by exact hs) (by exact hpl)) fun σ H Q ⟨io, hp, as, rl, S, P⟩ => ?_
  obtain ⟨⟨_, s2, s3⟩, _, s5⟩ := S
  unfold dIsO at P
  rw [s3] at P
  have P2 : Pst W (RV W) E σ Q io H (.ok (.bl (T.sub t cc)) hp) := P
  have e := ho t h1 h2
  rw [← hK] at e
  refine ⟨.ref a, s2, T.sub t cc, rfl, e, ?_, P2.ok rl (.bl _)⟩
  rcases s5 with ⟨_, h⟩ | ⟨dd, vs, h, h', _⟩
  · exact .inl h
  · exact .inr ⟨dd, vs, h, h'⟩
end
end Dn
namespace Dn
open PySem PySem.Spec PyProof.Rows L2
theorem FunD.codeF {K : PySem.W.Frag} {h : Heap} {x qual : Str} {params : Arguments} {body : List Stmt} {scope : Scope} {dvs : List V} {kws : List (Str × V)} {f : Addr} {fd : FuncData} (F : FunD K x qual params body scope dvs kws f fd) (l : LamAt K h f) : fd.code = .ref (codF K f) := by
  obtain ⟨oc, od, fd', osl, e, hc⟩ := l.fd
  obtain ⟨oc2, od2, dV, kV, doc, pm, an, cdv, ct, osl2, _, lk, _⟩ := F.ex
  rw [e] at lk
  cases lk
  exact hc
theorem tab_u {l : List (Addr × Str)} (nd : (l.map (·.1)).Nodup) {P : Addr} {q : Str} (m : (P, q) ∈ l) : ∀ p ∈ l, p.1 = P → p.2 = q := by
  induction l with
  | nil => cases m
  | cons a l ih =>
    rw [List.map_cons, List.nodup_cons] at nd
    intro p hp e
    rcases List.mem_cons.mp hp with rfl | hp
    · rcases List.mem_cons.mp m with z | z
      · rw [← z]
      · exact absurd (List.mem_map.mpr ⟨_, z, e.symm⟩) nd.1
    · rcases List.mem_cons.mp m with z | z
      · exact absurd (List.mem_map.mpr ⟨p, hp, by rw [e, ← z]⟩) nd.1
      · exact ih nd.2 z p hp e
theorem ruH {k : Nat} {A B : Around} (hr : Room k A) (h : B.units = A.units := by rfl) : B.units + 65 < cLine := by
  have := hr.un
  rw [h]
  omega
theorem law_spT {W : Wd} {P : Program} {w : World} {mg : Str → Option Value} {base : Heap} {CX : CXT} {k : Nat} {f : Addr} {fd : FuncData} {ps : List Str} {F : DF} {cs : List (Addr × Addr)} (hT : W.T.map (·.1) = cs.map (·.2)) (hF : FnG P w W.K mg base CX k f fd ps (spD W 1 F))
    (law : ∀ ns : List Int, ns.length ≤ 63 → ∃ h, F [.rol (ns.map .int)] [] = .ok (.bl true) h) : FnG P w W.K mg base CX k f fd ps (spLT cs W.K) := hF.imp fun vs H Q E ⟨a, ns, e, hl, hO, hC, hS, hQ⟩ => by
  subst e
  obtain ⟨h, e⟩ := law ns hl
  refine ⟨[], [], [.rol (ns.map .int)], rfl, ⟨rfl, List.nodup_nil, fun i a o hi => by simp at hi, fun p hp => ?_⟩, .cons (.rol ?_ (RVs.ints ns)) .nil, ?_⟩
  · have m : p.1 ∈ cs.map (·.2) := by
      rw [← hT]
      exact List.mem_map.mpr ⟨p, hp, rfl⟩
    obtain ⟨q, hq, eq⟩ := List.mem_map.mp m
    exact LamX.TabS.nil (by rw [← eq]; exact hC q hq)
  · rcases hS with (z | ⟨o, z⟩) | z
    · rcases hO a with q | ⟨_, q⟩ | ⟨o, xs, q⟩
      · rw [q] at z
        cases z
      · rw [q] at z
        cases z
      · rw [q] at z
        cases z
    · exact .inl ⟨o, z⟩
    · exact .inr (.inr z)
  · rw [e]
    intro io' H' x _ _ r
    obtain rfl := r.bl_inv
    exact hQ H'
end Dn
namespace Dn
open PySem PySem.Spec PyProof.Rows L2
section
variable {W : Wd} {E : WX} {X : Cx} {T : XT} {t i : Nat} {fs : List (Nat × AV)} {a : Addr} {oe : Obj} {d : Option Addr} {pn : List (Addr × Obj)} {x : Str} {p pos : Pos} {B : Md W}
end
end Dn
namespace Dn
open PySem PySem.Spec PyProof.Rows L2
section
variable {P : Program} {w : World} {mg : Str → Option Value} {base : Heap} {W : Wd} {k n t : Nat} {f : Addr} {fd : FuncData} {ps : List Str} {F : DF} {x : Str} {bs : Bs}
end
section
variable {W : Wd} {M : Md W} {E : WX} {X : Cx} {k j n m q t : Nat} {ps : List Str} {F : DF} {x c : Str} {p pos apos : Pos} {e : Expr} {es : List Expr} {fa : DA} {ix : List Nat} {dfl : List AV} {bs : Bs}
end
end Dn
namespace Dn
open PySem PySem.Spec PyProof.Rows L2
end Dn
namespace Dn
open PySem PySem.Spec PyProof.Rows L2
section
variable {W : Wd} {M : Md W} {E : WX} {X : Cx} {x : Str} {p pos : Pos} {e : Expr} {es : List Expr} {kws : List Keyword} {fa fk : DA}
end
end Dn
namespace Dn
open PySem PySem.Spec PyProof.Rows L2
section
variable {W : Wd} {M : Md W} {E : WX} {X : Cx} {k j n m q t i : Nat} {ps ks : List Str} {F : DF} {x y : Str} {p pos : Pos} {e : Expr} {es : List Expr} {kws : List Keyword} {fa fk : DA} {ix : List Nat} {dfl : List AV} {bs : Bs}
end
end Dn
namespace Dn
open PySem PySem.Spec PyProof.Rows L2
section
variable {W : Wd} {M : Md W} {E : WX} {X : Cx} {pos : Pos}
end
end Dn
namespace Dn
open PySem PySem.Spec PyProof.Rows L2
section
variable {h : Hep}
end
end Dn
namespace Dn
open PySem PySem.Spec PyProof.Rows L2
section
variable {W : Wd} {M : Md W} {E : WX} {X : Cx} {x : Str} {l : List (Str × Int)} {e f : Expr} {fk fx : DE} {p apos cpos : Pos}
end
end Dn
namespace Dn
open PySem PySem.Spec PyProof.Rows L2
end Dn
namespace Dn
open PySem PySem.Spec PyProof.Rows L2
end Dn
namespace Dn
open PySem PySem.Spec PyProof.Rows L2
section
variable {P : Program} {w : World} {mg : Str → Option Value} {base : Heap} {W : Wd} {x qual : Str} {params : Arguments} {body : List Stmt} {scope : Scope} {f : Addr} {fd : FuncData}
end
section
variable {W : Wd} {M : Md W} {E : WX} {X : Cx} {k j n i t : Nat} {F : DF} {x : Str} {p pos apos : Pos} {e o : Expr} {fo : DE} {g : Addr}
end
end Dn
namespace Dn
open PySem PySem.Spec PyProof.Rows L2
end Dn
namespace Dn
open PySem PySem.Spec PyProof.Rows L2
end Dn
namespace Dn
open PySem PySem.Spec PyProof.Rows L2
section
variable {X : Cx} {d : Addr} {es : Array DictEntry} {n : Nat} {l : List (Str × List Str)}
end
section
variable {W : Wd} {M : Md W} {E : WX} {X : Cx} {x : Str} {l : List (Str × List Str)} {e : Expr} {fx : DE} {p pos : Pos}
end
end Dn
namespace ZS
open PySem PySem.Spec PyProof.Rows
open PySem.Sem (wp)
section
variable {prog : Program} {w : World} {A : Around} {E : Value → Shared → Prop} {s : Shared}
end
section
variable {prog : Program} {w : World} {A : Around} {E : Value → Shared → Prop} {s : Shared}
end
section
variable {M : Model} {A : Around} {E : Value → Shared → Prop} {s : Shared} {env : Env}
end
open L2
end ZS
namespace Dn
open PySem PySem.Spec PyProof.Rows L2
section
variable {W : Wd} {M : Md W} {E : WX} {X : Cx} {e e2 : Expr} {kws : List Keyword} {fa fk : DA} {p pos tpos : Pos} {elts : List Expr} {kk : Nat}
end
end Dn
namespace Dn
open PySem PySem.Spec PyProof.Rows L2
section
variable {X : Cx} {body : List Stmt} {rest : List MatchCase} {p p1 p2 pos : Pos} {x : Str} {j : Nat} {t : TS} {u : Str → TS} {e : Expr}
end
section
variable {W : Wd} {M : Md W} {E : WX} {X : Cx} {body : List Stmt} {rest : List MatchCase} {p p1 p2 pos : Pos} {x : Str} {j : Nat} {fb d : DS} {cs : List (Str × DS)} {e : Expr} {f : DE}
end
end Dn
namespace Dn
open PySem PySem.Spec PyProof.Rows L2
section
variable {W : Wd} {M : Md W} {E : WX} {X : Cx} {a b : Expr} {es : List Expr} {f g : DE} {pos : Pos}
end
section
variable {W : Wd} {M : Md W} {E : WX} {X : Cx} {k j n q : Nat} {ps ks : List Str} {F : DF} {x : Str} {p pos : Pos} {kws : List Keyword} {fk : DA} {ix : List Nat} {dfl : List AV} {bs : Bs}
end
end Dn
namespace Dn
open PySem PySem.Spec PyProof.Rows L2
section
variable {W : Wd} {M : Md W} {E : WX} {X : Cx} {o e f : Expr} {fo fk fx : DE} {apos cpos : Pos}
end
section
variable {W : Wd} {M : Md W} {E : WX} {X : Cx} {k j n i i1 i2 t : Nat} {F : DF} {x : Str} {p pos apos : Pos} {e ea eb o : Expr} {fo : DE}
end
section
variable {W : Wd} {M : Md W} {E : WX} {X : Cx} {x : Str} {l : List (Str × List Str)} {e : Expr} {fx : DE} {p pos : Pos}
end
end Dn
namespace Dn
open PySem PySem.Spec PyProof.Rows L2
end Dn
namespace Dn
open PySem PySem.Spec PyProof.Rows L2
section
variable {X : Cx} {pins : List (Addr × Obj)} {σ : L2.St} {H : Hp} {s : Shared}
end
section
variable {W : Wd} {io : List Addr} {H : Hp} {hp : Hep}
end
section
variable {W : Wd} {M : Md W} {E : WX} {X : Cx}
end
end Dn
namespace Dn
open PySem PySem.Spec PyProof.Rows L2
end Dn
namespace Dn
open PySem PySem.Spec PyProof.Rows L2
section
variable {W : Wd} {X : Cx}
end
end Dn
namespace Dn
open PySem PySem.Spec PyProof.Rows L2
section
variable {W : Wd} {M : Md W} {E : WX} {X : Cx} {f : DE} {e : Expr} {es : List Expr} {gs : DGs} {pos tpos p : Pos} {kk i n : Nat}
end
end Dn
namespace Dn
open PySem PySem.Spec PyProof.Rows L2
end Dn
namespace Dn
open PySem PySem.Spec PyProof.Rows L2
end Dn
namespace Dn
open PySem PySem.Spec PyProof.Rows L2
end Dn
namespace PySem
namespace DX
open PySem.W PySem.Calls PyProof.Rows
section
variable {md : Model} {ar : Around} {ex : Value → Shared → Prop} {hp : Heap} {gs : Array GenState} {dr : Drawn} {tc : Nat} {ops : OsState}
variable {cn qn : Str} {C N : Addr} {bs bm bmB : List Value} {hd : Bool} {sl : List Str} {sb : List Value} {ab : Bool} {col : Option Bool} {dd : Option Addr} {k0 k1 k2 k3 k5 : Option Value} {O nid : String} {kw : List (Str × Value)}
end
section
variable {prog : Program} {w : World} {ar : Around} {ex : Value → Shared → Prop} {R : Result → Shared → Prop} {hp : Heap} {gs : Array GenState} {dr : Drawn} {tc : Nat} {ops : OsState}
variable {cn qn : Str} {C N : Addr} {bs bm bmB : List Value} {hd : Bool} {sl : List Str} {sb : List Value} {ab : Bool} {col : Option Bool} {dd : Option Addr} {k0 k1 k2 k3 k5 : Option Value} {O nid : String} {kw : List (Str × Value)}
end
end DX
end PySem

namespace Dn
open PySem PySem.Spec PyProof.Rows L2

section
variable {X : Cx} {E : WX} {C : Addr} {nm : Str} {B newId initId : String} {bmB : List Value} {x : Str} {p pos kpos : Pos} {e : Expr}
end

section
variable {W : Wd} {M : Md W} {E : WX} {X : Cx} {t j k : Nat} {x : Str} {e : Expr} {f : DE} {p p2 pos : Pos}
section
variable {C fI : Addr} {nm : Str} {B newId : String} {bmB : List Value} {fd : FuncData} {ps ks : List Str} {kws : List Keyword} {ta : TA} {fk : DA}
end
end

section
variable {W : Wd} {M : Md W} {E : WX} {X : Cx} {T : XT} {e : Expr} {f : DE} {pos p2 p3 : Pos} {xc : Str}
end
end Dn
namespace Dn
open PySem PySem.Spec PyProof.Rows L2
section
variable {P : Program} {w : World} {H : Hp} {h : Heap} {a : Addr} {x : V} {ep : Nat}
end
section
variable {X : Cx} {pos p2 : Pos} {k v : Expr}
end
section
variable {W : Wd} {M : Md W} {E : WX} {X : Cx} {a b k v : Expr} {es elts : List Expr} {f : DE} {pos p2 apos cpos tpos : Pos} {kk : Nat}
end
end Dn
namespace Dn
open PySem PySem.Spec PyProof.Rows L2
section
variable {H H0 : Hp} {b : Addr} {o : HO}
end
section
variable {P : Program} {w : World} {mg : Str → Option Value} {base : Heap} {W : Wd} {k n : Nat} {x : Str} {ps : List Str} {F : DF} {bs : Bs}
end
end Dn
namespace Dn
open PySem PySem.Spec PyProof.Rows L2
section
variable {M : Model} {A : Around} {E : Value → Shared → Prop} {s : Shared} {Z : Obj → Prop} {base : Heap} {env : Env} {outer l : List Env} {L e : Addr}
end
section
variable {X : Cx} {pins : List (Addr × Obj)} {σ : L2.St} {H : Hp} {s : Shared} {xe : Value → Shared → Prop}
end
section
variable {X : Cx} {W : WX} {pins : List (Addr × Obj)} {σ : L2.St} {H3 : Hp} {s3 : Shared} {scope : Scope} {cenv : Env} {fp : List Addr} {Qf : Value → Shared → Prop} {acc : Value} {xe : Value → Shared → Prop}
end
section
variable {X : Cx}
end
end Dn
namespace Dn
open PySem PySem.Spec PyProof.Rows L2
section
variable {W : Wd} {M : Md W} {E : WX} {X : Cx} {pos : Pos}
end
end Dn
namespace Dn
open PySem PySem.Spec PyProof.Rows L2
end Dn
namespace Dn
open PySem PySem.Spec PyProof.Rows L2 LamX
section
variable {X : Cx} {pins : List (Addr × Obj)} {σ : L2.St} {H : Hp} {s : Shared}
theorem lay_fn {params : Arguments} {body : Expr} {scope : Scope} {c' : Addr} {pm ctv : Value} {h' : Heap} {t' : Nat} (I : Inv X pins σ H { s with heap := h', toks := t' }) :
    Inv X pins σ (upd H h'.objs.size (FnL X params body scope h'.objs.size c' pm ctv)) { s with heap := h'.push (PySem.W.kla_obj "<lambda>" (X.env.qual ++ "<lambda>") params body scope (cloFrom X.env.cells scope.names []) pm c' ctv), toks := t' } :=
  I.laid (t' := t') (fun b o e => Heap.get?_push_of_some _ e) (Nat.le_refl _) ⟨Heap.get?_push_size _ rfl, ⟨_, Heap.get?_push_size _ rfl⟩, fun h1 h2 a st => st _ a⟩
/-- as lam_make2, the function object known -/
theorem lam_make3 {T : List (Addr × Str)} {c P : Addr} {params : Arguments} {body : Expr} {scope : Scope} {pos : Pos} {E : Value → Shared → Prop} {Q : Value → Shared → Prop} (I : Inv X pins σ H s) (TB : TabB X.base X.mg c P) (hcode : X.env.code = .ref c)
    (hm : (P, X.env.qual ++ "<lambda>") ∈ T) (hu : ∀ p ∈ T, p.1 = P → p.2 = X.env.qual ++ "<lambda>") (hT : Tabs T H) (hdef : defaultsOf params X.env = ([], [])) (hfree : ∀ y ∈ scope.names, y.2 = .free → ∃ c, X.env.cells.lookup y.1 = some c)
    (h : ∀ (f c' : Addr) (pm ctv : Value) (H1 : Hp) (s' : Shared), Inv X pins σ H1 s' → ExtN H H1 → Tabs T H1 →
      H f = none → H1 f = some (FnL X params body scope f c' pm ctv) → f ∉ frs X.stack → H1 c' = some (CodeO c' (X.env.qual ++ "<lambda>")) → Q (.ref f) s') :
    wpAny (model X.prog X.w) X.A (eval (.Lambda params body scope pos) X.env) Q E s := by
  obtain ⟨ps, hP, ht, ha⟩ := hT _ hm
  refine PySem.W.kla_eval hdef ?_
  have bP : s.heap.BuiltinsAt X.mg P := TB.bm.keeps I.bk
  have hP' : s.heap.get? P = some { cls := .none, data := .fields ps } := I.hok P _ hP
  have nofr : ∀ f, s.heap.objs.size ≤ f → f ∉ frs X.stack := fun f hf z => by
    rcases List.mem_cons.mp (I.stkSub _ z) with e | e
    · have h1 := I.lt
      rw [← e] at h1
      exact Nat.lt_irrefl _ (Nat.lt_of_lt_of_le h1 hf)
    · exact I.nofs hf e
  have tabs : ∀ {H1 : Hp} {f : Addr} {o : HO}, H1 f = none → Tabs T H1 → Tabs T (upd H1 f o) := fun {H1 f o} n t => t.ext fun b u e => by
    rw [upd_ne (ne_of_none e n)]
    exact e
  cases hc : codeAmong pos ps.toList with
  | none =>
    refine PySem.W.kla_makeFunction (mg := X.mg) (c := c) (P := P) (ps := ps) (closure_ok hfree) I.ok.glob (I.mod.glob.keeps I.bk) hcode (TB.code.keeps I.bk) hP' ht hc TB.gP bP fun c' ctv h' tk hx hge hlt hrec htb => ?_
    obtain ⟨c2, oc, vs, t, e2, hoc, hd, hv⟩ := hrec
    cases e2
    have hsz : s.heap.objs.size ≤ h'.objs.size := Nat.le_trans hge (Nat.le_of_lt hlt)
    have nC : H c' = none := I.hok.fresh hge
    have nF : H h'.objs.size = none := I.hok.fresh hsz
    have I0 := inv_table (t' := tk) (more := #[rawInt pos.line, rawInt pos.col, .ref c']) (h' := h') I hP hx htb hge ⟨oc, vs, t, hoc, hd, hv⟩
    have n1 : h'.objs.size ≠ c' := Nat.ne_of_gt hlt
    have n2 : h'.objs.size ≠ P := Nat.ne_of_gt (Nat.lt_of_lt_of_le (Heap.lt_size hP') hsz)
    have nF1 : upd (upd H P (.tbl (ps ++ #[rawInt pos.line, rawInt pos.col, .ref c']))) c' (CodeO c' (X.env.qual ++ "<lambda>")) h'.objs.size = none := by
      rw [upd_ne n1, upd_ne n2]
      exact nF
    have I1 := lay_fn (params := params) (body := body) (scope := scope) (c' := c') (pm := (X.mg "__name__").getD .none) (ctv := ctv) I0
    have hE : ExtN H (upd (upd H P (.tbl (ps ++ #[rawInt pos.line, rawInt pos.col, .ref c']))) c' (CodeO c' (X.env.qual ++ "<lambda>"))) := fun b o e n => by
      rw [upd_ne (ne_of_none e nC), upd_ne (fun z => n ps (Option.some.inj (e.symm.trans (by rw [z]; exact hP))))]
      exact e
    have eL : (ps ++ #[rawInt pos.line, rawInt pos.col, .ref c']).toList = ps.toList ++ [rawInt pos.line, rawInt pos.col, .ref c'] := by simp
    refine h h'.objs.size c' ((X.mg "__name__").getD .none) ctv _ _ I1 (hE.trans (ExtN.of fun b o e => by rw [upd_ne (ne_of_none e nF1)]; exact e)) (tabs nF1 fun p hp => ?_) nF upd_same (nofr _ hsz) (by rw [upd_ne (Ne.symm n1), upd_same])
    by_cases hb : p.1 = P
    · rw [hu p hp hb, hb]
      refine ⟨_, by rw [upd_ne (ne_of_none hP nC), upd_same], by rw [eL]; exact PySem.TriplesOk_snoc _ _ _ _ ht, fun p' cv hcv => ?_⟩
      rw [eL] at hcv
      rcases among_app _ ht hcv with z | z
      · obtain ⟨c0, e1, e2⟩ := ha p' cv z
        exact ⟨c0, e1, hE _ _ e2 codeO_ne⟩
      · exact ⟨c', z, upd_same⟩
    · obtain ⟨ps', a1, a2, a3⟩ := hT p hp
      refine ⟨ps', by rw [upd_ne (ne_of_none a1 nC), upd_ne hb]; exact a1, a2, fun p' cv hcv => ?_⟩
      obtain ⟨c0, e1, e2⟩ := a3 p' cv hcv
      exact ⟨c0, e1, hE _ _ e2 codeO_ne⟩
  | some cv =>
    obtain ⟨c', e, hco⟩ := ha pos cv hc
    subst e
    refine PySem.W.kla_makeFunctionHit (mg := X.mg) (c := c) (P := P) (ps := ps) (closure_ok hfree) I.ok.glob (I.mod.glob.keeps I.bk) hcode (TB.code.keeps I.bk) hP' ht hc bP fun ctv h' tk hx hsz => ?_
    have nF : H h'.objs.size = none := I.hok.fresh hsz
    have I0 : Inv X pins σ H { s with heap := h', toks := tk } := I.kept hx
    have I1 := lay_fn (params := params) (body := body) (scope := scope) (c' := c') (pm := (X.mg "__name__").getD .none) (ctv := ctv) I0
    exact h h'.objs.size c' ((X.mg "__name__").getD .none) ctv _ _ I1 (ExtN.of fun b o e => by rw [upd_ne (ne_of_none e nF)]; exact e) (tabs nF hT) nF upd_same (nofr _ hsz) (by rw [upd_ne (ne_of_none hco nF)]; exact hco)
end
end Dn
namespace Dn
open PySem PySem.Spec PyProof.Rows L2 LamX
/-- its body keeps the promise of its reading -/
structure LamR {W : Wd} (M : Md W) (X : Cx) (kb : Nat) (l : LamT) : Prop where
  L : LamS X.env.scope l.scope
  hdef : defaultsOf l.params X.env = ([], [])
  hbind : ∀ (q : Str) (cl : List (Str × Addr)) (pm cv ctv : Value), bindArgs (PySem.W.kla_fn "<lambda>" q l.params l.body l.scope cl pm cv ctv) ⟨[], []⟩ = pure []
  hbody : ∀ (A : Around) (outer : List Env) (s : Shared) (H : Hp) (E1 : XK) (f c' : Addr), Room kb (lamCx X A outer s H E1 l.scope f c').A → Takes (lamCx X A outer s H E1 l.scope f c') (wxE E1) → PE (lamCx X A outer s H E1 l.scope f c') l.body (tD W M (wxE E1) l.d)
section
variable {W : Wd} {X : Cx} {io io' : List Addr} {H H' : Hp}
/-- a lambda as a value -/
def tFn (W : Wd) (X : Cx) (l : LamT) : TE := fun _ H Q => Tabs W.T H ∧ ∀ f H1, ExtN H H1 → Tabs W.T H1 → LamF X l H1 f → Q (.ref f) H1
theorem pe_fn {c P : Addr} {params : Arguments} {body : Expr} {scope : Scope} {d : DE} {lpos : Pos} (L : LamS X.env.scope scope) (hdef : defaultsOf params X.env = ([], [])) (TB : TabB X.base X.mg c P) (hcode : X.env.code = .ref c) (hmT : (P, X.env.qual ++ "<lambda>") ∈ W.T) (hu : ∀ p ∈ W.T, p.1 = P → p.2 = X.env.qual ++ "<lambda>") :
    PE X (.Lambda params body scope lpos) (tFn W X ⟨params, body, scope, d⟩) := by
  refine ⟨fun pins s σ H Q I h => ?_⟩
  obtain ⟨tb, q⟩ := h
  exact lam_make3 I TB hcode hmT hu tb hdef (L.has I.ok) fun f c' pm ctv H1 s' I1 eN T1 hn hf hfr hco => ⟨.ref f, H1, I1, rfl, q f H1 eN T1 ⟨hfr, c', pm, ctv, hf, hco⟩⟩
theorem Fns.snoc {lams : List LamT} {fs : List Addr} {l : LamT} {f : Addr} (h : Fns X lams H fs) (q : LamF X l H f) : Fns X (lams ++ [l] : List LamT) H (fs ++ [f] : List Addr) := by
  refine ⟨by simp [h.1], fun i l' f' a b => ?_⟩
  by_cases hi : i < lams.length
  · rw [List.getElem?_append_left hi] at a
    rw [List.getElem?_append_left (by rw [h.1]; exact hi)] at b
    exact h.2 i l' f' a b
  · rw [List.getElem?_append_right (by omega)] at a
    rw [List.getElem?_append_right (by rw [h.1]; omega)] at b
    rw [h.1] at b
    cases hj : i - lams.length with
    | zero =>
      rw [hj] at a b
      cases a
      cases b
      exact q
    | succ j =>
      rw [hj] at a
      simp at a
/-- while it is made -/
def BU (W : Wd) (X : Cx) (ic : Nat) (lams : List LamT) (io : List Addr) (hp : Hep) (as : Sl) (σ : L2.St) (H : Hp) : Prop :=
  Rl W io hp H ∧ (std W).rel io H as σ ∧ as[ic]? = some none ∧ ∃ p fs, σ[ic]? = some (some (.ref p)) ∧ p ∉ io ∧ H p = some (.lst (fs.map V.ref)) ∧ Fns X lams H fs
def tUp (W : Wd) (X : Cx) (ic : Nat) (lams : List LamT) (E : WX) (f : DS) : TS := fun D σ H => ∃ io hp as, BU W X ic lams io hp as σ H ∧ Pss W (std W) E D io H (f as hp)
/-- how it begins -/
def dLams (ic : Nat) (f : DS) : DS := fun s h => if ic < s.length then f (s.set ic none) h else .stuck
theorem mem_dom (R : Rl W io hp H) {p : Addr} (h : H p = none) : p ∉ io := fun m => by
  obtain ⟨u, e⟩ := R.mem m
  rw [h] at e
  cases e
theorem lamsD {E : WX} {ic : Nat} {l : LamT} {st : Stmt} {rest : List Stmt} {f : DS} (hs : PS X st (tAsg (tLst (tCons (tFn W X l) tNil)) (gName ic))) (hr : PSs X rest (tUp W X ic [l] E f)) : PSs X (st :: rest) (tS W (std W) E (dLams ic f)) :=
  pssI (pss_cons hs hr) fun D σ H ⟨io, hp, as, rl, S, P⟩ => by
    unfold dLams at P
    by_cases hi : ic < as.length
    · rw [if_pos hi] at P
      refine ⟨rl.tb, fun f0 H1 eN T1 hf => ⟨by show 1 ≤ sizeLine; decide, fun p hp1 => ?_⟩⟩
      obtain ⟨rl1, e1⟩ := extN rl eN T1
      have e2 : Ext W io H1 io (upd H1 p (.lst [V.ref f0])) := Ext.new0 hp1
      refine ⟨io, hp, as.set ic none, ⟨rl1.other hp1, ⟨by simp [S.1], fun i v z => ?_⟩, by simp [hi], p, [f0], by rw [List.getElem?_set_self (by rw [← S.1]; exact hi)], mem_dom rl1 hp1, upd_same, ⟨rfl, fun i l' f' a b => ?_⟩⟩, Pss.later P (e1.trans e2)⟩
      · by_cases hj : i = ic
        · subst hj
          rw [List.getElem?_set_self hi] at z
          cases z
        · rw [List.getElem?_set_ne (Ne.symm hj)] at z ⊢
          obtain ⟨x, a, b⟩ := S.2 i v z
          exact ⟨x, a, b.mono (e1.trans e2)⟩
      · cases i with
        | zero =>
          cases a
          cases b
          exact hf.mono e2
        | succ i =>
          simp at a
    · rw [if_neg hi] at P
      exact P.elim
theorem lamAppD {E : WX} {ic : Nat} {l : LamT} {lams : List LamT} {st : Stmt} {rest : List Stmt} {f : DS} (hs : PS X st (tDrop (tBM X.K "list" rAppend (tVar ic) (tCons (tFn W X l) tNil)))) (hr : PSs X rest (tUp W X ic (lams ++ [l]) E f)) (hl : lams.length < 100) : PSs X (st :: rest) (tUp W X ic lams E f) :=
  pssI (pss_cons hs hr) fun D σ H ⟨io, hp, as, ⟨rl, S, hn, p, fs, hp1, hp2, hp3, F⟩, P⟩ => by
    refine ⟨.ref p, hp1, .inl ⟨rfl, _, SqL.of hp3⟩, rl.tb, fun f0 H1 eN T1 hf => ?_⟩
    obtain ⟨rl1, e1⟩ := extN rl eN T1
    have hp4 : H1 p = some (.lst (fs.map V.ref)) := eN _ _ hp3 (fun ps z => by cases z)
    refine ⟨p, fs.map V.ref, .ref f0, rfl, rfl, hp4, ?_, ?_⟩
    · rw [List.length_map, F.1]
      exact Nat.lt_trans hl (by decide)
    · have e2 : Ext W io H1 io (upd H1 p (.lst (fs.map V.ref ++ [V.ref f0]))) := Ext.set _ hp4 trivial
      refine ⟨io, hp, as, ⟨Rl.off rl1 hp2 hp4 trivial, (std W).mono (e1.trans e2) S, hn, p, fs ++ [f0], hp1, hp2, by rw [upd_same, List.map_append]; rfl, ?_⟩, Pss.later P (e1.trans e2)⟩
      exact Fns.mono (Fns.snoc (F.mono e1) hf) e2
def MC (W : Wd) (X : Cx) (ic : Nat) (lams : List LamT) : Md W where
  rel := fun io H as σ => (std W).rel io H as σ ∧ as[ic]? = some none ∧ ∃ p o fs, σ[ic]? = some (some (.ref p)) ∧ H p = some (.frz o (.lst (fs.map V.ref))) ∧ Fns X lams H fs
  mono := fun e h => by
    obtain ⟨a, b, p, o, fs, c, d, f⟩ := h
    exact ⟨(std W).mono e a, b, p, o, fs, c, e.frz _ _ _ d, f.mono e⟩
  var := fun h a n => (std W).var h.1 a n
  ok := fun i => i ≠ ic
  set := fun h r hi => ⟨(std W).set h.1 r trivial, by rw [List.getElem?_set_ne hi]; exact h.2.1, by rw [List.getElem?_set_ne hi]; exact h.2.2⟩
  wipe := fun h hi => ⟨(std W).wipe h.1 trivial, by rw [List.getElem?_set_ne hi]; exact h.2.1, by rw [List.getElem?_set_ne hi]; exact h.2.2⟩
theorem Pss.toMC {E : WX} {D : Ends} {ic : Nat} {lams : List LamT} {r : SR} (P : Pss W (std W) E D io H r) : Pss W (MC W X ic lams) E D io H r := by
  cases r with
  | nx s hp => exact fun io' H' σ' e rl S => P io' H' σ' e rl S.1
  | rt v hp => exact P
  | bk s hp => exact fun io' H' σ' e rl S => P io' H' σ' e rl S.1
  | ct s hp => exact fun io' H' σ' e rl S => P io' H' σ' e rl S.1
  | exc t fs s hp => exact fun io' H' σ' cls d e rl S => P io' H' σ' cls d e rl S.1
  | stuck => exact P
theorem lamEndD {E : WX} {ic : Nat} {lams : List LamT} {rest : List Stmt} {f : DS} (hr : PSs X rest (tS W (MC W X ic lams) E f)) : PSs X rest (tUp W X ic lams E f) := by
  refine ⟨fun pins s σ H D I ⟨io, hp, as, ⟨rl, S, hn, p, fs, hp1, hp2, hp3, F⟩, P⟩ => ?_⟩
  obtain ⟨od, I1⟩ := I.lock hp3 trivial
  have e2 : Ext W io H io (upd H p (.frz od (.lst (fs.map V.ref)))) := Ext.set _ hp3 trivial
  exact hr.run pins s σ _ D I1 ⟨io, hp, as, Rl.off rl hp2 hp3 trivial, ⟨(std W).mono e2 S, hn, p, od, fs, hp1, upd_same, F.mono e2⟩, (Pss.later P e2).toMC⟩
end
end Dn
namespace Dn
open PySem PySem.Spec PyProof.Rows L2
section
variable {X : Cx} {pins : List (Addr × Obj)} {σ : L2.St} {H : Hp} {s : Shared} {W : Wd}
open LamX
/-- as pe_actZ, the function object known in the heap -/
theorem pe_actY {M : Md W} {kb : Nat} {l : LamT} {Ng : List Str} {qg : Str} {sg : Scope} {g f c' : Addr} {cdg pm ctv : Value} {k : Nat} {a : Str} {pn : List (Addr × Obj)} {xe : Value → Shared → Prop} {E' : WX} {Eg : XK} {t : XK → TE} {p1 p2 : Pos}
    (I : Inv X pins σ H s) (R : LamR M X kb l)
    (hK : X.K = W.K) (tk : Takes ((cxD W X.prog X.w X.mg X.base Ng qg sg g cdg X.A X.stack s H Eg).tr pn xe) E') (hr : Room (k + 1) (X.A.deeper (envOfC qg sg s.heap.objs.size g cdg)))
    (hbody : ∀ (A : Around) (outer : List Env) (s : Shared) (H : Hp) (E : XK), Room k (A.deeper (lamEnv X l.scope s.heap.objs.size f c')) → PE (lamCx X A outer s H E l.scope f c') l.body (t E))
    (hN : Ng[0]? = some a) (hv : Vis sg a) (hd : (a == ("__debug__" : Str)) = false) (hcd : (a == ("__classdict__" : Str)) = false) :
    PE ((cxD W X.prog X.w X.mg X.base Ng qg sg g cdg X.A X.stack s H Eg).tr pn xe) (.Call (.Name a p1) [] [] p2)
      (fun σZ HZ Q => σZ[0]? = some (some (.ref f)) ∧ HZ c' = some (CodeO c' (X.env.qual ++ "<lambda>")) ∧ (HZ f = some (FnL X l.params l.body l.scope f c' pm ctv) ∧ t (WE E' σZ) σ HZ Q)) := by
  refine ⟨fun pinsZ sZ σZ HZ Q IZ h => ?_⟩
  obtain ⟨hs, hc, hf, ht⟩ := h
  refine wpAny_Call_Name_kw (thn ((pe_var (pos := p1) (i := 0) hN hv hd hcd).run pinsZ sZ σZ HZ (fun v H1 => v = .ref f ∧ H1 = HZ) IZ ⟨.ref f, hs, rfl, rfl⟩) fun u s1 ⟨v, H1, I1, r1, q1⟩ => ?_)
  obtain ⟨ev, eH⟩ := q1
  subst ev
  rw [eH] at I1
  obtain rfl : u = Value.ref f := r1
  have of1 : s1.heap.get? f = some (PySem.W.kla_obj "<lambda>" (X.env.qual ++ "<lambda>") l.params l.body l.scope (cloFrom X.env.cells l.scope.names []) pm c' ctv) := (I1.hok f _ hf).1
  refine PySem.W.callWith_F0 ⟨_, _, _, _, of1⟩ ?_
  have un : Un (frs X.stack) [] H HZ s.heap s1.heap := I1.base
  obtain ⟨⟨oc, vs, t0, hoc, hdc, hvc⟩, _, _⟩ := I1.hok c' _ hc
  have rc : codeAny (model X.prog X.w) (X.A.deeper (envOfC qg sg s.heap.objs.size g cdg)) (.call (.ref f) ⟨[], []⟩) (CR (L2.CX X.prog X.w) (envOfC qg sg s.heap.objs.size g cdg :: X.stack) X.prog X.w HZ s1 Q (WE E' σZ)) s1 := by
    refine PySem.W.kla_callFunE hr.depth of1 rfl R.L.co R.L.gen rfl ⟨c', oc, vs, t0, rfl, hoc, hdc, hvc⟩ ?_
    rw [R.hbind]
    refine wpAny_pure (wpAny_newFunctionEnv (fun y hy => (R.L.own y hy).2) (fun y hy => absurd hy (by simp)) (fun h₁ hns hsb => ⟨I1.nolimit.fresh _ hsb, ?_⟩) R.L.kind)
    show codeAny _ _ (.expr l.body (lamEnv X l.scope s1.heap.objs.size f c')) _ _
    have kp : ∀ b o, s1.heap.get? b = some o → h₁.get? b = some o := fun b o e => hsb.extBut b o (Nat.ne_of_lt (Heap.lt_size e)) (Heap.get?_push_of_some _ e)
    have e0 : Env0 X.prog X.w X.K X.mg X.base (X.A.deeper (envOfC qg sg s.heap.objs.size g cdg)) (envOfC qg sg s.heap.objs.size g cdg :: X.stack) s1 HZ := by
      rw [hK]
      exact I1.env0
    have J : Inv (lamCx X (X.A.deeper (envOfC qg sg s.heap.objs.size g cdg)) (envOfC qg sg s.heap.objs.size g cdg :: X.stack) s1 HZ (WE E' σZ) l.scope f c') [] σ HZ { s1 with heap := h₁, toks := s1.toks + ([] : List (Str × Value)).length } :=
      lam_start2 I R.L e0 hr.hd un hns kp
    refine PySem.W.kla_codeExpr (wpAny_mono ((hbody _ _ s1 HZ _ (hr.deeper _)).run [] _ _ HZ Q J ht) (fun v s' hq => ?_) fun e s' hq => hq)
    obtain ⟨w', H', J', rv, q⟩ := hq
    exact ⟨w', H', J'.os, J'.bare, J'.base, J'.hok, rv, q⟩
  refine wpAny_call (codeAny_mono rc fun r s' hq => ?_)
  cases r with
  | error e => exact passAt tk σZ pinsZ HZ s1 e s' I1 hq
  | ok fl =>
    cases fl with
    | ret u => exact I1.after hq
    | next => exact False.elim hq
    | brk => exact False.elim hq
    | cont => exact False.elim hq
end
section
variable {X : Cx}
/-- back in the frame around a block -/
theorem blk_out {pins pinsB : List (Addr × Obj)} {σ σB : L2.St} {H3 H' : Hp} {s3 s' : Shared} {scope : Scope} {ce : Env} {fp : List Addr} (I3 : Inv X pins σ H3 s3) (f3 : ∀ b ∈ fp, FpOk X pins H3 b) (I : Inv (X.blk s3 H3 scope ce fp) pinsB σB H' s') : Inv X pins σ H' s' :=
  I3.call' (ch := fp) I.os I.base I.hok I.bare fun b hb => ⟨(f3 b hb).2.2.2.1, (f3 b hb).2.1, (f3 b hb).2.2.2.2.1, (f3 b hb).2.2.2.2.2⟩
theorem pe_lcI {elt tg iter : Expr} {ifs : List Expr} {scope : Scope} {own : List (Str × Nat)} {pos : Pos} {wi : TI} {g : TG} {tt : L2.St → TT} {te : L2.St → TE} (hc : X.calm = true) (hN : X.N.Nodup) (hi : PI X tg iter wi) (ok : BlkOk X.N X.env.scope scope own)
    (hg : ∀ (s : Shared) (H : Hp) (C : Addr) (cl : List (Str × Addr)) (fp : List Addr), PG (X.blk s H scope (compEnvC scope cl C X.env) fp) tg g)
    (ht : ∀ (pins : List (Addr × Obj)) (σ : L2.St) (s : Shared) (H : Hp) (C : Addr) (cl : List (Str × Addr)) (fp : List Addr), Inv X pins σ H s → (∀ b ∈ fp, FpOk X pins H b) → PTs (X.blk s H scope (compEnvC scope cl C X.env) fp) ifs (tt σ))
    (he : ∀ (pins : List (Addr × Obj)) (σ : L2.St) (s : Shared) (H : Hp) (C : Addr) (cl : List (Str × Addr)) (fp : List Addr), Inv X pins σ H s → (∀ b ∈ fp, FpOk X pins H b) → PE (X.blk s H scope (compEnvC scope cl C X.env) fp) elt (te σ)) (hs : ∀ x, foldedSetIterable iter X.env x = pure x := by intro _; rfl) :
    PE X (.ListComp elt [⟨tg, iter, ifs, 0⟩] scope pos) (fun σ H Q => tLc wi g (tt σ) (te σ) (own.map (·.2)) σ H Q) := by
  refine ⟨fun pins s σ H Q I h => ?_⟩
  rw [eval_ListComp]
  have hfree : ∀ y ∈ scope.names, y.2 = .free → ∃ c, X.env.cells.lookup y.1 = some c := fun y hy e => by
    rcases ok.free y hy e with k | k
    · exact I.ok.has _ (.inl k)
    · exact I.ok.has _ (.inr k)
  refine wpAny_comprehension_free (use := none) rfl hs (closure_ok hfree) ok.kind (fun y hy e => by rw [ok.uniq y hy, e])
    (thn (hi.run pins s σ H _ I h) fun xv s1 hx => thn hx fun itv s2 h2 => ?_)
  obtain ⟨it, fp, tn, J, H2, e, I2, T, st2, f2, q⟩ := h2
  subst e
  refine wpAny_newObj_type (newEnv_comp ?_) (by show 0 ≤ sizeLine; decide)
  generalize hD : s2.heap.objs.size = D
  have hDn : H2 D = none := I2.hok.fresh (Nat.le_of_eq hD)
  obtain ⟨Wi, ⟨m0, w0⟩, turn⟩ := q D hDn
  generalize hs3 : ({ s2 with heap := s2.heap.push { cls := .type "list", data := .seq ([] : List Value).toArray } } : Shared) = s3
  have I3 : Inv X pins σ (upd H2 D (.lst [])) s3 := by
    rw [← hs3]
    refine I2.laid (t' := s2.toks) (fun b o e => Heap.get?_push_of_some _ e) (Nat.le_of_eq hD) ⟨Nat.zero_le _, [], 0, .nil, ?_⟩
    rw [← hD]
    exact Heap.get?_push_size _ rfl
  have h3 : s3.heap = s2.heap.push { cls := .type "list", data := .seq ([] : List Value).toArray } := by rw [← hs3]
  have f3 : ∀ b ∈ fp, FpOk X pins (upd H2 D (.lst [])) b ∧ b < s3.heap.objs.size := fun b hb => by
    obtain ⟨o, e, _⟩ := T.obj _ _ st2 b hb
    have hlt := Heap.lt_size e
    refine ⟨⟨?_, (f2 b hb).2⟩, by rw [h3, Heap.size_push]; exact Nat.lt_succ_of_lt hlt⟩
    rw [upd_ne (by rw [← hD]; exact Nat.ne_of_lt hlt)]
    exact (f2 b hb).1
  have st3 : tn 0 s3.heap := T.keep _ _ _ st2 fun b _ o e => by rw [h3]; exact Heap.get?_push_of_some _ e
  have I4 := block_start I3 ok hN f3
  have pg := hg s3 (upd H2 D (.lst [])) s3.heap.objs.size (cellsFrom (s3.heap.objs.size + 1) scope.names (cloFrom X.env.cells scope.names [])) fp
  have pt := ht pins σ s3 (upd H2 D (.lst [])) s3.heap.objs.size (cellsFrom (s3.heap.objs.size + 1) scope.names (cloFrom X.env.cells scope.names [])) fp I3 fun b hb => (f3 b hb).1
  have pe := he pins σ s3 (upd H2 D (.lst [])) s3.heap.objs.size (cellsFrom (s3.heap.objs.size + 1) scope.names (cloFrom X.env.cells scope.names [])) fp I3 fun b hb => (f3 b hb).1
  show codeAny _ _ (.compStart (.ListComp elt [⟨tg, iter, ifs, 0⟩] scope pos) 0 (.ref it) (.ref D) (compEnvC scope (cellsFrom (s3.heap.objs.size + 1) scope.names (cloFrom X.env.cells scope.names [])) s3.heap.objs.size X.env)) (compPost (model X.prog X.w) X.A X.xe none (EP X pins σ Q) (.ref D) s3.heap.objs.size) { s3 with heap := pushCells (s3.heap.push { cls := .type "dict", data := .dict #[] }) scope.names }
  have nfp : ∀ b ∈ fp, (upd H2 D (.lst [])) b = none := fun b hb => (f3 b hb).1.1
  generalize hce : compEnvC scope (cellsFrom (s3.heap.objs.size + 1) scope.names (cloFrom X.env.cells scope.names [])) s3.heap.objs.size X.env = ce at I4 pg pt pe ⊢
  have cL : ce.locals = s3.heap.objs.size := by subst hce; rfl
  generalize hH3 : upd H2 D (.lst []) = H3 at I3 I4 pg pt pe w0 nfp f3
  generalize hs4 : ({ s3 with heap := pushCells (s3.heap.push { cls := .type "dict", data := .dict #[] }) scope.names } : Shared) = s4 at I4 ⊢
  have st4 : tn 0 s4.heap := T.keep _ _ _ st3 fun b _ o e => by rw [← hs4]; exact pushCells_keeps _ _ _ _ (Heap.get?_push_of_some _ e)
  have stat : ∀ {σ' : L2.St} {H' : Hp} {s' : Shared}, Inv (X.blk s3 H3 scope ce fp) [] σ' H' s' → (∀ b ∈ fp, H' b = none) → ∀ b ∈ fp, FpOk (X.blk s3 H3 scope ce fp) [] H' b := fun {σ' H' s'} I' hn b hb =>
    ⟨hn b hb, (I'.ok.exf b hb).1, I'.ok.exfs b hb, .inl hb, fun x c e => (I'.ok.exf b hb).2 x c e, fun p hp => absurd (show p ∈ ([] : List (Addr × Obj)) ++ [] from hp) (by simp)⟩
  have loop : codeAny (model X.prog X.w) X.A (.compLoop (.ListComp elt [⟨tg, iter, ifs, 0⟩] scope pos) 0 (.ref it) (.ref D) ce) (compPost (model X.prog X.w) X.A X.xe none (EP X pins σ Q) (.ref D) s3.heap.objs.size) s4 := by
    refine compLoop_any (fun n s' => ∃ i H', Inv (X.blk s3 H3 scope ce fp) [] (wipe σ (own.map (·.2))) H' s' ∧ tn i s'.heap ∧ (∀ b ∈ fp, H' b = none) ∧ Wi i n H') ?_ m0 ⟨0, H3, I4, st4, nfp, w0⟩
    rintro n s5 ⟨i, H5, I5, st5, n5, w5⟩
    rcases turn i n H5 w5 with ⟨stop, qq⟩ | ⟨go, Nx, hNx, step⟩
    · have td := T.done (X.blk s3 H3 scope ce fp) rfl rfl rfl hc i [] s5 _ H5 (fun _ _ => False) I5 (stat I5 n5) st5 stop
      refine thnF td fun r s6 ⟨hr, I6⟩ => ?_
      subst hr
      have I7 : Inv X pins σ H5 s6 := blk_out I3 (fun b hb => (f3 b hb).1) I6
      have nC : H5 s3.heap.objs.size = none := by
        have z : H5 ce.locals = none := I6.free
        rw [cL] at z
        exact z
      obtain ⟨m, hn, _⟩ := I6.loc
      have hn : s6.heap.Ns ce.locals m := hn
      rw [cL] at hn
      refine ⟨m, hn, fun h'' sb => ?_⟩
      obtain ⟨f0, f1, f2, f3, f4, f5⟩ := I3.fpOk (Nat.le_refl _) nC
      exact ⟨.ref D, H5, I7.turned (t' := s6.toks) (fun b o hb e => (sb.2 b hb).trans e) f0 f1 f3 f4 f5, rfl, qq⟩
    · have ti := T.item (X.blk s3 H3 scope ce fp) rfl rfl rfl hc i [] s5 _ H5 (fun _ _ => False) I5 (stat I5 n5) st5 go
      refine thnF ti fun r s6 ⟨u, hr, h6⟩ => ?_
      subst hr
      refine thnF h6 fun _ s7 ⟨x, H7, I7, r7, y7, st7, n7⟩ => ?_
      have I7' := I7.pinned (stat I7 n7) (T.obj _ _ st7)
      refine thnF (pg.run _ s7 _ H7 x u _ I7' r7 (step x H7 y7)) fun _ s8 ⟨σ8, H8, I8, hw8, q8⟩ => ?_
      refine thnF (pt.run _ s8 σ8 H8 _ I8 q8) fun b s9 ⟨H9, I9, q9⟩ => ?_
      have fin : ∀ {s' : Shared} {H' : Hp}, Inv (X.blk s3 H3 scope ce fp) ([] ++ pinsAt fp s7.heap) σ8 H' s' → Nx H' → ∃ m, m < n ∧ ∃ i H', Inv (X.blk s3 H3 scope ce fp) [] (wipe σ (own.map (·.2))) H' s' ∧ tn i s'.heap ∧ (∀ b ∈ fp, H' b = none) ∧ Wi i m H' := fun {s' H'} I' nx => by
        obtain ⟨m', hm, w'⟩ := hNx H' nx
        have pin' : ∀ b ∈ fp, ∀ o, s7.heap.get? b = some o → s'.heap.get? b = some o ∧ H' b = none := fun b hb o e =>
          let z := I'.pin (b, o) (List.mem_append_right _ (List.mem_append_right _ (mem_pinsAt hb e)))
          ⟨z.1, z.2.1⟩
        have hl : (wipe σ (own.map (·.2))).length = σ8.length := by rw [← hw8, wipe_length]
        refine ⟨m', hm, i + 1, H', (I'.unpinned (pins := [])).weak hl (fun j v e => ?_), T.keep _ _ _ st7 fun b hb o e => (pin' b hb o e).1, fun b hb => ?_, w'⟩
        · rw [← hw8] at e
          exact (wipe_some e).1
        · obtain ⟨o, e, _⟩ := T.obj _ _ st7 b hb
          exact (pin' b hb o e).2
      cases b with
      | false =>
        simp only [Bool.false_eq_true, if_false] at q9 ⊢
        exact fin I9 q9
      | true =>
        simp only [if_true] at q9 ⊢
        refine thnF (pe.run _ s9 σ8 H9 _ I9 q9) fun z s10 ⟨yv, H10, I10, r10, acc, hD10, hz10, nx⟩ => ?_
        exact L2.app_ok (X := X.blk s3 H3 scope ce fp) I10 hD10 hz10 r10 fun s11 I11 => fin I11 nx
  exact codeAny_compStart_list loop (T.self X.A 0 _ _ _ st4 loop)
end
section
variable {X : Cx} {W : Wd}
open LamX
/-- x(c), c the block's own name that holds a lambda -/
theorem fnCallD {x c : Str} {j k kb ix : Nat} {F : DAct → DAct} {gq : Bool} {l : LamT} {p pc pos : Pos} {pins : List (Addr × Obj)} {σ0 : L2.St} {s3 : Shared} {H3 : Hp} {scope : Scope} {ce : Env} {fp : List Addr} (hL : HasL X.prog X.w X.mg X.base W j x gq F) (hgq : gq = true → X.A.guards = some []) (hK : X.K = W.K)
    (hr : Room k X.A) (hj : j + 1 ≤ k) (hkb : kb + 2 ≤ k) (R : LamR (std W) X kb l) (I3 : Inv X pins σ0 H3 s3) (f3 : ∀ b ∈ fp, FpOk X pins H3 b) (hv : PE (X.blk s3 H3 scope ce fp) (.Name c pc) (tVar ix)) (hg : Gl (X.blk s3 H3 scope ce fp) x)
    (hdb : (x == ("__debug__" : Str)) = false) (hs : starEach [.Name c pc] ce = (false, eval (.Name c pc) ce) :: starEach [] ce) (hpl : (backTo pos (starEach [] ce)) = []) :
    PE (X.blk s3 H3 scope ce fp) (.Call (.Name x p) [.Name c pc] [] pos) (tD W (MB W X ix σ0 l) E0x (dLamC F l.d)) := by
  obtain ⟨g, fd, pg, bg, sg, Ng, a, b, hm, FD, hb, Sg, hNg, hva, hd, hcd, rfl, hG⟩ := hL
  obtain ⟨oc, od, dV, kV, doc, pm0, an, cdv, ct, osl, rfl, lk, hcg, _, _⟩ := FD.ex
  have hk : PySem.W.keepIn X.K (.ref g) = true := by
    rw [hK]
    exact FD.kp
  refine ⟨fun pinsB s σ H Q I h => ?_⟩
  obtain ⟨io, hp, as, rl, ⟨S, hn, hσ, f, hf1, hfr, c', pm, ctv, hf, hco⟩, P0⟩ := h
  refine wpAny_Call_Name_kw (ld_glob I hg hm ?_ hdb)
  refine PySem.W.callWith_K (h₀ := X.base) I.ok.mod.kin hk ?_ (by rfl) (by rfl)
  show wpAny _ _ (spliced (starEach [.Name c pc] ce)) _ _ s
  rw [hs]
  refine Calls.spliced_cons (thn (hv.run pinsB s σ H (fun v H1 => v = .ref f ∧ H1 = H) I ⟨.ref f, hf1, rfl, rfl⟩) fun u s' ⟨v, H1, I1, r1, q1⟩ => ?_)
  obtain ⟨ev, eH⟩ := q1
  subst ev
  subst eH
  obtain rfl : u = Value.ref f := r1
  refine Calls.spliced_nil ⟨I1.kIn, ?_⟩
  have J := blk_out I3 f3 I1
  have P1 := P0
  have kI : W.K.In s'.heap := by
    have := I1.kIn
    rw [← hK]
    exact this
  have e0 : Env0 X.prog X.w W.K X.mg X.base X.A X.stack s' H1 := by
    rw [← hK]
    exact I1.env0
  have rc : codeAny (model X.prog X.w) X.A (.call (.ref g) ⟨[.ref f], []⟩) (CR (L2.CX X.prog X.w) X.stack X.prog X.w H1 s' Q (WE E0x σ)) s' := by
    obtain ⟨k', rfl⟩ : ∃ k', k = k' + 1 := ⟨k - 1, by omega⟩
    refine LamX.run_ofS (K := W.K) (N := Ng) (ps := [a]) (us := [.ref f]) (vs := [.ref f]) lk hcg Sg hr e0 (hb s' [.ref f] kI rfl) (.cons rfl .nil) rfl fun hr' => ?_
    refine ⟨_, hG cdv X.A X.stack s' H1 (WE E0x σ) hgq (hr'.mono (by omega)) (takes_of rfl rfl rfl rfl) f c' (X.env.qual ++ "<lambda>") io H1 (fun g => l.d as g) (fun E1 H' Q' => H' f = some (FnL X l.params l.body l.scope f c' pm ctv) ∧ tD W (std W) (wxE E1) l.d σ0 H' Q') ?_ ?_, ?_⟩
    · intro E' pn xe p1 p2 tk'
      exact pe_actY (k := k' - 1) (t := fun E1 => tD W (std W) (wxE E1) l.d) J R hK tk' (hr'.mono (by omega)) (fun A outer s H E1 hr2 => R.hbody A outer s H E1 f c' (hr2.mono (by omega)) (takes_of rfl rfl rfl rfl)) hNg hva hd hcd
    · intro E1 io' H' hp' Q' e' rl' P'
      exact ⟨e'.cod _ _ hf, io', hp', as, rl', (std W).mono e' S, Pfn.st P'⟩
    · refine ⟨io, hp, List.replicate Ng.length none, rl, ⟨⟨by
        obtain ⟨hl, _⟩ := List.getElem?_eq_some_iff.mp hNg
        simp [L2.start]
        omega, fun i v z => ?_⟩, ⟨?_, ?_⟩, hco, Ext.refl⟩, ?_⟩
      · rw [List.getElem?_replicate] at z
        split at z <;> cases z
      · obtain ⟨hl, _⟩ := List.getElem?_eq_some_iff.mp hNg
        rw [List.getElem?_replicate, if_pos hl]
      · cases Ng with
        | nil => cases hNg
        | cons n r => rfl
      · have P2 : Pst W (RV W) E0x σ Q io H1 ((b (fun g => l.d as g) (List.replicate Ng.length none) hp).fin) := P1
        cases e : b (fun g => l.d as g) (List.replicate Ng.length none) hp with
        | nx s h =>
          rw [e] at P2
          exact fun io' H' σ' e' rl' _ => P2 io' H' .non e' rl' .non
        | rt s h =>
          rw [e] at P2
          exact P2
        | bk s h =>
          rw [e] at P2
          exact P2.elim
        | ct s h =>
          rw [e] at P2
          exact P2.elim
        | exc t fs s h =>
          rw [e] at P2
          exact fun io' H' σ' cls d e' rl' _ rx => P2 io' H' cls d e' rl' rx
        | stuck =>
          rw [e] at P2
          exact P2
  refine wpAny_call (codeAny_mono rc fun r s2 hq => ?_)
  cases r with
  | error e => exact passAt tkE0 σ pinsB H1 s' e s2 I1 hq
  | ok fl =>
    cases fl with
    | ret u => exact I1.after hq
    | next => exact False.elim hq
    | brk => exact False.elim hq
    | cont => exact False.elim hq
/-- [e(c) for c in lambdas if t(c)]: a test and an item for each lambda -/
def dFcL (D : Nat) (s0 : Sl) : List (DT × DE) → Hep → R AV
  | [], h => .ok (.ref D) h
  | (t, e) :: r, h => (t s0 h).noX.bind fun b h1 => match b with
    | false => dFcL D s0 r h1
    | true => (e s0 h1).noX.bind fun y h2 => match addAt D y h2 with
      | none => .stuck
      | some h3 => dFcL D s0 r h3
def dFc (ix : Nat) (l : List (DT × DE)) : DE := fun s h => if ix < s.length then dFcL h.length (s.set ix none) l (h ++ [AO.lst []]) else .stuck
theorem fcD {E : WX} {elt : Expr} {ifs : List Expr} {scope : Scope} {c y : Str} {pc py pos : Pos} {ix ic : Nat} {lams : List LamT} {qs : List (DT × DE)} (hc : X.calm = true) (hN : X.N.Nodup) (hK : X.K = W.K) (hv : PE X (.Name y py) (tVar ic)) (ok : BlkOk X.N X.env.scope scope [(c, ix)])
    (hg : ∀ (s : Shared) (H : Hp) (C : Addr) (cl : List (Str × Addr)) (fp : List Addr), PG (X.blk s H scope (compEnvC scope cl C X.env) fp) (.Name c pc) (gName ix))
    (ho : FcOk W X ix scope elt ifs lams qs) :
    PE X (.ListComp elt [⟨.Name c pc, .Name y py, ifs, 0⟩] scope pos) (tD W (MC W X ic lams) E (dFc ix qs)) := by
  obtain ⟨ls, rfl, rfl, hto⟩ := ho.zip
  have ht := fun q hq pins σ s H C cl fp I f => (hto q hq pins σ s H C cl fp I f).1
  have he := fun q hq pins σ s H C cl fp I f => (hto q hq pins σ s H C cl fp I f).2
  have hi : PI X (.Name c pc) (.Name y py) (fun σ H R => ∃ p xs, σ[ic]? = some (some (.ref p)) ∧ SqL X.K H p xs ∧ R (Itl X.K p) H) := by
    refine ⟨fun pins s σ H R I ⟨p, xs, h1, h2, h3⟩ => ?_⟩
    refine thn (hv.run pins s σ H (fun v H1 => v = .ref p ∧ H1 = H) I ⟨.ref p, h1, rfl, rfl⟩) fun v s1 ⟨x, H1, I1, r1, q1⟩ => ?_
    obtain ⟨rfl, rfl⟩ := q1
    exact iter_val I1 r1 (.inl ⟨p, rfl, ⟨xs, h2⟩, h3⟩)
  refine peI (pe_lcI (own := [(c, ix)]) (tt := fun σ σ2 H Q => ∃ q ∈ ls, tDT W (MB W X ix σ q.1) E0x q.2.1 σ2 H Q) (te := fun σ σ2 H Q => ∃ q ∈ ls, tD W (MB W X ix σ q.1) E0x q.2.2 σ2 H Q) hc hN hi ok hg
    (fun pins σ s H C cl fp I f => ⟨fun pins2 s2 σ2 H2 Q I2 ⟨q, hq, z⟩ => (ht q hq pins σ s H C cl fp I f).run pins2 s2 σ2 H2 Q I2 z⟩)
    (fun pins σ s H C cl fp I f => ⟨fun pins2 s2 σ2 H2 Q I2 ⟨q, hq, z⟩ => (he q hq pins σ s H C cl fp I f).run pins2 s2 σ2 H2 Q I2 z⟩)) fun σ H Q ⟨io, hp, as, rl, ⟨S, hn, p, o, fs, hσ, hH, Fn⟩, P⟩ => ?_
  have P : Pst W (RV W) E σ Q io H (if ix < as.length then dFcL hp.length (as.set ix none) (ls.map (·.2)) (hp ++ [AO.lst []]) else .stuck) := P
  by_cases hix : ix < as.length
  case neg =>
    rw [if_neg hix] at P
    exact P.elim
  rw [if_pos hix] at P
  have hsq : ∀ {io' H'}, Ext W io H io' H' → SqL X.K H' p (fs.map V.ref) := fun e => .inl (.inr ⟨o, e.frz _ _ _ hH⟩)
  refine ⟨p, _, hσ, hsq Ext.refl, fun D hD => ?_⟩
  have eD := Ext.new (W := W) io (.lst []) hD [D]
  have rlD : Rl W (io ++ [D]) (hp ++ [AO.lst []]) (upd H D (.lst [])) := rl.new hD (.lst .nil)
  have atD := rl.atLen D
  have S' : (std W).rel io H (as.set ix none) σ := ⟨by simp [S.1], fun i v z => by
    by_cases hj : i = ix
    · subst hj
      rw [List.getElem?_set_self hix] at z
      cases z
    · rw [List.getElem?_set_ne (Ne.symm hj)] at z
      exact S.2 i v z⟩
  have hlen : fs.length = ls.length := by rw [Fn.1, List.length_map]
  refine ⟨fun i m H2 => i + m = ls.length ∧ ∃ io2 hp2, Ext W (io ++ [D]) (upd H D (.lst [])) io2 H2 ∧ Rl W io2 hp2 H2 ∧ Pst W (RV W) E σ Q io2 H2 (dFcL hp.length (as.set ix none) ((ls.map (·.2)).drop i) hp2), ⟨ls.length, by omega, _, _, Ext.refl, rlD, Pst.later P eD⟩, ?_⟩
  rintro i m H2 ⟨him, io2, hp2, e2, rl2, P2⟩
  have e12 := eD.trans e2
  cases m with
  | zero =>
    rw [List.drop_eq_nil_of_le (by simp; omega)] at P2
    exact .inl ⟨⟨_, hsq e12, by simp; omega⟩, Pst.ok P2 rl2 (.ref (e2.at atD))⟩
  | succ m =>
    have hil : i < ls.length := by omega
    obtain ⟨f, hfi⟩ : ∃ f, fs[i]? = some f := ⟨_, List.getElem?_eq_getElem (by rw [hlen]; exact hil)⟩
    obtain ⟨q, hqi⟩ : ∃ q, ls[i]? = some q := ⟨_, List.getElem?_eq_getElem hil⟩
    have hq : q ∈ ls := List.mem_of_getElem? hqi
    have hqm : (ls.map (·.2))[i]? = some q.2 := by rw [List.getElem?_map, hqi]; rfl
    have hdr : (ls.map (·.2)).drop i = q.2 :: (ls.map (·.2)).drop (i + 1) := by
      obtain ⟨hh, e⟩ := List.getElem?_eq_some_iff.mp hqm
      rw [List.drop_eq_getElem_cons hh, e]
    rw [hdr] at P2
    have hF : LamF X q.1 H f := Fn.2 i q.1 f (by rw [List.getElem?_map, hqi]; rfl) hfi
    have hvi : (fs.map V.ref)[i]? = some (.ref f) := by rw [List.getElem?_map, hfi]; rfl
    refine .inr ⟨⟨_, _, hsq e12, hvi⟩, fun H3 => ∃ io3 hp3, Ext W (io ++ [D]) (upd H D (.lst [])) io3 H3 ∧ Rl W io3 hp3 H3 ∧ Pst W (RV W) E σ Q io3 H3 (dFcL hp.length (as.set ix none) ((ls.map (·.2)).drop (i + 1)) hp3), fun H' z => ⟨m, Nat.lt_succ_self m, by omega, z⟩, fun v H3 hy => ?_⟩
    obtain ⟨eH, hw⟩ := hy
    subst eH
    have hvv := hw _ (hsq e12)
    rw [hvi] at hvv
    cases hvv
    show _ ∧ _
    refine ⟨by simp [wipe], q, hq, ?_⟩
    have hl : ix < σ.length := by rw [← S.1]; exact hix
    have MS : ∀ {io' H'}, Ext W io H io' H' → (MB W X ix σ q.1).rel io' H' (as.set ix none) ((wipe σ ([(c, ix)].map (·.2))).set ix (some (.ref f))) := fun e => by
      refine ⟨(std W).mono e S', List.getElem?_set_self hix, fun j hj => ?_, f, ?_, hF.mono e⟩
      · rw [List.getElem?_set_ne (Ne.symm hj)]
        show (σ.set ix none)[j]? = _
        rw [List.getElem?_set_ne (Ne.symm hj)]
      · exact List.getElem?_set_self (by rw [wipe_length]; exact hl)
    refine (step0 (rh := fun _ _ b c => b = c) (f := q.2.1) rl2 (MS e12) P2).imp fun b H4 q4 => ?_
    obtain ⟨io4, hp4, b', e4, rl4, rb, P4⟩ := q4
    subst rb
    cases b' with
    | false => exact iteF ⟨io4, hp4, e2.trans e4, rl4, P4⟩
    | true =>
      refine iteT ⟨q, hq, (step0 (rh := RV W) (f := q.2.2) rl4 (MS (e12.trans e4)) P4).imp fun y H5 ⟨io5, hp5, a, e5, rl5, ra, P5⟩ => ?_⟩
      unfold addAt at P5
      have atD5 : io5[hp.length]? = some D := e5.at (e4.at (e2.at atD))
      cases z5 : hp5[hp.length]? with
      | none =>
        simp only [z5] at P5
        exact P5.elim
      | some o5 =>
        cases o5 with
        | lst acc =>
          simp only [z5] at P5
          by_cases hl5 : acc.length < SZ
          · simp only [if_pos hl5] at P5
            obtain ⟨avs, ea, rac⟩ := rl5.lst atD5 z5
            refine ⟨avs, ea, by rw [← rac.len]; exact szT hl5, ?_⟩
            have es : Ext W io5 H5 io5 (upd H5 D (.lst (avs ++ [y]))) := Ext.set _ ea trivial
            exact ⟨io5, _, ((e2.trans e4).trans e5).trans es, rl5.set atD5 ea trivial (.lst ((rac.app (.cons ra .nil)).mono es)), Pst.later P5 es⟩
          · simp only [if_neg hl5] at P5
            exact P5.elim
        | _ =>
          simp only [z5] at P5
          exact P5.elim
/-- what is not reached -/
theorem noD {M : Md W} {E : WX} {e : Expr} : PE X e (tD W M E fun _ _ => .stuck) := ⟨fun _ _ _ _ _ _ ⟨_, _, _, _, _, P⟩ => P.elim⟩
end
end Dn
namespace Dn
open PySem PySem.Spec PyProof.Rows L2
section
variable {W : Wd} {M : Md W} {E : WX} {X : Cx}
end
end Dn
namespace PySem
open Sem (wp)
namespace FZ
theorem owner_slice : Manifest.owners.lookup (String.ofList ['e', 'c', 'i', 'l', 's'].reverse) = some Manifest.sig_slice := by kernel_rfl
theorem slot_slice_ga : Slot "slice" "__getattribute__" "slice.__getattribute__" :=
  .of (owner := "slice") (n := "__getattribute__") (by rw [typeLookup_type, builtinLookup_eq_fast]; kernel_rfl) (by decide +kernel) (by decide +kernel) (by decide +kernel)
    (by first | exact .inl (by decide +kernel) | exact .inr (by decide +kernel)) (by rw [isSubtype_type]; kernel_rfl)
theorem args_slice_ga_2 (a b : Value) : argsOk "slice.__getattribute__" ⟨[a, b], []⟩ := by
  unfold argsOk; rw [signature?_of (id := "slice.__getattribute__") (n := ['_', '_', 'e', 't', 'u', 'b', 'i', 'r', 't', 't', 'a', 't', 'e', 'g', '_', '_']) (o := ['e', 'c', 'i', 'l', 's']) (by kernel_rfl) owner_slice]; kernel_rfl
theorem entry_slice_ga : entryFor table "slice.__getattribute__" = some Builtin.«object.__getattribute__» :=
  entryFor_alias (id' := "object.__getattribute__") (by kernel_rfl) (by first | rfl | decide +kernel) (by decide +kernel) (by kernel_rfl)
theorem lk_slice_class : typeLookup (.type "slice") "__class__" = pure (some (.builtin "object.__class__")) := by rw [typeLookup_type, builtinLookup_eq_fast]; kernel_rfl
theorem sub_slice_class_owner : isSubtype (.type "slice") (.type (".".intercalate ("object.__class__".cutAt '.').dropLast)) = pure true := by
  rw [F.owner_object_class, isSubtype_type]; kernel_rfl
theorem sub_slice_int : isSubtype (.type "slice") (.type "int") = pure false := by rw [isSubtype_type]; kernel_rfl
theorem slot_slice_repr : Slot "slice" "__repr__" "slice.__repr__" :=
  .of (owner := "slice") (n := "__repr__") (by rw [typeLookup_type, builtinLookup_eq_fast]; kernel_rfl) (by decide +kernel) (by decide +kernel) (by decide +kernel)
    (by first | exact .inl (by decide +kernel) | exact .inr (by decide +kernel)) (by rw [isSubtype_type]; kernel_rfl)
theorem entry_slice_repr : entryFor table "slice.__repr__" = some Builtin.«slice.__repr__» := entryFor_of_tree (by kernel_rfl)
theorem args_slice_repr_1 (a : Value) : argsOk "slice.__repr__" ⟨[a], []⟩ := by
  unfold argsOk; rw [signature?_of (id := "slice.__repr__") (n := ['_', '_', 'r', 'p', 'e', 'r', '_', '_']) (o := ['e', 'c', 'i', 'l', 's']) (by kernel_rfl) owner_slice]; kernel_rfl
end FZ
section
variable {prog : Program} {w : World} {A : Around} {E : Value → Shared → Prop} {h : Heap} {g : Array GenState} {d : Drawn} {t : Nat} {os : OsState} {a : Addr} {o : Obj}
theorem class_get_slice {R : Result → Shared → Prop} (hx : h.get? a = some o) (hc : o.cls = .type "slice") (hq : R (.ok (.ret (.type "slice"))) ⟨h, g, d, t, os⟩) :
    codeAny (model prog w) A (.call (.builtin "getset_descriptor.__get__") ⟨[.builtin "object.__class__", .ref a, .type "slice"], []⟩) R ⟨h, g, d, t, os⟩ := by
  have hT : (⟨h, g, d, t, os⟩ : Shared).TypeIs (.ref a) "slice" := ⟨_, hx, hc⟩
  have hT5 : (⟨h, g, d, t, os⟩ : Shared).TypeIs (.builtin "object.__class__") "getset_descriptor" := F.typeOf_object_class
  have f8 := FZ.sub_slice_class_owner
  refine codeAny_call_builtin F.slot_gs_get.plain F.entry_gs_get (F.slot_gs_get.check _ _ _ _ _ _ _ _ hT5 (F.args_gs_get _ _ _) ?_)
  repeat (any_goals (first | assumption | wp_step))
  refine ⟨Code.quiet_builtin _ (by decide +kernel), codeAny_builtin F.entry_object_class ?_⟩
  repeat (any_goals (first | assumption | wp_step))
theorem class_entry_slice {tk : Tok} {Q : Fin → Shared → Prop} (hx : h.get? a = some o) (hc : o.cls = .type "slice") (hq : Q (.done (.ret (.type "slice"))) ⟨h, g, d, t, os⟩) :
    wpAny (model prog w) A (Builtin.«object.__getattribute__» ⟨[.ref a, .str "__class__" tk], []⟩) Q E ⟨h, g, d, t, os⟩ := by
  have hT : (⟨h, g, d, t, os⟩ : Shared).TypeIs (.ref a) "slice" := ⟨_, hx, hc⟩
  have hT5 : (⟨h, g, d, t, os⟩ : Shared).TypeIs (.builtin "object.__class__") "getset_descriptor" := F.typeOf_object_class
  have f4 := FZ.lk_slice_class
  have f5 := F.typeOf_object_class
  have f6 := F.slot_gs_get.lookup
  have f7 := F.slot_gs_set.lookup
  repeat (any_goals (first | assumption | wp_step))
  refine class_get_slice hx hc ?_
  repeat (any_goals (first | assumption | wp_step))
theorem class_call_slice {tk : Tok} {R : Result → Shared → Prop} (hx : h.get? a = some o) (hc : o.cls = .type "slice") (hq : R (.ok (.ret (.type "slice"))) ⟨h, g, d, t, os⟩) :
    codeAny (model prog w) A (.call (.builtin "slice.__getattribute__") ⟨[.ref a, .str "__class__" tk], []⟩) R ⟨h, g, d, t, os⟩ :=
  codeAny_call_builtin FZ.slot_slice_ga.plain FZ.entry_slice_ga (FZ.slot_slice_ga.check _ _ _ _ _ _ _ _ (show (⟨h, g, d, t, os⟩ : Shared).TypeIs (.ref a) "slice" from ⟨_, hx, hc⟩) (FZ.args_slice_ga_2 _ _) (class_entry_slice hx hc hq))
theorem class_by_slice {tk : Tok} {Q : Value → Shared → Prop} (hx : h.get? a = some o) (hc : o.cls = .type "slice") (hq : Q (.type "slice") ⟨h, g, d, t, os⟩) : wpAny (model prog w) A (getAttrBy (.ref a) (.str "__class__" tk) false) Q E ⟨h, g, d, t, os⟩ := by
  have hT : (⟨h, g, d, t, os⟩ : Shared).TypeIs (.ref a) "slice" := ⟨_, hx, hc⟩
  have f2 := FZ.slot_slice_ga.lookup
  have f3 := FZ.slot_slice_ga.bind (.ref a)
  repeat (any_goals (first | assumption | wp_step))
  refine class_call_slice hx hc ?_
  repeat (any_goals (first | assumption | wp_step))
theorem class_attr_slice {Q : Option Value → Shared → Prop} (hx : h.get? a = some o) (hc : o.cls = .type "slice") (hq : Q (some (.type "slice")) ⟨h, g, d, t + 1, os⟩) : wpAny (model prog w) A (getAttr? (.ref a) "__class__") Q E ⟨h, g, d, t, os⟩ := by
  unfold getAttr? getAttrBy?
  repeat (any_goals (first | assumption | with_reducible apply class_by_slice hx hc | wp_step))
theorem isi_nested_slice {T : String} {dep : Int} {tk : Tok} {Q : Fin → Shared → Prop} (hx : h.get? a = some o) (hc : o.cls = .type "slice") (hne : (Value.type "slice" == Value.type T) = false) (hty : typeOf (.type T) = pure (.type "type"))
    (hsub : isSubtype (.type "slice") (.type T) = pure false) (hq : Q (.done (.ret (.bool false))) ⟨h, g, d, t + 1, os⟩) :
    wpAny (model prog w) A (Builtin.«isinstance.nested» ⟨[.ref a, .type T, .int dep tk], []⟩) Q E ⟨h, g, d, t, os⟩ := by
  have hT : (⟨h, g, d, t, os⟩ : Shared).TypeIs (.ref a) "slice" := ⟨_, hx, hc⟩
  repeat (any_goals (first | assumption | with_reducible apply class_attr_slice hx hc | wp_step))
theorem isi_false_slice {T : String} (hne : (Value.type "slice" == Value.type T) = false) (hty : typeOf (.type T) = pure (.type "type")) (hsub : isSubtype (.type "slice") (.type T) = pure false) :
    Meets (Builtin.«isinstance» ⟨[.ref a, .type T], []⟩) (fun _ R s => (∃ o, s.heap.get? a = some o ∧ o.cls = .type "slice") ∧ R (.ok (.ret (.bool false))) { s with toks := s.toks + 1 }) :=
  fun _ _ _ _ s hs => by
    obtain ⟨h, g, d, t, os⟩ := s
    obtain ⟨⟨o, hx, hc⟩, hq⟩ := hs
    exact isinstance_outer (isi_nested_slice hx hc hne hty hsub hq)
theorem slice_int {s : Shared} {Q : Value → Shared → Prop} (hx : s.heap.get? a = some o) (hc : o.cls = .type "slice") (h : Q (.bool false) { s with toks := s.toks + 1 }) : wpAny (model prog w) A (call (.builtin "isinstance") [.ref a, .type "int"]) Q E s :=
  call_isinstance (isi_false_slice (by decide +kernel) F.isi_meta_int FZ.sub_slice_int) ⟨⟨o, hx, hc⟩, h⟩
theorem slice_repr {s : Shared} {Q : Value → Shared → Prop} {t u : Tok} (hu : A.units + 2 < cLine) (hx : s.heap.get? a = some { cls := .type "slice", data := .fields #[.int 0 t, .int 2 u, .none] })
    (h : ∀ k k', Q (.str "slice(0, 2, None)" k) { s with toks := k' }) : wpAny (model prog w) A (call (.builtin "repr") [.ref a]) Q E s := by
  have hT : s.TypeIs (.ref a) "slice" := ⟨_, hx, rfl⟩
  refine call_repr_slot (by omega) hT FZ.slot_slice_repr.toG ?_
  refine wpAny_call (codeAny_call_builtin FZ.slot_slice_repr.plain FZ.entry_slice_repr (FZ.slot_slice_repr.check _ _ _ _ _ _ _ _ hT (FZ.args_slice_repr_1 _) ?_))
  show wpAny _ _ (Builtin.sliceReprAt 0 ⟨[.ref a], []⟩) _ _ s
  unfold Builtin.sliceReprAt
  refine wpAny_bind (wpAny_pure ?_)
  refine wpAny_bind (?_ : wpAny _ _ (Builtin.Slice.sliceFields (.ref a)) _ _ s)
  unfold Builtin.Slice.sliceFields
  refine wpAny_bind (wpAny_field hx rfl rfl ?_)
  refine wpAny_bind (wpAny_field hx rfl rfl ?_)
  refine wpAny_bind (wpAny_field hx rfl rfl ?_)
  refine wpAny_pure ?_
  dsimp only
  have big : ∀ n : Nat, n ≤ 100 → n ≤ sizeLine := fun n hn => Nat.le_trans hn (by decide)
  refine wpAny_bind (ReprIs.int (a := 0) t (by decide) _ (big _ (by decide +kernel)) _ _ _ _ fun k1 => ?_)
  refine wpAny_bind (ReprIs.int (a := 2) u (by decide) _ (big _ (by decide +kernel)) _ _ _ _ fun k2 => ?_)
  refine wpAny_bind (ReprIs.none _ (big _ (by decide +kernel)) _ _ _ _ fun k3 => ?_)
  have e : (("slice(" : Str) ++ (toString (0 : Int) : String) ++ ", " ++ (toString (2 : Int) : String) ++ ", " ++ ("None" : String) ++ ")") = ("slice(0, 2, None)" : Str) := by decide +kernel
  rw [e]
  have fz : ("slice(0, 2, None)" : Str).length ≤ sizeLine := big _ (by decide +kernel)
  repeat (any_goals (first | assumption | wp_step))
  exact ⟨_, _, rfl, h _ _⟩
end
end PySem
namespace PySem.W
open PySem.Calls PyProof.Rows
section
variable {prog : Program} {w : World} {A : Around} {E : Value → Shared → Prop} {s : Shared} {h₀ : Heap} {L : Addr} {m : Str → Option Value} {K : Frag} {x C f : Addr} {ox : Obj} {od : Option Obj}
theorem sub_Ks {value slice : Expr} {i : Value} {Q : Value → Shared → Prop} (F : Fr h₀ L s.heap m) (X₀ : K.In h₀) (I : InstAt s.heap x ox C od) (hq : noSeq K C = true) (hs : findIn K (.ref C) "__getitem__" = some (some (.ref f))) (hf : fnIn K f = true) (hfn : isFn K (.ref f) = true)
    (h : wpAny (model prog w) A (call (.ref f) [.ref x, i]) Q E s)
    (hsl : subscripted slice true (.ref x) i = operate [i, .ref x] (getItem (.ref x) i)) :
    wpAny (model prog w) A (subscriptTail value slice (.ref x) i) Q E s := by
  have X := X₀.keeps F.keep
  unfold fnIn at hf
  split at hf
  · rename_i e
    unfold subscriptTail getitemInPython
    refine wpAny_bind (wpAny_bind (wpAny_bind (I.type.here ((looks_findIn X hs).here ?_))))
    dsimp only
    refine wpAny_bind (wpAny_load (X _ _ e) (wpAny_pure ?_))
    dsimp only
    rw [hsl]
    refine wpAny_bind (wpAny_operateT ?_)
    unfold getItem sequenceKey
    refine wpAny_holding (wpAny_bind (wpAny_bind (I.type.here ?_)))
    refine wpAny_bind ((anyM_none X hq).here ?_)
    rw [if_pos (show (!false) = true from rfl)]
    refine wpAny_pure (wpAny_bind (special_fn X I hs (beq_iff_eq.mp hfn) (wpAny_mono h (fun v s' z => ?_) fun _ _ z => z)))
    refine wpAny_pure ?_
    show wpAny (model prog w) A (letTemporaryGo value (.ref x) v >>= fun _ => pure v) Q E s'
    exact wpAny_bind (wpAny_letTemporaryGo (wpAny_pure z))
  · cases hf
end
end PySem.W
namespace Dn
open PySem PySem.Spec PyProof.Rows L2
section
variable {W : Wd} {M : Md W} {E : WX} {X : Cx}
theorem slc_obj {pins : List (Addr × Obj)} {σ : L2.St} {H : Hp} {s : Shared} {a : Addr} (I : Inv X pins σ H s) (h : H a = some (SlO a)) : ∃ t u, s.heap.get? a = some { cls := .type "slice", data := .fields #[.int 0 t, .int 2 u, .none] } := (I.hok a _ h).1
def isiSl : DL := fun as h => match as with
  | [.slc, .ty n] => if n = "int" then some (.bl false, h) else none
  | _ => none
theorem cIsiS : CallR X (.builtin "isinstance") (tl W isiSl) := by
  intro pins s σ H xs us Q I r ⟨io, hp, as, rl, ra, P⟩
  match as, ra, P with
  | [.slc, .ty n], ra, P =>
    obtain ⟨x, y, rfl, r1, r2⟩ := two_inv ra
    have P' : Pop W (RV W) Q io H (if n = "int" then some (AV.bl false, hp) else none) := P
    by_cases c : n = "int"
    · rw [if_pos c] at P'
      subst c
      cases r1 with
      | slc h1 =>
        cases r2
        cases r with
        | cons ru rr =>
          cases rr with
          | cons rt rr =>
            cases rr
            cases ru
            cases rt
            obtain ⟨t, u, ho⟩ := slc_obj I h1
            exact PySem.slice_int ho rfl ⟨.bl false, H, I.tok _, rfl, P'.ok rl (.bl _)⟩
    · rw [if_neg c] at P'
      exact P'.elim
def reprSl : DL := fun as h => match as with
  | [.slc] => some (.str "slice(0, 2, None)", h)
  | _ => none
theorem cReprS (hu : X.A.units + 65 < cLine) : CallR X (.builtin "repr") (tl W reprSl) := by
  intro pins s σ H xs us Q I r ⟨io, hp, as, rl, ra, P⟩
  match as, ra, P with
  | [.slc], ra, P =>
    obtain ⟨x, rfl, r1⟩ := one_inv ra
    have P' : Pop W (RV W) Q io H (some (AV.str "slice(0, 2, None)", hp)) := P
    cases r1 with
    | slc h1 =>
      obtain ⟨v, rfl, rv⟩ := vals1 r
      cases rv
      obtain ⟨t, u, ho⟩ := slc_obj I h1
      exact PySem.slice_repr (by omega) ho fun k k' => ⟨.str _, H, I.kept (t' := k') fun _ _ z => z, ⟨k, rfl⟩, P'.ok rl (.str _)⟩
variable {k j t : Nat} {ps : List Str} {F : DF} {o : Expr} {fo : DE} {pos p0 p1 p2 : Pos} {i0 i1 : Option Int}
/-- o[0:2], o of an own class -/
theorem ixSD {e0 e1 : Expr} (H : HasO X.prog X.w X.mg X.base W j t "__getitem__" ps 2 F) (hr : Room k X.A) (hj : j + 1 ≤ k) (hK : X.K = W.K) (tk : Takes X E) (ho : PE X o (tD W M E fo)) (h0 : PE X e0 (tC (.int 0))) (h1 : PE X e1 (tC (.int 2))) :
    PE X (.Subscript o (.Slice (some e0) (some e1) none p2) pos) (tD W M E (dOpX (ixOK t F) fo (dC .slc))) := by
  obtain ⟨a, fd, hm', hfi, hF, hb⟩ := H
  rw [← hK] at hm' hF hfi
  refine ⟨fun pins s σ H Q I ⟨io, hp, as, rl, S, P⟩ => ?_⟩
  refine Subscript_ (thn (ho.run pins s σ H _ I (step (rh := RV W) (f := fo) rl S P)) fun v s1 ⟨xv, H1, I1, rx, io1, hp1, a1, e1', rl1, ra1, P1⟩ => ?_)
  refine wpAny_Slice ?_
  rw [evalPart_some]
  refine thn (h0.run pins s1 σ H1 (fun v H2 => v = .int 0 ∧ H2 = H1) I1 ⟨rfl, rfl⟩) fun vl s2 ⟨x0, H2, I2, r0, q0⟩ => ?_
  obtain ⟨rfl, rfl⟩ := q0
  rw [evalPart_some]
  refine thn (h1.run pins s2 σ H2 (fun v H3 => v = .int 2 ∧ H3 = H2) I2 ⟨rfl, rfl⟩) fun vu s3 ⟨x1, H3, I3, r1, q1⟩ => ?_
  obtain ⟨rfl, rfl⟩ := q1
  obtain ⟨t0, rfl⟩ := r0
  obtain ⟨t1, rfl⟩ := r1
  rw [evalPart_none]
  refine wpAny_pure ?_
  have hn : H3 s3.heap.objs.size = none := I3.hok.fresh (Nat.le_refl _)
  have I4 : Inv X pins σ (upd H3 s3.heap.objs.size (SlO s3.heap.objs.size)) { s3 with heap := s3.heap.push { cls := .type "slice", data := .fields #[.int 0 t0, .int 2 t1, .none] } } :=
    I3.laid (t' := s3.toks) (fun b ob q => Heap.get?_push_of_some _ q) (Nat.le_refl _) ⟨⟨t0, t1, Heap.get?_push_size _ rfl⟩, ⟨_, Heap.get?_push_size _ rfl⟩, fun h1 h2 ⟨t, u, a⟩ st => ⟨t, u, st _ a⟩⟩
  have ex : Ext W io1 H3 io1 (upd H3 s3.heap.objs.size (SlO s3.heap.objs.size)) := Ext.new0 hn
  have rl4 := rl1.other (ho := SlO s3.heap.objs.size) hn
  have P2 : Pst W (RV W) E σ Q io1 H3 (ixOK t F a1 .slc hp1) := P1
  have P4 := Pst.later P2 ex
  unfold ixOK at P4
  by_cases ht : isT hp1 t a1 = true
  · rw [if_pos ht] at P4
    obtain ⟨q, dx, vs, rfl, ea, hk⟩ := isT_in ht rl4 (ra1.mono ex)
    obtain rfl : v = Value.ref q := rx
    obtain ⟨od, J⟩ := inst_of I4 ea
    obtain ⟨mm, fr⟩ := I4.fr
    have cb := W.cb t hk
    rw [← hK] at cb
    refine PySem.W.sub_Ks (A := X.A) (slice := .Slice (some e0) (some e1) none p2) (i := .ref s3.heap.objs.size) fr I4.ok.mod.kin J (He.ba cb).1 hm'.at_ hfi hm'.fn ?_ rfl
    exact run_sp hF (hr.mono (by omega)) I4.env0 hb hK tk I4 (vs := [.ref q, .ref s3.heap.objs.size]) (.cons rfl (.cons rfl .nil)) rl4 (.cons (ra1.mono ex) (.cons (.slc upd_same) .nil)) rfl rfl P4
  · rw [if_neg ht] at P4
    exact P4.elim
end
end Dn
namespace Q
open PySem Dn
def p__law_source : DS := (dSeq (dSet 2 (dIf (dTst (dOp ltAV (dVar 1) (dCB lenL (dCons (dVar 0) dNil)))) (dOp idxAV (dVar 0) (dVar 1)) (dC (.int 0)))) (dSeq (dSet 3 (dIf (dTst (dOp geAV (dCB absL (dCons (dVar 2) dNil)) (dOp powAV (dC (.int 10)) (dC (.int 18))))) (dCB absL (dCons (dVar 2) dNil)) (dC (.int 0)))) (dRet (dLst (dCons (dVar 3) (dCons (dOp addAV (dOp addAV (dOp addAV (dOp modAV (dVar 2) (dC (.int 1000000000000000003))) (dOp mulAV (dOp mulAV (dC (.int 9161)) (dVar 1)) (dVar 1))) (dOp mulAV (dC (.int 71)) (dVar 1))) (dC (.int 23))) (dCons (dC (.int 0)) dNil)))))))
def f__law_source : DF := dFun 4 p__law_source
def p__law_draw : DS := (dSeq (dIfS (dTst (dOp gtAV (dOp idxAV (dVar 0) (dC (.int 0))) (dC (.int 0))))
  (dSeq (dSet 2 (dOp modAV (dOp idxAV (dVar 0) (dC (.int 0))) (dVar 1))) (dSeq (dPut (dVar 0) (dC (.int 0)) (dOp fdivAV (dOp idxAV (dVar 0) (dC (.int 0))) (dVar 1))) (dRet (dVar 2))))
  dSkip) (dSeq (dSet 3 (dTup (dCons (dC (.int 2147483647)) (dCons (dC (.int 2147483629)) (dCons (dC (.int 2147483587)) (dCons (dC (.int 2147483579)) (dCons (dC (.int 2147483563)) (dCons (dC (.int 2147483549)) (dCons (dC (.int 2147483543)) (dCons (dC (.int 2147483497)) dNil)))))))))) (dSeq (dPut (dVar 0) (dC (.int 2)) (dOp addAV (dOp idxAV (dVar 0) (dC (.int 2))) (dC (.int 1)))) (dSeq (dSet 4 (dOp idxAV (dVar 0) (dC (.int 2)))) (dSeq (dSet 5 (dOp addAV (dOp addAV (dOp mulAV (dOp idxAV (dVar 0) (dC (.int 1))) (dOp addAV (dOp mulAV (dC (.int 2)) (dVar 4)) (dC (.int 11)))) (dOp mulAV (dOp mulAV (dC (.int 5857)) (dVar 4)) (dVar 4))) (dC (.int 79)))) (dSeq (dSet 6 (dOp modAV (dOp powAV (dVar 5) (dC (.int 3))) (dOp idxAV (dVar 3) (dOp modAV (dVar 4) (dC (.int 8)))))) (dRet (dOp modAV (dOp fdivAV (dOp modAV (dOp mulAV (dVar 6) (dOp addAV (dOp fdivAV (dVar 6) (dC (.int 4111))) (dC (.int 43)))) (dOp idxAV (dVar 3) (dOp modAV (dOp addAV (dVar 4) (dC (.int 3))) (dC (.int 8))))) (dC (.int 16))) (dVar 1)))))))))
def f__law_draw : DF := dFun 7 p__law_draw
def p__law_choice : DS := (dRet (dOp idxAV (dVar 1) (dCallC f__law_draw 2 0 2 [0, 1] [] (dCons (dVar 0) (dCons (dCB lenL (dCons (dVar 1) dNil)) dNil)) dNil)))
def f__law_choice : DF := dFun 2 p__law_choice
def p__law_item : DS := (dRet (dCallC f__law_choice 2 0 2 [0, 1] [] (dCons (dVar 0) (dCons (dLst (dCons (dC (.int 0)) (dCons (dC (.int 1)) (dCons (dC (.int 2)) (dCons (dUn negAV (dC (.int 1))) (dCons (dC (.int 7)) (dCons (dC (.int 999999999999)) (dCons (dC (.str "a")) (dCons (dC (.str "b")) (dCons (dC (.str "ab")) (dCons (dC (.str "zzzzzz")) dNil))))))))))) dNil)) dNil))
def f__law_item : DF := dFun 1 p__law_item
def e__law_items_1 : DE := (dCallC f__law_item 1 0 1 [0] [] (dCons (dVar 0) dNil) dNil)
def p__law_items : DS := (dRet (dLc (dRg1 (dCons (dCallC f__law_draw 2 0 2 [0, 1] [] (dCons (dVar 0) (dCons (dOp addAV (dVar 1) (dC (.int 1))) dNil)) dNil) dNil)) (dgN 2) dYes e__law_items_1 [2]))
def f__law_items : DF := dFun 3 p__law_items
def p__law_bound : DS := (dRet (dCallC f__law_choice 2 0 2 [0, 1] [] (dCons (dVar 0) (dCons (dLst (dCons (dC .non) (dCons (dC .non) (dCons (dC (.int 0)) (dCons (dC (.int 1)) (dCons (dC (.int 2)) (dCons (dC (.int 3)) (dCons (dC (.int 5)) (dCons (dC (.int 8)) dNil))))))))) dNil)) dNil))
def f__law_bound : DF := dFun 1 p__law_bound
def p__law_added : DS := (dSeq (dIfS (dTst (dOp eqAV (dVar 1) (dC (.int 0))))
  (dRet (dLst (dCons (dVar 2) dNil)))
  dSkip) (dSeq (dDrop (dMt "list" mInsert (dVar 0) (dCons (dIf (dTst (dVar 3)) (dC (.int 0)) (dCB lenL (dCons (dVar 0) dNil))) (dCons (dVar 2) dNil)))) (dSeq (dIfS (dAnd (dTst (dOp notNonAV (dVar 1) (dC .non))) (dTst (dOp gtAV (dCB lenL (dCons (dVar 0) dNil)) (dVar 1))))
  (dRet (dLst (dCons (dMt "list" mPop (dVar 0) (dCons (dIf (dTst (dVar 3)) (dUn negAV (dC (.int 1))) (dC (.int 0))) dNil)) dNil)))
  dSkip) (dRet (dLst dNil)))))
def f__law_added : DF := dFun 4 p__law_added
def b__law_model_1 : DS := (dDrop (dCallC f__law_added 4 0 4 [0, 1, 2, 3] [] (dCons (dVar 3) (dCons (dVar 1) (dCons (dVar 4) (dCons (dC (.bl false)) dNil)))) dNil))
def p__law_model : DS := (dSeq (dPar2 1 2 (dCons (dCallC f__law_bound 1 0 1 [0] [] (dCons (dVar 0) dNil) dNil) (dCons (dCallC f__law_items 2 0 2 [0, 1] [] (dCons (dVar 0) (dCons (dC (.int 6)) dNil)) dNil) dNil))) (dSeq (dSet 3 (dLst dNil)) (dSeq (dFor (dSrc (dVar 2)) (dgN 4) b__law_model_1) (dRet (dTup (dCons (dLst (dCons (dVar 3) (dCons (dVar 1) (dCons (dC (.int 0)) (dCons (dC (.int 0)) dNil))))) (dCons (dVar 2) dNil)))))))
def f__law_model : DF := dFun 5 p__law_model
def p_is_integer : DS := (dRet (dAndV (dAlt (dCB (isiL ct0) (dCons (dVar 0) (dCons (dC (.ty "int")) dNil))) (dCB isiSl (dCons (dVar 0) (dCons (dC (.ty "int")) dNil)))) (dNotV (dCB (isiL ct0) (dCons (dVar 0) (dCons (dC (.ty "bool")) dNil))))))
def f_is_integer : DF := dFun 1 p_is_integer
def p_is_bound : DS := (dRet (dOrV (dOp isNonAV (dVar 0) (dC .non)) (dAndV (dCallC f_is_integer 1 0 1 [0] [] (dCons (dVar 0) dNil) dNil) (dChn leAV leAV (dC (.int 0)) (dVar 0) (dC (.int 1000))))))
def f_is_bound : DF := dFun 1 p_is_bound
def e_is_word_1 : DE := (dOp inAV (dVar 1) (dC (.str "abcdefghijklmnopqrstuvwxyz")))
def p_is_word : DS := (dRet (dAndV (dCB (isiL ct0) (dCons (dVar 0) (dCons (dC (.ty "str")) dNil))) (dAndV (dChn leAV leAV (dC (.int 1)) (dCB lenL (dCons (dVar 0) dNil)) (dC (.int 6))) (dCB allL (dCons (dLc (dSrc (dVar 0)) (dgN 1) dYes e_is_word_1 [1]) dNil)))))
def f_is_word : DF := dFun 2 p_is_word
def p_is_short : DS := (dRet (dAndV (dCallC f_is_integer 1 0 1 [0] [] (dCons (dVar 0) dNil) dNil) (dOp ltAV (dCB absL (dCons (dVar 0) dNil)) (dOp powAV (dC (.int 10)) (dC (.int 12))))))
def f_is_short : DF := dFun 1 p_is_short
def p_is_item : DS := (dRet (dOrV (dCallC f_is_word 1 0 1 [0] [] (dCons (dVar 0) dNil) dNil) (dCallC f_is_short 1 0 1 [0] [] (dCons (dVar 0) dNil) dNil)))
def f_is_item : DF := dFun 1 p_is_item
def p_need_item : DS := (dIfS (dNot (dTst (dCallC f_is_item 1 0 1 [0] [] (dCons (dVar 0) dNil) dNil)))
  (dRaiseI 1 4 (dVar 0))
  dSkip)
def f_need_item : DF := dFun 1 p_need_item
def b_checked_1 : DS := (dDrop (dCallC f_need_item 1 0 1 [0] [] (dCons (dVar 2) dNil) dNil))
def p_checked : DS := (dSeq (dSet 1 (dIf (dTst (dCB (isiL ct0) (dCons (dVar 0) (dCons (dC (.cls 0)) dNil)))) (dCB listL (dCons (dFld 0 (dVar 0)) dNil)) (dCB listL (dCons (dVar 0) dNil)))) (dSeq (dFor (dSrc (dVar 1)) (dgN 2) b_checked_1) (dRet (dVar 1))))
def f_checked : DF := dFun 3 p_checked
def p_Deque_xinit : DS := (dSeq (dIfS (dNot (dTst (dCallC f_is_bound 1 0 1 [0] [] (dCons (dVar 2) dNil) dNil)))
  (dRaiseI 2 4 (dVar 2))
  dSkip) (dSeq (dSet 3 (dCallC f_checked 1 0 1 [0] [] (dCons (dVar 1) dNil) dNil)) (dSeq (dSetF 0 (dVar 0) (dIf (dTst (dOp isNonAV (dVar 2) (dC .non))) (dVar 3) (dSlc (dVar 3) (dPrt (dCB maxL (dCons (dC (.int 0)) (dCons (dCB intL (dCons (dOp subAV (dCB lenL (dCons (dVar 3) dNil)) (dVar 2)) dNil)) dNil)))) dNoP))) (dSeq (dSetF 1 (dVar 0) (dVar 2)) (dSeq (dSetF 2 (dVar 0) (dC (.int 0))) (dSetF 3 (dVar 0) (dC (.int 0))))))))
def f_Deque_xinit : DF := dFun 4 p_Deque_xinit
def p_Deque_is_full : DS := (dRet (dAndV (dOp notNonAV (dFld 1 (dVar 0)) (dC .non)) (dOp geAV (dCB lenL (dCons (dFld 0 (dVar 0)) dNil)) (dFld 1 (dVar 0)))))
def f_Deque_is_full : DF := dFun 1 p_Deque_is_full
def p_Deque_note : DS := (dSeq (dAugF addII 2 (dVar 0) (dVar 1)) (dAugF addII 3 (dVar 0) (dC (.int 1))))
def f_Deque_note : DF := dFun 2 p_Deque_note
def p_Deque_added : DS := (dSeq (dIfS (dTst (dOp eqAV (dFld 1 (dVar 0)) (dC (.int 0))))
  (dRet (dLst (dCons (dVar 1) dNil)))
  dSkip) (dSeq (dSet 4 (dIf (dTst (dMeth 0 f_Deque_is_full 0 0 1 [0] [] (dVar 0) dNil dNil)) (dLst (dCons (dOp idxAV (dFld 0 (dVar 0)) (dVar 3)) dNil)) (dLst dNil))) (dSeq (dDrop (dMt "list" mInsert (dFld 0 (dVar 0)) (dCons (dVar 2) (dCons (dVar 1) dNil)))) (dSeq (dIfS (dTst (dOp neAV (dVar 4) (dLst dNil)))
  (dDrop (dMt "list" mPop (dFld 0 (dVar 0)) (dCons (dVar 3) dNil)))
  dSkip) (dSeq (dDrop (dMeth 0 f_Deque_note 1 0 2 [0, 1] [] (dVar 0) (dCons (dOp addAV (dC (.int 1)) (dCB lenL (dCons (dVar 4) dNil))) dNil) dNil)) (dRet (dVar 4)))))))
def f_Deque_added : DF := dFun 5 p_Deque_added
def p_Deque_append : DS := (dSeq (dDrop (dCallC f_need_item 1 0 1 [0] [] (dCons (dVar 1) dNil) dNil)) (dRet (dMeth 0 f_Deque_added 3 0 4 [0, 1, 2, 3] [] (dVar 0) (dCons (dVar 1) (dCons (dCB lenL (dCons (dFld 0 (dVar 0)) dNil)) (dCons (dC (.int 0)) dNil))) dNil)))
def f_Deque_append : DF := dFun 2 p_Deque_append
def p_Deque_append_left : DS := (dSeq (dDrop (dCallC f_need_item 1 0 1 [0] [] (dCons (dVar 1) dNil) dNil)) (dRet (dMeth 0 f_Deque_added 3 0 4 [0, 1, 2, 3] [] (dVar 0) (dCons (dVar 1) (dCons (dC (.int 0)) (dCons (dUn negAV (dC (.int 1))) dNil))) dNil)))
def f_Deque_append_left : DF := dFun 2 p_Deque_append_left
def b_Deque_extend_1 : DS := (dDrop (dMt "list" mExtend (dVar 2) (dCons (dMeth 0 f_Deque_append 1 0 2 [0, 1] [] (dVar 0) (dCons (dVar 3) dNil) dNil) dNil)))
def p_Deque_extend : DS := (dSeq (dSet 2 (dLst dNil)) (dSeq (dFor (dSrc (dCallC f_checked 1 0 1 [0] [] (dCons (dVar 1) dNil) dNil)) (dgN 3) b_Deque_extend_1) (dRet (dVar 2))))
def f_Deque_extend : DF := dFun 4 p_Deque_extend
def b_Deque_extend_left_1 : DS := (dDrop (dMt "list" mExtend (dVar 2) (dCons (dMeth 0 f_Deque_append_left 1 0 2 [0, 1] [] (dVar 0) (dCons (dVar 3) dNil) dNil) dNil)))
def p_Deque_extend_left : DS := (dSeq (dSet 2 (dLst dNil)) (dSeq (dFor (dSrc (dCallC f_checked 1 0 1 [0] [] (dCons (dVar 1) dNil) dNil)) (dgN 3) b_Deque_extend_left_1) (dRet (dVar 2))))
def f_Deque_extend_left : DF := dFun 4 p_Deque_extend_left
def p_place_in : DS := (dSeq (dIfS (dTst (dOp ltAV (dVar 0) (dC (.int 0))))
  (dRet (dCB maxL (dCons (dC (.int 0)) (dCons (dCB intL (dCons (dOp addAV (dVar 1) (dVar 0)) dNil)) dNil))))
  dSkip) (dRet (dCB minL (dCons (dCB intL (dCons (dVar 0) dNil)) (dCons (dCB intL (dCons (dVar 1) dNil)) dNil)))))
def f_place_in : DF := dFun 2 p_place_in
def p_Deque_insert : DS := (dSeq (dIfS (dNot (dTst (dCallC f_is_integer 1 0 1 [0] [] (dCons (dVar 1) dNil) dNil)))
  (dRaiseI 3 4 (dVar 1))
  dSkip) (dSeq (dDrop (dCallC f_need_item 1 0 1 [0] [] (dCons (dVar 2) dNil) dNil)) (dSeq (dIfS (dTst (dMeth 0 f_Deque_is_full 0 0 1 [0] [] (dVar 0) dNil dNil))
  (dRaise0 6)
  dSkip) (dSeq (dSet 3 (dCB lenL (dCons (dFld 0 (dVar 0)) dNil))) (dSeq (dSet 4 (dCallC f_place_in 2 0 2 [0, 1] [] (dCons (dVar 1) (dCons (dVar 3) dNil)) dNil)) (dSeq (dDrop (dMt "list" mInsert (dFld 0 (dVar 0)) (dCons (dVar 4) (dCons (dVar 2) dNil)))) (dDrop (dMeth 0 f_Deque_note 1 0 2 [0, 1] [] (dVar 0) (dCons (dOp addAV (dC (.int 1)) (dCB minL (dCons (dCB intL (dCons (dVar 4) dNil)) (dCons (dCB intL (dCons (dOp subAV (dVar 3) (dVar 4)) dNil)) dNil)))) dNil) dNil))))))))
def f_Deque_insert : DF := dFun 5 p_Deque_insert
def b__law_error_1 (act : DAct) : DS := (dDrop (dAct act))
def b__law_error_2 (act : DAct) : DS := (dRet (dLst (dCons (dC (.str "Full")) (dCons (dIsX xt0 1 "IndexError") (dCons (dC (.str "")) dNil)))))
def b__law_error_3 (act : DAct) : DS := (dRet (dLst (dCons (dC (.str "Empty")) (dCons (dIsX xt0 1 "IndexError") (dCons (dC (.str "")) dNil)))))
def b__law_error_4 (act : DAct) : DS := (dRet (dLst (dCons (dC (.str "NotFound")) (dCons (dIsX xt0 1 "LookupError") (dCons (dAlt (dCB reprL (dCons (dXf 1 4) dNil)) (dCB reprSl (dCons (dXf 1 4) dNil))) dNil)))))
def b__law_error_5 (act : DAct) : DS := (dRet (dLst (dCons (dC (.str "BadIndex")) (dCons (dIsX xt0 1 "IndexError") (dCons (dAlt (dCB reprL (dCons (dXf 1 4) dNil)) (dCB reprSl (dCons (dXf 1 4) dNil))) dNil)))))
def b__law_error_6 (act : DAct) : DS := (dRet (dLst (dCons (dC (.str "BadBound")) (dCons (dIsO xt0 1 7) (dCons (dAlt (dCB reprL (dCons (dXf 1 4) dNil)) (dCB reprSl (dCons (dXf 1 4) dNil))) dNil)))))
def b__law_error_7 (act : DAct) : DS := (dRet (dLst (dCons (dC (.str "BadItem")) (dCons (dAndV (dIsO xt0 1 7) (dIsX xt0 1 "ValueError")) (dCons (dAlt (dCB reprL (dCons (dXf 1 4) dNil)) (dCB reprSl (dCons (dXf 1 4) dNil))) dNil)))))
def p__law_error (act : DAct) : DS := (dSeq (dTry xt0 (b__law_error_1 act) ((1, some 1, (b__law_error_7 act)) :: ((2, some 1, (b__law_error_6 act)) :: ((3, some 1, (b__law_error_5 act)) :: ((4, some 1, (b__law_error_4 act)) :: ((5, some 1, (b__law_error_3 act)) :: ((6, some 1, (b__law_error_2 act)) :: []))))))) (dRet (dC .non)))
def f__law_error : DAct → DAct := dHlp 2 p__law_error
def e__law_items_refused_1 : DE := (dMeth 0 f_Deque_append 1 0 2 [0, 1] [] (dVar 0) (dCons (dVar 1) dNil) dNil)
def e__law_items_refused_2 : DE := (dMeth 0 f_Deque_append_left 1 0 2 [0, 1] [] (dVar 0) (dCons (dVar 1) dNil) dNil)
def e__law_items_refused_3 : DE := (dMeth 0 f_Deque_extend 1 0 2 [0, 1] [] (dVar 0) (dCons (dLst (dCons (dC (.int 1)) (dCons (dVar 1) (dCons (dC (.bl true)) dNil)))) dNil) dNil)
def e__law_items_refused_4 : DE := (dMeth 0 f_Deque_extend_left 1 0 2 [0, 1] [] (dVar 0) (dCons (dTup (dCons (dVar 1) (dCons (dC .non) dNil))) dNil) dNil)
def e__law_items_refused_5 : DE := (dMeth 0 f_Deque_insert 2 0 3 [0, 1, 2] [] (dVar 0) (dCons (dC (.int 0)) (dCons (dVar 1) dNil)) dNil)
def e__law_items_refused_6 : DE := (dMake 0 f_Deque_xinit 1 0 3 [0, 1, 3] [(.tup []), .non] (dCons (dLst (dCons (dC (.int 1)) (dCons (dC (.str "a")) (dCons (dVar 1) (dCons (dC .non) dNil))))) dNil) dNil)
def p__law_items_refused : DS := (dSeq (dSet 2 (dLst (dCons (dC (.str "BadItem")) (dCons (dC (.bl true)) (dCons (dCB reprL (dCons (dVar 1) dNil)) dNil))))) (dLams 3
  (dRet (dOp eqAV (dFc 4 (((dTst (dOp neAV (dLamC f__law_error e__law_items_refused_1) (dVar 2))), (fun _ _ => .stuck)) :: (((dTst (dOp neAV (dLamC f__law_error e__law_items_refused_2) (dVar 2))), (fun _ _ => .stuck)) :: (((dTst (dOp neAV (dLamC f__law_error e__law_items_refused_3) (dVar 2))), (fun _ _ => .stuck)) :: (((dTst (dOp neAV (dLamC f__law_error e__law_items_refused_4) (dVar 2))), (fun _ _ => .stuck)) :: (((dTst (dOp neAV (dLamC f__law_error e__law_items_refused_5) (dVar 2))), (fun _ _ => .stuck)) :: (((dTst (dOp neAV (dLamC f__law_error e__law_items_refused_6) (dVar 2))), (fun _ _ => .stuck)) :: []))))))) (dLst dNil)))))
def f__law_items_refused : DF := dFun 5 p__law_items_refused
def p_Deque_xcontains : DS := (dRet (dAndV (dCallC f_is_item 1 0 1 [0] [] (dCons (dVar 1) dNil) dNil) (dOp inAV (dVar 1) (dFld 0 (dVar 0)))))
def f_Deque_xcontains : DF := dFun 2 p_Deque_xcontains
def p_Deque_count : DS := (dRet (dIf (dTst (dCallC f_is_item 1 0 1 [0] [] (dCons (dVar 1) dNil) dNil)) (dMt "list" mCount (dFld 0 (dVar 0)) (dCons (dVar 1) dNil)) (dC (.int 0))))
def f_Deque_count : DF := dFun 2 p_Deque_count
def p_Deque_index : DS := (dSeq (dSet 4 (dCB lenL (dCons (dFld 0 (dVar 0)) dNil))) (dSeq (dSet 5 (dCallC f_place_in 2 0 2 [0, 1] [] (dCons (dVar 2) (dCons (dVar 4) dNil)) dNil)) (dSeq (dSet 6 (dIf (dTst (dOp isNonAV (dVar 3) (dC .non))) (dVar 4) (dCallC f_place_in 2 0 2 [0, 1] [] (dCons (dVar 3) (dCons (dVar 4) dNil)) dNil))) (dSeq (dIfS (dAnd (dTst (dOpX (inOK true 0 f_Deque_xcontains) (dVar 1) (dVar 0))) (dTst (dOp inAV (dVar 1) (dSlc (dFld 0 (dVar 0)) (dPrt (dVar 5)) (dPrt (dVar 6))))))
  (dRet (dOp addAV (dVar 5) (dMt "list" mIndex (dSlc (dFld 0 (dVar 0)) (dPrt (dVar 5)) (dPrt (dVar 6))) (dCons (dVar 1) dNil))))
  dSkip) (dRaiseI 4 4 (dVar 1))))))
def f_Deque_index : DF := dFun 7 p_Deque_index
def p_Deque_removed : DS := (dSeq (dSet 2 (dCB lenL (dCons (dFld 0 (dVar 0)) dNil))) (dSeq (dSet 3 (dMt "list" mPop (dFld 0 (dVar 0)) (dCons (dVar 1) dNil))) (dSeq (dDrop (dMeth 0 f_Deque_note 1 0 2 [0, 1] [] (dVar 0) (dCons (dOp addAV (dC (.int 1)) (dCB minL (dCons (dCB intL (dCons (dVar 1) dNil)) (dCons (dCB intL (dCons (dOp subAV (dOp subAV (dVar 2) (dC (.int 1))) (dVar 1)) dNil)) dNil)))) dNil) dNil)) (dRet (dVar 3)))))
def f_Deque_removed : DF := dFun 4 p_Deque_removed
def p_Deque_remove : DS := (dDrop (dMeth 0 f_Deque_removed 1 0 2 [0, 1] [] (dVar 0) (dCons (dMeth 0 f_Deque_index 1 0 4 [0, 1, 2, 3] [(.int 0), .non] (dVar 0) (dCons (dVar 1) dNil) dNil) dNil) dNil))
def f_Deque_remove : DF := dFun 2 p_Deque_remove
def p_Deque_place_of : DS := (dSeq (dSet 2 (dCB lenL (dCons (dFld 0 (dVar 0)) dNil))) (dSeq (dIfS (dOr (dNot (dTst (dCallC f_is_integer 1 0 1 [0] [] (dCons (dVar 1) dNil) dNil))) (dNot (dTst (dChn leAV ltAV (dOp subAV (dC (.int 0)) (dVar 2)) (dVar 1) (dVar 2)))))
  (dRaiseI 3 4 (dVar 1))
  dSkip) (dRet (dOp modAV (dVar 1) (dVar 2)))))
def f_Deque_place_of : DF := dFun 3 p_Deque_place_of
def p_Deque_put : DS := (dSeq (dSet 3 (dMeth 0 f_Deque_place_of 1 0 2 [0, 1] [] (dVar 0) (dCons (dVar 1) dNil) dNil)) (dSeq (dDrop (dCallC f_need_item 1 0 1 [0] [] (dCons (dVar 2) dNil) dNil)) (dSeq (dPut (dFld 0 (dVar 0)) (dVar 3) (dVar 2)) (dAugF addII 2 (dVar 0) (dC (.int 1))))))
def f_Deque_put : DF := dFun 4 p_Deque_put
def p_Deque_delete : DS := (dRet (dMeth 0 f_Deque_removed 1 0 2 [0, 1] [] (dVar 0) (dCons (dMeth 0 f_Deque_place_of 1 0 2 [0, 1] [] (dVar 0) (dCons (dVar 1) dNil) dNil) dNil) dNil))
def f_Deque_delete : DF := dFun 2 p_Deque_delete
def p_Deque_xgetitem : DS := (dRet (dOp idxAV (dFld 0 (dVar 0)) (dMeth 0 f_Deque_place_of 1 0 2 [0, 1] [] (dVar 0) (dCons (dVar 1) dNil) dNil)))
def f_Deque_xgetitem : DF := dFun 2 p_Deque_xgetitem
def e__law_indexes_refused_1 : DE := (dMeth 0 f_Deque_put 2 0 3 [0, 1, 2] [] (dVar 0) (dCons (dVar 1) (dCons (dC .non) dNil)) dNil)
def e__law_indexes_refused_2 : DE := (dMeth 0 f_Deque_delete 1 0 2 [0, 1] [] (dVar 0) (dCons (dVar 1) dNil) dNil)
def e__law_indexes_refused_3 : DE := (dOpX (ixOK 0 f_Deque_xgetitem) (dVar 0) (dVar 1))
def p__law_indexes_refused : DS := (dSeq (dSet 2 (dLst (dCons (dC (.str "BadIndex")) (dCons (dC (.bl true)) (dCons (dCB reprL (dCons (dVar 1) dNil)) dNil))))) (dLams 3
  (dSeq (dIfS (dTst (dOp neAV (dLamC f__law_error (dOpX (ixOK 0 f_Deque_xgetitem) (dVar 0) (dC .slc))) (dLst (dCons (dC (.str "BadIndex")) (dCons (dC (.bl true)) (dCons (dC (.str "slice(0, 2, None)")) dNil))))))
  (dRet (dC (.bl false)))
  dSkip) (dRet (dOp eqAV (dFc 4 (((dTst (dOp neAV (dLamC f__law_error e__law_indexes_refused_1) (dVar 2))), (fun _ _ => .stuck)) :: (((dTst (dOp neAV (dLamC f__law_error e__law_indexes_refused_2) (dVar 2))), (fun _ _ => .stuck)) :: (((dTst (dOp neAV (dLamC f__law_error e__law_indexes_refused_3) (dVar 2))), (fun _ _ => .stuck)) :: [])))) (dLst dNil))))))
def f__law_indexes_refused : DF := dFun 5 p__law_indexes_refused
def p_Deque_rotate : DS := (dSeq (dIfS (dNot (dTst (dCallC f_is_integer 1 0 1 [0] [] (dCons (dVar 1) dNil) dNil)))
  (dRaiseI 3 4 (dVar 1))
  dSkip) (dSeq (dSet 2 (dCB lenL (dCons (dFld 0 (dVar 0)) dNil))) (dIfS (dAnd (dTst (dOp gtAV (dVar 2) (dC (.int 1)))) (dTst (dOp neAV (dOp modAV (dVar 1) (dVar 2)) (dC (.int 0)))))
  (dSeq (dSet 3 (dOp modAV (dVar 1) (dVar 2))) (dSeq (dSetF 0 (dVar 0) (dOp addAV (dSlc (dFld 0 (dVar 0)) (dPrt (dOp subAV (dVar 2) (dVar 3))) dNoP) (dSlc (dFld 0 (dVar 0)) dNoP (dPrt (dOp subAV (dVar 2) (dVar 3)))))) (dDrop (dMeth 0 f_Deque_note 1 0 2 [0, 1] [] (dVar 0) (dCons (dCB minL (dCons (dCB intL (dCons (dVar 3) dNil)) (dCons (dCB intL (dCons (dOp subAV (dVar 2) (dVar 3)) dNil)) dNil))) dNil) dNil))))
  dSkip)))
def f_Deque_rotate : DF := dFun 4 p_Deque_rotate
def p_Deque_listed : DS := (dRet (dCB listL (dCons (dFld 0 (dVar 0)) dNil)))
def f_Deque_listed : DF := dFun 1 p_Deque_listed
def p_Deque_bound : DS := (dRet (dFld 1 (dVar 0)))
def f_Deque_bound : DF := dFun 1 p_Deque_bound
def p_Deque_moves : DS := (dRet (dFld 2 (dVar 0)))
def f_Deque_moves : DF := dFun 1 p_Deque_moves
def p_Deque_xlen : DS := (dRet (dCB lenL (dCons (dFld 0 (dVar 0)) dNil)))
def f_Deque_xlen : DF := dFun 1 p_Deque_xlen
def p_Deque_xrepr : DS := (dRet (jsR ((dC (.str "Deque(")) :: ((dFmt (dCB lenL (dCons (dFld 0 (dVar 0)) dNil))) :: ((dC (.str ", bound=")) :: ((dFmt (dFld 1 (dVar 0))) :: ((dC (.str ")")) :: []))))) Str.empty))
def f_Deque_xrepr : DF := dFun 1 p_Deque_xrepr
def p__law_fits : DS := (dSeq (dIfS (dOr (dTst (dOp neAV (dMeth 0 f_Deque_listed 0 0 1 [0] [] (dVar 0) dNil dNil) (dOp idxAV (dVar 1) (dC (.int 0))))) (dOr (dTst (dOp neAV (dProp 0 f_Deque_bound (dVar 0)) (dOp idxAV (dVar 1) (dC (.int 1))))) (dTst (dOp neAV (dProp 0 f_Deque_moves (dVar 0)) (dOp idxAV (dVar 1) (dC (.int 2)))))))
  (dRet (dC (.bl false)))
  dSkip) (dSeq (dPar2 2 3 (dCons (dCB lenL (dCons (dOp idxAV (dVar 1) (dC (.int 0))) dNil)) (dCons (dCB strL (dCons (dOp idxAV (dVar 1) (dC (.int 1))) dNil)) dNil))) (dRet (dAndV (dOp eqAV (dLenO 0 f_Deque_xlen (dCons (dVar 0) dNil)) (dVar 2)) (dOp eqAV (dReprO 0 f_Deque_xrepr (dCons (dVar 0) dNil)) (dOp addAV (dOp addAV (dOp addAV (dOp addAV (dC (.str "Deque(")) (dCB strL (dCons (dVar 2) dNil))) (dC (.str ", bound="))) (dVar 3)) (dC (.str ")"))))))))
def f__law_fits : DF := dFun 4 p__law_fits
def p_Deque_clear : DS := (dIfS (dTst (dOp neAV (dFld 0 (dVar 0)) (dLst dNil)))
  (dSeq (dDrop (dMeth 0 f_Deque_note 1 0 2 [0, 1] [] (dVar 0) (dCons (dCB lenL (dCons (dFld 0 (dVar 0)) dNil)) dNil) dNil)) (dDrop (dMt "list" mClear (dFld 0 (dVar 0)) dNil)))
  dSkip)
def f_Deque_clear : DF := dFun 1 p_Deque_clear
def p_Deque_removed_end : DS := (dSeq (dIfS (dTst (dOp eqAV (dFld 0 (dVar 0)) (dLst dNil)))
  (dRaise0 5)
  dSkip) (dSeq (dSet 2 (dMt "list" mPop (dFld 0 (dVar 0)) (dCons (dVar 1) dNil))) (dSeq (dDrop (dMeth 0 f_Deque_note 1 0 2 [0, 1] [] (dVar 0) (dCons (dC (.int 1)) dNil) dNil)) (dRet (dVar 2)))))
def f_Deque_removed_end : DF := dFun 3 p_Deque_removed_end
def p_Deque_pop : DS := (dRet (dMeth 0 f_Deque_removed_end 1 0 2 [0, 1] [] (dVar 0) (dCons (dUn negAV (dC (.int 1))) dNil) dNil))
def f_Deque_pop : DF := dFun 1 p_Deque_pop
def p_Deque_pop_left : DS := (dRet (dMeth 0 f_Deque_removed_end 1 0 2 [0, 1] [] (dVar 0) (dCons (dC (.int 0)) dNil) dNil))
def f_Deque_pop_left : DF := dFun 1 p_Deque_pop_left
def b_law_1 : DS := (dSeq (dIfS (dOr (dNot (dTst (dCallC f__law_items_refused 2 0 2 [0, 1] [] (dCons (dVar 6) (dCons (dVar 8) dNil)) dNil))) (dOr (dTst (dOpX (inOK true 0 f_Deque_xcontains) (dVar 8) (dVar 6))) (dTst (dOp neAV (dMeth 0 f_Deque_count 1 0 2 [0, 1] [] (dVar 6) (dCons (dVar 8) dNil) dNil) (dC (.int 0))))))
  (dRet (dC (.bl false)))
  dSkip) (dSeq (dIfS (dTst (dOp neAV (dLamC f__law_error (dMeth 0 f_Deque_remove 1 0 2 [0, 1] [] (dVar 6) (dCons (dVar 8) dNil) dNil)) (dLst (dCons (dC (.str "NotFound")) (dCons (dC (.bl true)) (dCons (dCB reprL (dCons (dVar 8) dNil)) dNil))))))
  (dRet (dC (.bl false)))
  dSkip) (dIfS (dTst (dOp neAV (dLamC f__law_error (dMeth 0 f_Deque_index 1 0 4 [0, 1, 2, 3] [(.int 0), .non] (dVar 6) (dCons (dVar 8) dNil) dNil)) (dLst (dCons (dC (.str "NotFound")) (dCons (dC (.bl true)) (dCons (dCB reprL (dCons (dVar 8) dNil)) dNil))))))
  (dRet (dC (.bl false)))
  dSkip)))
def b_law_2 : DS := (dSeq (dIfS (dNot (dTst (dCallC f__law_indexes_refused 2 0 2 [0, 1] [] (dCons (dVar 6) (dCons (dVar 8) dNil)) dNil)))
  (dRet (dC (.bl false)))
  dSkip) (dIfS (dOr (dNot (dTst (dCB (isiL ct0) (dCons (dVar 8) (dCons (dC (.ty "int")) dNil))))) (dTst (dCB (isiL ct0) (dCons (dVar 8) (dCons (dC (.ty "bool")) dNil)))))
  (dSeq (dSet 9 (dLst (dCons (dC (.str "BadIndex")) (dCons (dC (.bl true)) (dCons (dCB reprL (dCons (dVar 8) dNil)) dNil))))) (dSeq (dIfS (dTst (dOp neAV (dLamC f__law_error (dMeth 0 f_Deque_rotate 1 0 2 [0, 1] [(.int 1)] (dVar 6) (dCons (dVar 8) dNil) dNil)) (dVar 9)))
  (dRet (dC (.bl false)))
  dSkip) (dIfS (dTst (dOp neAV (dLamC f__law_error (dMeth 0 f_Deque_insert 2 0 3 [0, 1, 2] [] (dVar 6) (dCons (dVar 8) (dCons (dC .non) dNil)) dNil)) (dVar 9)))
  (dRet (dC (.bl false)))
  dSkip)))
  dSkip))
def b_law_3 : DS := (dIfS (dTst (dOp neAV (dLamC f__law_error (dMake 0 f_Deque_xinit 1 1 3 [0, 1, 3] [(.tup [])] (dCons (dLst (dCons (dC .non) dNil)) dNil) (dCons (dVar 8) dNil))) (dLst (dCons (dC (.str "BadBound")) (dCons (dC (.bl true)) (dCons (dCB reprL (dCons (dVar 8) dNil)) dNil))))))
  (dRet (dC (.bl false)))
  dSkip)
def b_law_4 : DS := (dSeq (dSet 3 (dCallC f__law_source 2 0 2 [0, 1] [] (dCons (dVar 0) (dCons (dVar 2) dNil)) dNil)) (dSeq (dAsg (dCallC f__law_model 1 0 1 [0] [] (dCons (dVar 3) dNil) dNil) (dgT (dgC (dgN 4) (dgC (dgN 5) dg0)))) (dSeq (dAsg (dTup (dCons (dMake 0 f_Deque_xinit 1 1 3 [0, 1, 3] [(.tup [])] (dCons (dVar 5) dNil) (dCons (dOp idxAV (dVar 4) (dC (.int 1))) dNil)) (dCons (dCB lenL (dCons (dOp idxAV (dVar 4) (dC (.int 0))) dNil)) dNil))) (dgT (dgC (dgN 6) (dgC (dgN 7) dg0)))) (dSeq (dFor (dSrc (dVar 1)) (dgN 8) b_law_1) (dSeq (dFor (dSrc (dLst (dCons (dC .non) (dCons (dC (.bl true)) (dCons (dC (.str "0")) (dCons (dC (.str "")) (dCons (dTup dNil) (dCons (dLst (dCons (dC (.int 0)) dNil)) (dCons (dTup (dCons (dC (.int 0)) dNil)) (dCons (dVar 7) (dCons (dOp subAV (dOp subAV (dC (.int 0)) (dVar 7)) (dC (.int 1))) (dCons (dOp powAV (dC (.int 10)) (dC (.int 30))) (dCons (dOp subAV (dC (.int 0)) (dOp powAV (dC (.int 10)) (dC (.int 30)))) dNil))))))))))))) (dgN 8) b_law_2) (dSeq (dFor (dSrc (dLst (dCons (dUn negAV (dC (.int 1))) (dCons (dC (.int 1001)) (dCons (dC (.bl true)) (dCons (dC (.str "a")) (dCons (dC (.str "")) (dCons (dTup dNil) (dCons (dLst (dCons (dC (.int 3)) dNil)) (dCons (dOp powAV (dC (.int 10)) (dC (.int 30))) dNil)))))))))) (dgN 8) b_law_3) (dSeq (dIfS (dAnd (dTst (dOp eqAV (dVar 7) (dOp idxAV (dVar 4) (dC (.int 1))))) (dTst (dOp neAV (dLamC f__law_error (dMeth 0 f_Deque_insert 2 0 3 [0, 1, 2] [] (dVar 6) (dCons (dC (.int 0)) (dCons (dC (.int 1)) dNil)) dNil)) (dLst (dCons (dC (.str "Full")) (dCons (dC (.bl true)) (dCons (dC (.str "")) dNil)))))))
  (dRet (dC (.bl false)))
  dSkip) (dSeq (dIfS (dNot (dTst (dCallC f__law_fits 2 0 2 [0, 1] [] (dCons (dVar 6) (dCons (dVar 4) dNil)) dNil)))
  (dRet (dC (.bl false)))
  dSkip) (dSeq (dDrop (dMeth 0 f_Deque_clear 0 0 1 [0] [] (dVar 6) dNil dNil)) (dSeq (dIfS (dTst (dOp neAV (dLamC f__law_error (dMeth 0 f_Deque_pop 0 0 1 [0] [] (dVar 6) dNil dNil)) (dLst (dCons (dC (.str "Empty")) (dCons (dC (.bl true)) (dCons (dC (.str "")) dNil))))))
  (dRet (dC (.bl false)))
  dSkip) (dIfS (dTst (dOp neAV (dLamC f__law_error (dMeth 0 f_Deque_pop_left 0 0 1 [0] [] (dVar 6) dNil dNil)) (dLst (dCons (dC (.str "Empty")) (dCons (dC (.bl true)) (dCons (dC (.str "")) dNil))))))
  (dRet (dC (.bl false)))
  dSkip)))))))))))
def p_law : DS := (dSeq (dSet 1 (dLst (dCons (dC .non) (dCons (dC (.bl true)) (dCons (dC (.bl false)) (dCons (dC (.str "")) (dCons (dC (.str "A")) (dCons (dC (.str "a b")) (dCons (dC (.str "abcdefg")) (dCons (dTup dNil) (dCons (dLst (dCons (dC (.int 1)) dNil)) (dCons (dTup (dCons (dC (.str "a")) dNil)) (dCons (dOp powAV (dC (.int 10)) (dC (.int 12))) (dCons (dOp subAV (dC (.int 0)) (dOp powAV (dC (.int 10)) (dC (.int 12)))) (dCons (dC (.str "1")) dNil))))))))))))))) (dSeq (dFor (dRg1 (dCons (dCB maxL (dCons (dC (.int 2)) (dCons (dCB minL (dCons (dC (.int 3)) (dCons (dCB lenL (dCons (dVar 0) dNil)) dNil))) dNil))) dNil)) (dgN 2) b_law_4) (dRet (dC (.bl true)))))
def f_law : DF := dFun 10 p_law
end Q
namespace Q
open PySem Dn
theorem isint_int (i : Int) (h : Hep) : f_is_integer [.int i] h = .ok (.bl true) h := by rfl
theorem short_int (i : Int) (h : Hep) (hi : i.natAbs < 10 ^ 12) : f_is_short [.int i] h = .ok (.bl true) h := by
  simp [f_is_short, dFun, dStart, p_is_short, isint_int, absL, pow_ii]
  omega
/-- a source: its parts -/
structure Sr (h : Hep) (s : Nat) (y : Int) (k : Nat) : Prop where
  ex : ∃ x z, h[s]? = some (.lst [.int x, .int y, .int z]) ∧ 0 ≤ x ∧ 0 ≤ z ∧ z ≤ k
  y0 : 0 ≤ y
  y1 : y < 2000000000000000000
theorem Sr.lt {h : Hep} {s k : Nat} {y : Int} (S : Sr h s y k) : s < h.length := lt_of S.ex.choose_spec.choose_spec.1
theorem Sr.fr {h h' : Hep} {s k k' : Nat} {y : Int} (S : Sr h s y k) (f : Fr [] h h') (hk : k ≤ k') : Sr h' s y k' := by
  obtain ⟨⟨x, z, e, a, b, c⟩, y0, y1⟩ := S
  exact ⟨⟨x, z, f.at e (by simp), a, b, by omega⟩, y0, y1⟩
theorem primes {r : Int} (h0 : 0 ≤ r) (h1 : r < 8) : ∃ p, L2.atI [AV.int 2147483647, .int 2147483629, .int 2147483587, .int 2147483579, .int 2147483563, .int 2147483549, .int 2147483543, .int 2147483497] r = some (.int p) ∧ 2147483497 ≤ p ∧ p < 2147483648 := by
  have : r = 0 ∨ r = 1 ∨ r = 2 ∨ r = 3 ∨ r = 4 ∨ r = 5 ∨ r = 6 ∨ r = 7 := by omega
  rcases this with rfl | rfl | rfl | rfl | rfl | rfl | rfl | rfl <;> exact ⟨_, rfl, by decide, by decide⟩
theorem at3_0 {a b c : AV} : L2.atI [a, b, c] 0 = some a := rfl
theorem at3_1 {a b c : AV} : L2.atI [a, b, c] 1 = some b := rfl
theorem at3_2 {a b c : AV} : L2.atI [a, b, c] 2 = some c := rfl
theorem draw_ok {h : Hep} {s k : Nat} {y m : Int} (S : Sr h s y k) (hm : 0 < m) (hm2 : m < 1000000) (hk : k < 100000) :
    ∃ d h', 0 ≤ d ∧ d < m ∧ f__law_draw [.ref s, .int m] h = .ok (.int d) h' ∧ Fr [s] h h' ∧ h'.length = h.length ∧ Sr h' s y (k + 1) := by
  obtain ⟨⟨x, z, e, hx, hz, hz2⟩, hy, hy2⟩ := S
  have hl := (List.getElem?_eq_some_iff.mp e).1
  have fin : ∀ d x' z' : Int, 0 ≤ d → d < m → 0 ≤ x' → 0 ≤ z' → z' ≤ z + 1 → f__law_draw [.ref s, .int m] h = .ok (.int d) (h.set s (.lst [.int x', .int y, .int z'])) →
      ∃ d h', 0 ≤ d ∧ d < m ∧ f__law_draw [.ref s, .int m] h = .ok (.int d) h' ∧ Fr [s] h h' ∧ h'.length = h.length ∧ Sr h' s y (k + 1) := fun d x' z' h1 h2 h3 h4 h5 he =>
    ⟨d, _, h1, h2, he, Fr.set (by simp), by simp, ⟨x', z', by simp [hl], h3, h4, by omega⟩, hy, hy2⟩
  by_cases h0 : 0 < x
  · refine fin (x % m) (x / m) z (Int.emod_nonneg _ (by omega)) (Int.emod_lt_of_pos _ hm) (Int.ediv_nonneg hx (by omega)) hz (by omega) ?_
    have hm3 : m < 1073741824 := by omega
    simp [f__law_draw, dFun, dStart, p__law_draw, idxAV, seqOf, tupOf, lstOf, e, putAV, at3_0, at3_1, at3_2, L2.ixN, h0, hm, hm3]
  · have hb0 : 0 ≤ y * (2 * (z + 1) + 11) := Int.mul_nonneg hy (by omega)
    have hb1 : y * (2 * (z + 1) + 11) ≤ 2000000000000000000 * 300000 := Int.mul_le_mul (by omega) (by omega) (by omega) (by omega)
    have hb2 : 0 ≤ (z + 1) * (z + 1) := Int.mul_nonneg (by omega) (by omega)
    have hb3 : (z + 1) * (z + 1) ≤ 100001 * 100001 := Int.mul_le_mul (by omega) (by omega) (by omega) (by omega)
    have hb : (y * (2 * (z + 1) + 11) + 5857 * (z + 1) * (z + 1) + 79).natAbs < 2 ^ 200 := by
      have : 5857 * (z + 1) * (z + 1) = 5857 * ((z + 1) * (z + 1)) := Int.mul_assoc _ _ _
      rw [this]
      omega
    have p1 : ∃ p, L2.atI [AV.int 2147483647, .int 2147483629, .int 2147483587, .int 2147483579, .int 2147483563, .int 2147483549, .int 2147483543, .int 2147483497] ((z + 1) % 8) = some (.int p) ∧ 2147483497 ≤ p ∧ p < 2147483648 := primes (by omega) (by omega)
    have p2 : ∃ p, L2.atI [AV.int 2147483647, .int 2147483629, .int 2147483587, .int 2147483579, .int 2147483563, .int 2147483549, .int 2147483543, .int 2147483497] ((z + 1 + 3) % 8) = some (.int p) ∧ 2147483497 ≤ p ∧ p < 2147483648 := primes (by omega) (by omega)
    obtain ⟨q1, e1, l1, u1⟩ := p1
    obtain ⟨q2, e2, l2, u2⟩ := p2
    have m1 : ∀ j, mulOk y j = true := fun j => mulOk_l (by omega) (by omega)
    have m2 : ∀ j, mulOk 2 j = true := fun j => mulOk_l (by omega) (by omega)
    have m3 : ∀ j, mulOk 5857 j = true := fun j => mulOk_l (by omega) (by omega)
    have m4 : ∀ i, mulOk i (z + 1) = true := fun j => mulOk_r (by omega) (by omega)
    generalize hB : y * (2 * (z + 1) + 11) + 5857 * (z + 1) * (z + 1) + 79 = B at hb
    have f0 : 0 ≤ B ^ 3 % q1 := Int.emod_nonneg _ (by omega)
    have f1 : B ^ 3 % q1 < q1 := Int.emod_lt_of_pos _ (by omega)
    have pw : ∀ h, powAV (.int B) (.int 3) h = some (.int (B ^ 3), h) := fun h => pow_ii (by omega) (by omega) hb
    generalize hA : B ^ 3 % q1 = A at f0 f1
    have m5 : ∀ j, mulOk A j = true := fun j => mulOk_l (by omega) (by omega)
    have hm3 : m < 1073741824 := by omega
    have w1 : 0 < q1 := by omega
    have w2 : 0 < q2 := by omega
    refine fin (A * (A / 4111 + 43) % q2 / 16 % m) x (z + 1) (Int.emod_nonneg _ (by omega)) (Int.emod_lt_of_pos _ hm) hx (by omega) (by omega) ?_
    have i0 : idxAV (.ref s) (.int 0) h = some (.int x, h) := idx_lst e rfl
    have i2 : idxAV (.ref s) (.int 2) h = some (.int z, h) := idx_lst e rfl
    have pz : putAV (.ref s) (.int 2) (.int (z + 1)) h = some (h.set s (.lst [.int x, .int y, .int (z + 1)])) := put_lst (j := 2) e (by simp)
    have e3 : (h.set s (.lst [.int x, .int y, .int (z + 1)]))[s]? = some (.lst [.int x, .int y, .int (z + 1)]) := by simp [hl]
    generalize h.set s (.lst [.int x, .int y, .int (z + 1)]) = g at pz e3 ⊢
    have j1 : idxAV (.ref s) (.int 1) g = some (.int y, g) := idx_lst e3 rfl
    have j2 : idxAV (.ref s) (.int 2) g = some (.int (z + 1), g) := idx_lst e3 rfl
    have t1 := idx_tup (h := g) e1
    have t2 := idx_tup (h := g) e2
    simp [f__law_draw, dFun, dStart, p__law_draw, i0, i2, pz, j1, j2, t1, t2, h0, mkT, m1, m2, m3, m4, m5, hB, pw, hA, w1, w2, hm, hm3]
theorem source_ok (ns : List Int) (p : Nat) (hp : p < 4) (h : Hep) : ∃ m g, f__law_source [.rol (ns.map .int), .int p] h = .ok (.ref m) g ∧ Fr [] h g ∧ h.length ≤ m ∧ ∃ y, Sr g m y 0 := by
  have fin : ∀ (c d : Int), 0 ≤ d → (f__law_source [.rol (ns.map .int), .int p] h = .ok (.ref h.length) (h ++ [AO.lst [.int d, .int (c % 1000000000000000003 + 9161 * p * p + 71 * p + 23), .int 0]])) → ∃ m g, f__law_source [.rol (ns.map .int), .int p] h = .ok (.ref m) g ∧ Fr [] h g ∧ h.length ≤ m ∧ ∃ y, Sr g m y 0 := fun c d hd e => by
    have hc0 : 0 ≤ c % 1000000000000000003 := Int.emod_nonneg _ (by decide)
    have hc1 : c % 1000000000000000003 < 1000000000000000003 := Int.emod_lt_of_pos _ (by decide)
    have hpp : (p : Int) = 0 ∨ (p : Int) = 1 ∨ (p : Int) = 2 ∨ (p : Int) = 3 := by omega
    refine ⟨_, _, e, Fr.app, Nat.le_refl _, _, ⟨⟨_, _, new_at, hd, Int.le_refl 0, by simp⟩, ?_, ?_⟩⟩
    · rcases hpp with z | z | z | z <;> rw [z] <;> omega
    · rcases hpp with z | z | z | z <;> rw [z] <;> omega
  have m1 : ∀ j, mulOk 9161 j = true := fun j => mulOk_l (by omega) (by omega)
  have m4 : ∀ j, mulOk 71 j = true := fun j => mulOk_l (by omega) (by omega)
  have m2 : ∀ j, mulOk j (p : Int) = true := fun j => mulOk_r (by omega) (by omega)
  have pw : ∀ h, powAV (.int 10) (.int 18) h = some (.int ((10 : Int) ^ 18), h) := fun h => pow_ii (by omega) (by omega) (by decide)
  have ln : ∀ h, lenL [.rol (ns.map .int)] h = some (.int (ns.length : Nat), h) := fun h => by simp [lenL, lenA]
  by_cases hl : p < ns.length
  · have ix : ∀ h, idxAV (.rol (ns.map .int)) (.int p) h = some (.int ns[p], h) := fun h => idx_rol (atI_nat (by simp [hl]))
    have hl' : (p : Int) < (ns.length : Int) := by omega
    by_cases hb : (10 : Int) ^ 18 ≤ (ns[p].natAbs : Int)
    · refine fin ns[p] ns[p].natAbs (by omega) ?_
      simp -implicitDefEqProofs [f__law_source, dFun, dStart, p__law_source, ln, hl', ix, absL, pw, m1, m2, m4, mkL, hb, -Int.reducePow]
    · refine fin ns[p] 0 (by omega) ?_
      simp -implicitDefEqProofs [f__law_source, dFun, dStart, p__law_source, ln, hl', ix, absL, pw, m1, m2, m4, mkL, hb, -Int.reducePow]
  · refine fin 0 0 (by omega) ?_
    have hl' : ¬ (p : Int) < (ns.length : Int) := by omega
    have hb : ¬ (10 : Int) ^ 18 ≤ ((0 : Int).natAbs : Int) := by decide
    simp -implicitDefEqProofs [f__law_source, dFun, dStart, p__law_source, ln, hl', absL, pw, m1, m2, m4, mkL, hb, -Int.reducePow]
theorem choice_ok {h : Hep} {s k m : Nat} {y : Int} {xs : List AV} (S : Sr h s y k) (e : h[m]? = some (.lst xs)) (hm : m ≠ s) (h0 : 0 < xs.length) (h1 : xs.length < 1000000) (hk : k < 100000) (hn : ∀ x ∈ xs, x.nx = true) :
    ∃ v h', v ∈ xs ∧ f__law_choice [.ref s, .ref m] h = .ok v h' ∧ Fr [s] h h' ∧ Sr h' s y (k + 1) ∧ h'.length = h.length := by
  obtain ⟨w, h', w0, w1, e1, r1, l1, S1⟩ := draw_ok (m := (xs.length : Int)) S (by omega) (by omega) hk
  obtain ⟨n, rfl⟩ : ∃ n : Nat, w = n := ⟨w.toNat, by omega⟩
  have hl : n < xs.length := by omega
  have e2 := r1.at e (by simp [hm])
  refine ⟨xs[n], h', List.getElem_mem hl, ?_, r1, S1, l1⟩
  have i1 := idx_lst (i := (n : Int)) (v := xs[n]) e2 (atI_nat (by simp [hl]))
  simp [f__law_choice, dFun, dStart, p__law_choice, len_ref e, e1, i1]
/-- items -/
inductive Iv where
  | i (n : Int) | s (x : Str)
  deriving DecidableEq
def Iv.av : Iv → AV
  | .i n => .int n
  | .s x => .str x
def Iv.pd : Iv → PyData
  | .i n => .int n
  | .s x => .str x
def okC (x : Str) : Bool := decide (1 ≤ x.cps.size ∧ x.cps.size ≤ 6) && x.cps.toList.all fun c => decide (97 ≤ c ∧ c ≤ 122)
def Iv.okB : Iv → Bool
  | .i n => decide (n.natAbs < 1000000000000)
  | .s x => okC x
@[simp] theorem Iv.nx (v : Iv) : v.av.nx = true := by cases v <;> rfl
theorem isi_str (x : Str) (h : Hep) : isiL ct0 [.str x, .ty "str"] h = some (.bl true, h) := rfl
theorem isi_int (i : Int) (h : Hep) : isiL ct0 [.int i, .ty "str"] h = some (.bl false, h) := rfl
theorem sign_in {c : Nat} (h1 : 97 ≤ c) (h2 : c ≤ 122) (g : Hep) : inAV (.str ⟨#[c]⟩) (.str "abcdefghijklmnopqrstuvwxyz") g = some (.bl true, g) := by
  have z : ∀ c : Fin 26, inStr ⟨#[97 + c.val]⟩ "abcdefghijklmnopqrstuvwxyz" = true := by decide +kernel
  have z2 := z ⟨c - 97, by omega⟩
  have e : 97 + (c - 97) = c := by omega
  simp only [e] at z2
  simp [inAV, inB, z2]
theorem bls_true : ∀ n : Nat, blsOf (List.replicate n (.bl true)) = some (List.replicate n true)
  | 0 => rfl
  | n + 1 => by
    rw [List.replicate_succ]
    simp [blsOf, bls_true n, List.replicate_succ]
theorem word_ok (x : Str) (hx : okC x = true) (h : Hep) : ∃ h', f_is_word [.str x] h = .ok (.bl true) h' ∧ Fr [] h h' := by
  obtain ⟨h1, h2⟩ := Bool.and_eq_true_iff.mp hx
  have h1 := of_decide_eq_true h1
  rw [List.all_eq_true] at h2
  have ln : lenL [.str x] h = some (.int x.cps.size, h) := by
    have q : x.cps.size ≤ 1000000 := by omega
    simp [lenL, lenA, Str.length, q]
  obtain ⟨acc, g, e, ⟨ea, fr⟩, eD⟩ := lc_fix (f := dSrc (dVar 0)) (te := e_is_word_1) (g := dgN 1) (vs := [1]) (s := [some (.str x), none]) (h := h) (h1 := h) (xs := x.cps.toList.map fun c => .str ⟨#[c]⟩)
    (fun i acc g => acc = List.replicate i (.bl true) ∧ Fr [] h g) (by simp [dSrc]) (by simp; omega) ⟨rfl, Fr.app⟩
    (fun i acc g y hy ⟨ea, fr⟩ eD => by
      rw [List.getElem?_map] at hy
      cases z : x.cps.toList[i]? with
      | none =>
        rw [z] at hy
        cases hy
      | some c =>
        rw [z] at hy
        cases hy
        have hc := of_decide_eq_true (h2 c (List.mem_of_getElem? z))
        refine ⟨_, .bl true, g, rfl, ?_, eD, ?_, fr.set_new (Nat.le_refl _)⟩
        · simp [wipeS, e_is_word_1, sign_in hc.1 hc.2]
        · rw [ea, List.replicate_succ'])
  refine ⟨g, ?_, fr⟩
  have hl1 : (1 : Int) ≤ (x.cps.size : Int) := by omega
  have hl2 : (x.cps.size : Int) ≤ 6 := by omega
  have al : allL [.ref h.length] g = some (.bl true, g) := by
    subst ea
    simp [allL, seqOf, tupOf, lstOf, eD, bls_true]
  simp [f_is_word, dFun, dStart, p_is_word, isi_str, ln, hl1, hl2, e, al]
theorem word_i (i : Int) (h : Hep) : f_is_word [.int i] h = .ok (.bl false) h := by
  simp [f_is_word, dFun, dStart, p_is_word, isi_int]
theorem item_ok (v : Iv) (hv : v.okB = true) (h : Hep) : ∃ h', f_is_item [v.av] h = .ok (.bl true) h' ∧ Fr [] h h' := by
  cases v with
  | s x =>
    obtain ⟨g, e, fr⟩ := word_ok x hv h
    exact ⟨g, by simp [Iv.av, f_is_item, dFun, dStart, p_is_item, e], fr⟩
  | i k =>
    have hk : k.natAbs < 10 ^ 12 := of_decide_eq_true hv
    exact ⟨h, by simp [Iv.av, f_is_item, dFun, dStart, p_is_item, word_i, short_int _ _ hk], Fr.refl⟩
/-! as data -/
theorem Iv.dr (v : Iv) (h : Hep) : Dr h v.av v.pd := by
  cases v
  · exact .int _
  · exact .str _
theorem okC_str {x : Str} (hx : okC x = true) : PyData.strOk x = true := by
  obtain ⟨_, h2⟩ := Bool.and_eq_true_iff.mp hx
  rw [List.all_eq_true] at h2
  unfold PyData.strOk
  rw [← Array.all_toList, List.all_eq_true]
  intro c hc
  have := of_decide_eq_true (h2 c hc)
  exact decide_eq_true (by omega)
theorem Iv.can {v : Iv} (hv : v.okB = true) : v.pd.canLay0 = true := by
  cases v with
  | i n => simp [Iv.pd, PyData.canLay0]
  | s x => simp [Iv.pd, PyData.canLay0, okC_str hv]
theorem Iv.dep (v : Iv) : v.pd.depth ≤ 0 := by
  cases v <;> simp [Iv.pd, PyData.depth]
theorem Iv.eqv (v w : Iv) : PyData.eqv v.pd w.pd = decide (v = w) := by
  cases v <;> cases w <;> simp [Iv.pd, PyData.eqv] <;> rw [Bool.eq_iff_iff] <;> simp
abbrev okL (l : List Iv) : Prop := ∀ v ∈ l, v.okB = true
theorem canAllI {l : List Iv} (h : okL l) : PyData.canLayAll0 (l.map Iv.pd) = true := by
  induction l with
  | nil => simp [PyData.canLayAll0]
  | cons a l ih => simp [PyData.canLayAll0, Iv.can (h a (by simp)), ih fun v hv => h v (by simp [hv])]
theorem dOkI {l : List Iv} (h : okL l) : DOk (.list (l.map Iv.pd)) := by
  refine ⟨?_, ?_⟩
  · rw [PyData.canLay0]
    exact canAllI h
  · rw [depth_list]
    have := depthAll_map Iv.dep l
    omega
theorem neItems {h : Hep} {m n : Nat} {l k : List Iv} (e1 : h[m]? = some (.lst (l.map Iv.av))) (e2 : h[n]? = some (.lst (k.map Iv.av))) (o1 : okL l) (o2 : okL k) : neAV (.ref m) (.ref n) h = some (.bl (!decide (l = k)), h) := by
  rw [neAV_dr (.ref e1 (drA_map (fun x => x.dr h) l)) (.ref e2 (drA_map (fun x => x.dr h) k)) (dOkI o1) (dOkI o2), PyData.eqv, eqvAll_map Iv.eqv]
/-! deques -/
def bav : Option Nat → AV
  | none => .non
  | some k => .int k
@[simp] theorem bav_nx (b : Option Nat) : (bav b).nx = true := by cases b <;> rfl
/-- the deque at d: its row at r, the items l, the bound b, moves, version -/
structure Dq (h : Hep) (d r : Nat) (l : List Iv) (b : Option Nat) (mv vs : Int) : Prop where
  ob : h[d]? = some (.ins 0 [(0, .ref r), (1, bav b), (2, .int mv), (3, .int vs)])
  rw_ : h[r]? = some (.lst (l.map Iv.av))
  ok : okL l
  ln : l.length ≤ 1000
theorem Dq.fr {h h' : Hep} {d r : Nat} {l : List Iv} {b : Option Nat} {mv vs : Int} {ex : List Nat} (D : Dq h d r l b mv vs) (f : Fr ex h h') (h1 : d ∉ ex) (h2 : r ∉ ex) : Dq h' d r l b mv vs := ⟨f.at D.ob h1, f.at D.rw_ h2, D.ok, D.ln⟩
theorem Dq.ne {h : Hep} {d r : Nat} {l : List Iv} {b : Option Nat} {mv vs : Int} (D : Dq h d r l b mv vs) : d ≠ r := fun e => by
  have := D.ob.symm.trans (e ▸ D.rw_)
  cases this
theorem note_ok {h : Hep} {d r : Nat} {l : List Iv} {b : Option Nat} {mv vs k : Int} (D : Dq h d r l b mv vs) : ∃ h', f_Deque_note [.ref d, .int k] h = .ok .non h' ∧ Fr [d] h h' ∧ Dq h' d r l b (mv + k) (vs + 1) := by
  have hd := lt_of D.ob
  have e1 : (h.set d (.ins 0 [(0, .ref r), (1, bav b), (2, .int (mv + k)), (3, .int vs)]))[d]? = some (.ins 0 [(0, .ref r), (1, bav b), (2, .int (mv + k)), (3, .int vs)]) := by simp [hd]
  have a1 := augK_of (g := dVar 1) (r2 := addII) (s := [some (.ref d), some (.int k)]) (j := 2) (a := .int mv) D.ob rfl
  have a2 := augK_of (g := dC (.int 1)) (r2 := addII) (s := [some (.ref d), some (.int k)]) (j := 3) (a := .int vs) e1 rfl
  have b1 := aug_int (r2 := addII) (s := [some (.ref d), some (.int k)]) (j := 2) (i := mv) (y := k) (.inl ⟨rfl, rfl⟩) D.ob (by simp)
  have b2 := aug_int (r2 := addII) (s := [some (.ref d), some (.int k)]) (j := 3) (i := vs) (y := 1) (.inl ⟨rfl, rfl⟩) e1 (by simp)
  refine ⟨(h.set d (.ins 0 [(0, .ref r), (1, bav b), (2, .int (mv + k)), (3, .int vs)])).set d (.ins 0 [(0, .ref r), (1, bav b), (2, .int (mv + k)), (3, .int (vs + 1))]), ?_, (Fr.set (by simp)).trans (Fr.set (by simp)), ?_⟩
  · simp at b1 b2
    simp [f_Deque_note, dFun, dStart, p_Deque_note, a1, b1, a2, b2]
  · refine ⟨by simp [hd], ?_, D.ok, D.ln⟩
    rw [List.getElem?_set_ne D.ne, List.getElem?_set_ne D.ne]
    exact D.rw_
theorem need_ok (v : Iv) (hv : v.okB = true) (h : Hep) : ∃ h', f_need_item [v.av] h = .ok .non h' ∧ Fr [] h h' := by
  obtain ⟨g, e, fr⟩ := item_ok v hv h
  exact ⟨g, by simp [f_need_item, dFun, dStart, p_need_item, e], fr⟩
theorem needs {h : Hep} {m : Nat} {l : List Iv} {s0 : Sl} (o : okL l) (e : h[m]? = some (.lst (l.map Iv.av))) (hs : s0 = [s0.getD 0 none, some (.ref m), s0.getD 2 none]) :
    ∃ s' h', dFor (dSrc (dVar 1)) (dgN 2) b_checked_1 s0 h = .nx s' h' ∧ Fr [] h h' ∧ s'[1]? = some (some (.ref m)) := by
  rw [hs]
  rcases for_ret (f := dSrc (dVar 1)) (g := dgN 2) (body := b_checked_1) (s := [s0.getD 0 none, some (.ref m), s0.getD 2 none]) (h := h) (h1 := h) (xs := l.map Iv.av)
    (fun i s g => Fr [] h g ∧ ∃ a c, s = [a, some (.ref m), c]) (fun _ _ _ => False) (src_ref (n := m) (by simp) e) (len_at e) (fun i s g ⟨fr, _⟩ => next_at (fr.at e (by simp))) ⟨Fr.refl, _, _, rfl⟩
    (fun i s g x hx ⟨fr, a, c, es⟩ => by
      rw [List.getElem?_map] at hx
      cases z : l[i]? with
      | none =>
        rw [z] at hx
        cases hx
      | some v =>
        rw [z] at hx
        cases hx
        obtain ⟨g2, e2, f2⟩ := need_ok v (o v (List.mem_of_getElem? z)) g
        subst es
        exact ⟨_, rfl, .inl ⟨_, g2, .inl (by simp [b_checked_1, e2]), fr.trans f2, a, some v.av, rfl⟩⟩) with ⟨s', h', e', fr, a, c, es⟩ | ⟨_, _, _, _, z, _⟩
  · exact ⟨s', h', e', fr, by rw [es]; rfl⟩
  · exact z.elim
theorem list_ref {h : Hep} {m : Nat} {xs : List AV} (e : h[m]? = some (.lst xs)) : listL [.ref m] h = some (.ref h.length, h ++ [AO.lst xs]) := by
  simp [listL, seq_ref e]
theorem checked_ok {h : Hep} {m : Nat} {l : List Iv} (e : h[m]? = some (.lst (l.map Iv.av))) (o : okL l) : ∃ h', f_checked [.ref m] h = .ok (.ref h.length) h' ∧ Fr [] h h' ∧ h'[h.length]? = some (.lst (l.map Iv.av)) := by
  obtain ⟨s', g, e1, fr, es⟩ := needs (h := h ++ [AO.lst (l.map Iv.av)]) (m := h.length) (s0 := [some (.ref m), some (.ref h.length), none]) o new_at rfl
  refine ⟨g, ?_, Fr.app.trans fr, fr.at new_at (by simp)⟩
  have i1 : isiL ct0 [.ref m, .cls 0] h = some (.bl false, h) := isi_lst e rfl
  simp [f_checked, dFun, dStart, p_checked, i1, list_ref e, e1, es]
theorem bound_ok {b : Option Nat} (hb : ∀ k, b = some k → k ≤ 1000) (h : Hep) : f_is_bound [bav b] h = .ok (.bl true) h := by
  cases b with
  | none => simp [f_is_bound, dFun, dStart, p_is_bound, bav, isNonAV, isNonB]
  | some k =>
    have := hb k rfl
    have h1 : (k : Int) ≤ 1000 := by omega
    simp [f_is_bound, dFun, dStart, p_is_bound, bav, isNonAV, isNonB, isint_int, h1]
/-- the last ones -/
def lastN (l : List Iv) : Option Nat → List Iv
  | none => l
  | some k => l.drop (l.length - k)
theorem init_ok {h : Hep} {m d : Nat} {l : List Iv} {b : Option Nat} (e : h[m]? = some (.lst (l.map Iv.av))) (ed : h[d]? = some (.ins 0 [])) (o : okL l) (hl : l.length ≤ 1000) (hb : ∀ k, b = some k → k ≤ 1000) :
    ∃ r h', f_Deque_xinit [.ref d, .ref m, bav b] h = .ok .non h' ∧ Fr [d] h h' ∧ h.length ≤ r ∧ Dq h' d r (lastN l b) b 0 0 := by
  obtain ⟨g, e1, f1, e2⟩ := checked_ok e o
  have hd := lt_of ed
  have ed1 := f1.at ed (by simp)
  have fin : ∀ (r : Nat) (g1 : Hep) (k : List Iv), Fr [] g g1 → h.length ≤ r → g1[r]? = some (.lst (k.map Iv.av)) → k = lastN l b →
      (dIf (dTst (dOp isNonAV (dVar 2) (dC .non))) (dVar 3) (dSlc (dVar 3) (dPrt (dCB maxL (dCons (dC (.int 0)) (dCons (dCB intL (dCons (dOp subAV (dCB lenL (dCons (dVar 3) dNil)) (dVar 2)) dNil)) dNil)))) dNoP)) [some (.ref d), some (.ref m), some (bav b), some (.ref h.length)] g = .ok (.ref r) g1 →
      ∃ r h', f_Deque_xinit [.ref d, .ref m, bav b] h = .ok .non h' ∧ Fr [d] h h' ∧ h.length ≤ r ∧ Dq h' d r (lastN l b) b 0 0 := fun r g1 k fr hr er hk he => by
    have ed2 := fr.at ed1 (by simp)
    have hd2 := lt_of ed2
    have hrd : d ≠ r := by omega
    refine ⟨r, (((g1.set d (.ins 0 [(0, .ref r)])).set d (.ins 0 [(0, .ref r), (1, bav b)])).set d (.ins 0 [(0, .ref r), (1, bav b), (2, .int 0)])).set d (.ins 0 [(0, .ref r), (1, bav b), (2, .int 0), (3, .int 0)]), ?_, ?_, hr, ?_⟩
    · have i0 := ins_of ed2
      have i1 : insAt (g1.set d (.ins 0 [(0, .ref r)])) (.ref d) = some (d, 0, [(0, .ref r)]) := ins_of (by simp [hd2])
      have i2 : insAt ((g1.set d (.ins 0 [(0, .ref r)])).set d (.ins 0 [(0, .ref r), (1, bav b)])) (.ref d) = some (d, 0, [(0, .ref r), (1, bav b)]) := ins_of (by simp [hd2])
      have i3 : insAt (((g1.set d (.ins 0 [(0, .ref r)])).set d (.ins 0 [(0, .ref r), (1, bav b)])).set d (.ins 0 [(0, .ref r), (1, bav b), (2, .int 0)])) (.ref d) = some (d, 0, [(0, .ref r), (1, bav b), (2, .int 0)]) := ins_of (by simp [hd2])
      have hS : dSetF 0 (dVar 0) (dIf (dTst (dOp isNonAV (dVar 2) (dC .non))) (dVar 3) (dSlc (dVar 3) (dPrt (dCB maxL (dCons (dC (.int 0)) (dCons (dCB intL (dCons (dOp subAV (dCB lenL (dCons (dVar 3) dNil)) (dVar 2)) dNil)) dNil)))) dNoP)) [some (.ref d), some (.ref m), some (bav b), some (.ref h.length)] g = .nx [some (.ref d), some (.ref m), some (bav b), some (.ref h.length)] (g1.set d (.ins 0 [(0, .ref r)])) := by
        rw [xSetF, he]
        simp [i0]
      unfold f_Deque_xinit dFun p_Deque_xinit
      simp only [xSeq]
      simp [dStart, bound_ok hb, e1, -xSetF]
      rw [hS]
      simp only [List.set_set] at i1 i2 i3
      simp [i1, i2, i3]
    · exact ((((f1.trans fr).nil.trans (Fr.set (by simp))).trans (Fr.set (by simp))).trans (Fr.set (by simp))).trans (Fr.set (by simp))
    · refine ⟨by simp [hd2], ?_, ?_, ?_⟩
      · simp only [List.set_set]
        rw [List.getElem?_set_ne hrd, ← hk]
        exact er
      · intro v hv
        cases b with
        | none => exact o v hv
        | some q => exact o v (List.mem_of_mem_drop hv)
      · cases b with
        | none => exact hl
        | some q =>
          simp only [lastN, List.length_drop]
          omega
  cases b with
  | none => exact fin h.length g l Fr.refl (Nat.le_refl _) e2 rfl (by simp [bav, isNonAV, isNonB])
  | some k =>
    have hcut : (cutA (l.map Iv.av) (some ((l.length - k : Nat) : Int)) none) = (lastN l (some k)).map Iv.av := by
      rw [cut_tail]
      simp [lastN, List.map_drop]
    obtain ⟨r, g1, e3, f3, hr, e4⟩ := sl_new (some ((l.length - k : Nat) : Int)) none e2 (by rw [hcut]; simp [lastN]; omega)
    rw [hcut] at e4
    refine fin r g1 _ f3 (Nat.le_trans f1.1 hr) e4 rfl ?_
    have hm : max 0 ((l.length : Int) - (k : Int)) = ((l.length - k : Nat) : Int) := by omega
    simp [bav, isNonAV, isNonB, len_ref e2, intL, maxL, hm, e3]
/-! turns -/
theorem moves_ok {h : Hep} {d r : Nat} {l : List Iv} {b : Option Nat} {mv vs : Int} (D : Dq h d r l b mv vs) : f_Deque_moves [.ref d] h = .ok (.int mv) h := by
  simp [f_Deque_moves, dFun, dStart, p_Deque_moves, ins_of D.ob]
theorem len_ok {h : Hep} {d r : Nat} {l : List Iv} {b : Option Nat} {mv vs : Int} (D : Dq h d r l b mv vs) : f_Deque_xlen [.ref d] h = .ok (.int l.length) h := by
  have l0 := len_ref D.rw_
  simp only [List.length_map] at l0
  simp [f_Deque_xlen, dFun, dStart, p_Deque_xlen, ins_of D.ob, l0]
theorem listed_ok {h : Hep} {d r : Nat} {l : List Iv} {b : Option Nat} {mv vs : Int} (D : Dq h d r l b mv vs) : f_Deque_listed [.ref d] h = .ok (.ref h.length) (h ++ [AO.lst (l.map Iv.av)]) := by
  simp [f_Deque_listed, dFun, dStart, p_Deque_listed, ins_of D.ob, list_ref D.rw_]
/-! list methods at a place -/
theorem ins_b (B : Int) (hB : (1000000 : Int) < B) {n k : Nat} (hz : n < 1000000) (hk : k ≤ n) : n < 1000000 ∧ (0 : Int) ≤ (k : Int) ∧ (k : Int) < B := ⟨hz, by omega, by omega⟩
theorem ins_place {h : Hep} {n k : Nat} {xs : List AV} {x : AV} (e : h[n]? = some (.lst xs)) (hk : k ≤ xs.length) (hz : xs.length < 1000000) : mInsert (.ref n) [.int (k : Int), x] h = some (.non, h.set n (.lst (xs.take k ++ [x] ++ xs.drop k))) := by
  have hl : lstAt h (.ref n) = some (n, xs) := by simp [lstAt, e]
  have hb := ins_b (2 ^ 63) two63 hz hk
  unfold mInsert
  rw [hl]
  dsimp only
  rw [if_pos hb, Int.toNat_natCast]
theorem ins_last {h : Hep} {n : Nat} {xs : List AV} {x : AV} (e : h[n]? = some (.lst xs)) (hz : xs.length < 1000000) : mInsert (.ref n) [.int (xs.length : Int), x] h = some (.non, h.set n (.lst (xs ++ [x]))) := by
  have := ins_place (x := x) e (Nat.le_refl _) hz
  rw [List.take_length, List.drop_length, List.append_nil] at this
  exact this
/-! adding, removing -/
theorem Dq.upd {h : Hep} {d r : Nat} {l k : List Iv} {b : Option Nat} {mv vs : Int} (D : Dq h d r l b mv vs) (ok : okL k) (hk : k.length ≤ 1000) : Dq (h.set r (.lst (k.map Iv.av))) d r k b mv vs := by
  refine ⟨?_, by simp [lt_of D.rw_], ok, hk⟩
  rw [List.getElem?_set_ne (Ne.symm D.ne)]
  exact D.ob
def full (l : List Iv) : Option Nat → Bool
  | none => false
  | some k => decide (k ≤ l.length)
theorem full_ok {h : Hep} {d r : Nat} {l : List Iv} {b : Option Nat} {mv vs : Int} (D : Dq h d r l b mv vs) : f_Deque_is_full [.ref d] h = .ok (.bl (full l b)) h := by
  have l0 := len_ref D.rw_
  simp only [List.length_map] at l0
  have o := ins_of D.ob
  cases b with
  | none => simp -implicitDefEqProofs [f_Deque_is_full, dFun, dStart, p_Deque_is_full, o, bav, notNonAV, isNonB, full]
  | some k => simp -implicitDefEqProofs [f_Deque_is_full, dFun, dStart, p_Deque_is_full, o, bav, notNonAV, isNonB, l0, full]
theorem lim0 (b : Option Nat) (h : Hep) : eqAV (bav b) (.int 0) h = some (.bl (decide (b = some 0)), h) := by
  cases b with
  | none =>
    show eqAV .non (.int 0) h = _
    rw [eqAV_dr (d := .none) .non (.int _) ⟨by rw [PyData.canLay0], by rw [PyData.depth]; decide⟩ dOk_int, PyData.eqv]
    · simp
    all_goals simp
  | some k =>
    show eqAV (.int (k : Int)) (.int 0) h = _
    rw [eq_ii]
    simp
def apR (l : List Iv) (b : Option Nat) (v : Iv) : List Iv × List Iv × Nat := if b = some 0 then (l, [v], 0) else match full l b, l with
  | true, x :: r => (r ++ [v], [x], 2)
  | _, l => (l ++ [v], [], 1)
theorem okL_cons {v : Iv} {l : List Iv} (hv : v.okB = true) (o : okL l) : okL (v :: l) := fun w hw => by
  rcases List.mem_cons.mp hw with rfl | h
  · exact hv
  · exact o w h
theorem okL_app {l k : List Iv} (o : okL l) (o2 : okL k) : okL (l ++ k) := fun w hw => (List.mem_append.mp hw).elim (o w) (o2 w)
theorem okL_one {v : Iv} (hv : v.okB = true) : okL [v] := okL_cons hv fun w hw => by cases hw
theorem neNil {h : Hep} {m n : Nat} {l : List Iv} (o : okL l) (e1 : h[m]? = some (.lst (l.map Iv.av))) (e2 : h[n]? = some (.lst [])) : neAV (.ref m) (.ref n) h = some (.bl (!decide (l = [])), h) := neItems (k := []) e1 e2 o fun w hw => by cases hw
theorem full_ne {l : List Iv} {b : Option Nat} (hf : full l b = true) (hb : b ≠ some 0) : l ≠ [] := by
  rintro rfl
  cases b with
  | none => cases hf
  | some k =>
    have := of_decide_eq_true hf
    simp at this
    subst this
    exact hb rfl
/-! removing -/
/-! at a place -/
/-! random items, bounds, models -/
theorem rev_ind {α : Type} {p : List α → Prop} (nil : p []) (snoc : ∀ l a, p l → p (l ++ [a])) (l : List α) : p l := by
  have h : ∀ r : List α, p r.reverse := fun r => by
    induction r with
    | nil => exact nil
    | cons a r ih =>
      rw [List.reverse_cons]
      exact snoc _ _ ih
  have := h l.reverse
  rwa [List.reverse_reverse] at this
theorem litem_ok {h : Hep} {s k : Nat} {y : Int} (S : Sr h s y k) (hk : k < 90000) : ∃ (v : Iv) (h' : Hep), f__law_item [.ref s] h = .ok v.av h' ∧ v.okB = true ∧ Fr [s] h h' ∧ Sr h' s y (k + 1) := by
  have hs := S.lt
  obtain ⟨n2, g2, e2, r2, hn2, el2⟩ := mk_new [.int 0, .int 1, .int 2, .int (-1), .int 7, .int 999999999999, .str "a", .str "b", .str "ab", .str "zzzzzz"] h (by simp)
  obtain ⟨v, g3, hv, e3, r3, S4, l3⟩ := choice_ok (m := n2) (S.fr r2 (Nat.le_refl _)) el2 (by omega) (by simp) (by simp) (by omega) (by simp)
  obtain ⟨w, hw, ew⟩ : ∃ w : Iv, w.okB = true ∧ v = w.av := by
    simp only [List.mem_cons, List.not_mem_nil, or_false] at hv
    rcases hv with rfl | rfl | rfl | rfl | rfl | rfl | rfl | rfl | rfl | rfl
    · exact ⟨.i 0, by decide, rfl⟩
    · exact ⟨.i 1, by decide, rfl⟩
    · exact ⟨.i 2, by decide, rfl⟩
    · exact ⟨.i (-1), by decide, rfl⟩
    · exact ⟨.i 7, by decide, rfl⟩
    · exact ⟨.i 999999999999, by decide, rfl⟩
    · exact ⟨.s "a", by decide +kernel, rfl⟩
    · exact ⟨.s "b", by decide +kernel, rfl⟩
    · exact ⟨.s "ab", by decide +kernel, rfl⟩
    · exact ⟨.s "zzzzzz", by decide +kernel, rfl⟩
  subst ew
  exact ⟨w, g3, by simp -implicitDefEqProofs [f__law_item, dFun, dStart, p__law_item, e2, e3], hw, r2.nil.trans r3, S4⟩
theorem litems_ok {h : Hep} {s k m : Nat} {y : Int} (S : Sr h s y k) (hk : k < 80000) (hm : m < 1000) :
    ∃ (l : List Iv) (n : Nat) (h' : Hep), f__law_items [.ref s, .int (m : Int)] h = .ok (.ref n) h' ∧ h'[n]? = some (.lst (l.map Iv.av)) ∧ l.length ≤ m ∧ okL l ∧ Fr [s] h h' ∧ h.length ≤ n ∧ Sr h' s y (k + 1 + m) := by
  obtain ⟨w, h1, w0, w1, e1, r1, l1, S1⟩ := draw_ok (m := (m : Int) + 1) S (by omega) (by omega) (by omega)
  obtain ⟨n, rfl⟩ : ∃ n : Nat, w = n := ⟨w.toNat, by omega⟩
  have ef : dRg1 (dCons (dCallC f__law_draw 2 0 2 [0, 1] [] (dCons (dVar 0) (dCons (dOp addAV (dVar 1) (dC (.int 1))) dNil)) dNil) dNil) [some (.ref s), some (.int (m : Int)), none] h = .ok (.fix (rngL 0 n)) h1 := rg1_ok (j := n) (by simp [e1]) rfl (by omega)
  have hs := S1.lt
  obtain ⟨acc, h', e, ⟨l, ea, hl, ol, fr, S2⟩, eD⟩ := lc_fix (te := e__law_items_1) (g := dgN 2) (vs := [2])
    (fun i acc g => ∃ l : List Iv, acc = l.map Iv.av ∧ l.length = i ∧ okL l ∧ Fr [s] h1 g ∧ Sr g s y (k + 1 + i)) ef (by simp; omega) ⟨[], rfl, rfl, (fun v hv => by cases hv), Fr.app, S1.fr Fr.app (by omega)⟩
    (fun i acc g x hx ⟨l, ea, hl, ol, fr, S2⟩ eD => by
      have hi : i < n := by
        have := (List.getElem?_eq_some_iff.mp hx).1
        simpa using this
      obtain ⟨v, g2, e2, hv, r2, S3⟩ := litem_ok S2 (by omega)
      have hD := lt_of eD
      refine ⟨[some (.ref s), some (.int (m : Int)), some x], v.av, g2, rfl, by simp -implicitDefEqProofs [e__law_items_1, e2], ?_, l ++ [v], by simp [ea], by simp [hl], okL_app ol (okL_one hv), ((fr.trans r2).set_new (Nat.le_refl _)), ?_⟩
      · rw [r2.2 _ hD (by simp; omega)]
        exact eD
      · obtain ⟨⟨x, z, e, a, b, c⟩, y0, y1⟩ := S3
        exact ⟨⟨x, z, by rw [List.getElem?_set_ne (by omega)]; exact e, a, b, by omega⟩, y0, y1⟩)
  simp only [rngL_length] at hl S2
  subst ea
  exact ⟨l, h1.length, h', by simp -implicitDefEqProofs [f__law_items, dFun, dStart, p__law_items, e], eD, by omega, ol, r1.trans fr, by omega, S2.fr Fr.refl (by omega)⟩
theorem lbound_ok {h : Hep} {s k : Nat} {y : Int} (S : Sr h s y k) (hk : k < 90000) : ∃ (b : Option Nat) (h' : Hep), f__law_bound [.ref s] h = .ok (bav b) h' ∧ (∀ k, b = some k → k ≤ 8) ∧ Fr [s] h h' ∧ Sr h' s y (k + 1) := by
  have hs := S.lt
  obtain ⟨n2, g2, e2, r2, hn2, el2⟩ := mk_new [.non, .non, .int 0, .int 1, .int 2, .int 3, .int 5, .int 8] h (by simp)
  obtain ⟨v, g3, hv, e3, r3, S4, l3⟩ := choice_ok (m := n2) (S.fr r2 (Nat.le_refl _)) el2 (by omega) (by simp) (by simp) (by omega) (by simp)
  obtain ⟨b, hb, eb⟩ : ∃ b : Option Nat, (∀ k, b = some k → k ≤ 8) ∧ v = bav b := by
    simp only [List.mem_cons, List.not_mem_nil, or_false] at hv
    rcases hv with rfl | rfl | rfl | rfl | rfl | rfl | rfl | rfl
    · exact ⟨none, by simp, rfl⟩
    · exact ⟨none, by simp, rfl⟩
    · exact ⟨some 0, by simp, rfl⟩
    · exact ⟨some 1, by simp, rfl⟩
    · exact ⟨some 2, by simp, rfl⟩
    · exact ⟨some 3, by simp, rfl⟩
    · exact ⟨some 5, by simp, rfl⟩
    · exact ⟨some 8, by simp, rfl⟩
  subst eb
  exact ⟨b, g3, by simp -implicitDefEqProofs [f__law_bound, dFun, dStart, p__law_bound, e2, e3], hb, r2.nil.trans r3, S4⟩
/-- within the bound -/
def inB_ (l : List Iv) (b : Option Nat) : Prop := ∀ k, b = some k → l.length ≤ k
theorem full_iff {l : List Iv} {k : Nat} (hb : inB_ l (some k)) : full l (some k) = decide (l.length = k) := by
  have := hb k rfl
  simp only [full]
  congr 1
  exact propext ⟨fun h => by omega, fun h => by omega⟩
theorem ladded_ok {h : Hep} {n : Nat} {l : List Iv} {b : Option Nat} {v : Iv} (e : h[n]? = some (.lst (l.map Iv.av))) (hb : inB_ l b) (hl : l.length < 1000) :
    ∃ m h', f__law_added [.ref n, bav b, v.av, .bl false] h = .ok (.ref m) h' ∧ Fr [n] h h' ∧ h.length ≤ m ∧ h'[n]? = some (.lst ((apR l b v).1.map Iv.av)) ∧ h'[m]? = some (.lst ((apR l b v).2.1.map Iv.av)) := by
  have hn := lt_of e
  have z := lim0 b h
  by_cases h0 : b = some 0
  · rw [decide_eq_true h0] at z
    obtain ⟨m, g, e2, f, hm, el⟩ := mk_new [v.av] h (by simp)
    refine ⟨m, g, ?_, f.nil, hm, ?_, ?_⟩
    · simp -implicitDefEqProofs [f__law_added, dFun, dStart, p__law_added, z, e2]
    · simp only [apR, if_pos h0]
      exact f.at e (by simp)
    · simp only [apR, if_pos h0]
      exact el
  · rw [decide_eq_false h0] at z
    have q1 := ins_last (x := v.av) e (by simp; omega)
    simp only [List.length_map] at q1
    have l0 := len_ref e
    simp only [List.length_map] at l0
    have e1 : (h.set n (.lst (l.map Iv.av ++ [v.av])))[n]? = some (.lst (l.map Iv.av ++ [v.av])) := by simp [hn]
    have f1 : Fr [n] h (h.set n (.lst (l.map Iv.av ++ [v.av]))) := Fr.set (by simp)
    generalize hg : h.set n (.lst (l.map Iv.av ++ [v.av])) = g at q1 e1 f1
    have l1 := len_ref e1
    simp only [List.length_append, List.length_map, List.length_cons, List.length_nil] at l1
    have no : full l b = false → (dAnd (dTst (dOp notNonAV (dVar 1) (dC .non))) (dTst (dOp gtAV (dCB lenL (dCons (dVar 0) dNil)) (dVar 1)))) [some (.ref n), some (bav b), some v.av, some (.bl false)] g = .ok false g := fun hf => by
      cases b with
      | none => simp -implicitDefEqProofs [bav, notNonAV, isNonB]
      | some k =>
        rw [full_iff hb] at hf
        have hk := hb k rfl
        have hne := of_decide_eq_false hf
        have : ¬ (k : Int) < (l.length : Int) + 1 := by omega
        simp -implicitDefEqProofs [bav, notNonAV, isNonB, l1, this]
    by_cases hf : full l b = true
    · cases l with
      | nil => exact absurd rfl (full_ne hf h0)
      | cons x r =>
        have q2 := pop_first (x := x.av) (xs := r.map Iv.av ++ [v.av]) (by simpa using e1)
        have hgn := lt_of e1
        have e3 : (g.set n (.lst (r.map Iv.av ++ [v.av])))[n]? = some (.lst (r.map Iv.av ++ [v.av])) := by simp [hgn]
        have f3 : Fr [n] g (g.set n (.lst (r.map Iv.av ++ [v.av]))) := Fr.set (by simp)
        generalize g.set n (.lst (r.map Iv.av ++ [v.av])) = g2 at q2 e3 f3
        obtain ⟨m, g3, e4, f4, hm, el⟩ := mk_new [x.av] g2 (by simp)
        have yes : (dAnd (dTst (dOp notNonAV (dVar 1) (dC .non))) (dTst (dOp gtAV (dCB lenL (dCons (dVar 0) dNil)) (dVar 1)))) [some (.ref n), some (bav b), some v.av, some (.bl false)] g = .ok true g := by
          cases b with
          | none => cases hf
          | some k =>
            have hk := hb k rfl
            have hk2 : k ≤ (x :: r).length := of_decide_eq_true hf
            have : (k : Int) < ((x :: r).length : Int) + 1 := by omega
            simp -implicitDefEqProofs at this l1
            simp -implicitDefEqProofs [bav, notNonAV, isNonB, l1, this]
        refine ⟨m, g3, ?_, (f1.trans f3).trans f4.nil, ?_, ?_, ?_⟩
        · simp -implicitDefEqProofs at q1
          simp -implicitDefEqProofs [f__law_added, dFun, dStart, p__law_added, z, tyA_lst e, l0, q1, -xAnd, yes, tyA_lst e1, q2, e4]
        · have := f1.1
          have := f3.1
          omega
        · simp only [apR, if_neg h0, hf]
          rw [f4.at e3 (by simp)]
          simp
        · simp only [apR, if_neg h0, hf]
          exact el
    · have hf' : full l b = false := by simpa using hf
      obtain ⟨m, g3, e4, f4, hm, el⟩ := mk_new [] g (by simp)
      refine ⟨m, g3, ?_, f1.trans f4.nil, ?_, ?_, ?_⟩
      · simp -implicitDefEqProofs [f__law_added, dFun, dStart, p__law_added, z, tyA_lst e, l0, q1, -xAnd, no hf', e4]
      · have := f1.1
        omega
      · simp only [apR, if_neg h0, hf']
        rw [f4.at e1 (by simp)]
        simp
      · simp only [apR, if_neg h0, hf']
        exact el
/-! several, one by one -/
def stR (b : Option Nat) (S : List Iv × List Iv × Nat) (v : Iv) : List Iv × List Iv × Nat := ((apR S.1 b v).1, S.2.1 ++ (apR S.1 b v).2.1, S.2.2 + (apR S.1 b v).2.2)
def exR (l : List Iv) (b : Option Nat) (vs : List Iv) : List Iv × List Iv × Nat := vs.foldl (stR b) (l, [], 0)
theorem exR_snoc (l : List Iv) (b : Option Nat) (vs : List Iv) (v : Iv) : exR l b (vs ++ [v]) = stR b (exR l b vs) v := by
  simp [exR, List.foldl_append]
theorem lastN_snoc (vs : List Iv) (v : Iv) (b : Option Nat) : lastN (vs ++ [v]) b = (apR (lastN vs b) b v).1 := by
  cases b with
  | none => simp [lastN, apR, full]
  | some k =>
    cases k with
    | zero => simp [lastN, apR]
    | succ k =>
      have hin : inB_ (lastN vs (some (k + 1))) (some (k + 1)) := fun j hj => by
        cases hj
        simp only [lastN, List.length_drop]
        omega
      unfold apR
      rw [if_neg (by simp), full_iff hin]
      by_cases h : k + 1 ≤ vs.length
      · have h2 : (lastN vs (some (k + 1))).length = k + 1 := by
          simp only [lastN, List.length_drop]
          omega
        rw [decide_eq_true h2]
        cases z : lastN vs (some (k + 1)) with
        | nil =>
          rw [z] at h2
          simp at h2
        | cons x r =>
          have e1 : vs.drop (vs.length - (k + 1)) = x :: r := z
          have e2 : vs.drop (vs.length - k) = r := by
            have : vs.length - k = vs.length - (k + 1) + 1 := by omega
            rw [this, ← List.drop_drop, e1]
            rfl
          simp only [lastN, List.length_append, List.length_cons, List.length_nil]
          have e3 : vs.length + 0 + 1 - (k + 1) = vs.length - k := by omega
          rw [show vs.length + (0 + 1) - (k + 1) = vs.length - k by omega, List.drop_append_of_le_length (by omega), e2]
      · have h2 : (lastN vs (some (k + 1))).length ≠ k + 1 := by
          simp only [lastN, List.length_drop]
          omega
        rw [decide_eq_false h2]
        have e1 : lastN vs (some (k + 1)) = vs := by
          simp only [lastN]
          rw [show vs.length - (k + 1) = 0 by omega]
          rfl
        rw [e1]
        simp only [lastN, List.length_append, List.length_cons, List.length_nil]
        rw [show vs.length + (0 + 1) - (k + 1) = 0 by omega]
        rfl
theorem exR_last (vs : List Iv) (b : Option Nat) : (exR [] b vs).1 = lastN vs b := by
  refine rev_ind (p := fun vs => (exR [] b vs).1 = lastN vs b) (by cases b <;> simp [exR, lastN]) (fun vs v ih => ?_) vs
  rw [exR_snoc, lastN_snoc, ← ih]
  rfl
theorem lastN_in (vs : List Iv) (b : Option Nat) : inB_ (lastN vs b) b := fun k hk => by
  subst hk
  simp only [lastN, List.length_drop]
  omega
theorem lastN_len (vs : List Iv) (b : Option Nat) : (lastN vs b).length ≤ vs.length := by
  cases b with
  | none => exact Nat.le_refl _
  | some k =>
    simp only [lastN, List.length_drop]
    omega
/-- the law's model -/
theorem lmodel_ok {h : Hep} {s k : Nat} {y : Int} (S : Sr h s y k) (hk : k < 70000) :
    ∃ (b : Option Nat) (vs : List Iv) (t n m : Nat) (h' : Hep), f__law_model [.ref s] h = .ok (.tup [.ref t, .ref n]) h' ∧ (∀ k, b = some k → k ≤ 8) ∧ h'[t]? = some (.lst [.ref m, bav b, .int 0, .int 0]) ∧ h'[m]? = some (.lst ((lastN vs b).map Iv.av)) ∧ h'[n]? = some (.lst (vs.map Iv.av)) ∧
      vs.length ≤ 6 ∧ okL vs ∧ Fr [s] h h' ∧ h.length ≤ t ∧ h.length ≤ n ∧ h.length ≤ m ∧ m ≠ n ∧ Sr h' s y (k + 8) := by
  obtain ⟨b, h1, e1, hb, f1, S1⟩ := lbound_ok S (by omega)
  obtain ⟨vs, n, h2, e2, el2, hvs, ov, f2, hn, S2⟩ := litems_ok (m := 6) S1 (by omega) (by omega)
  have hs := S.lt
  have hl1 := f1.1
  have hl2 := f2.1
  obtain ⟨m, h3, e3, f3, hm, el3⟩ := mk_new [] h2 (by simp)
  have hmn : m ≠ n := by
    have := lt_of el2
    omega
  have eln := f3.at el2 (by simp)
  rcases for_ret (f := dSrc (dVar 2)) (g := dgN 4) (body := b__law_model_1) (s := [some (.ref s), some (bav b), some (.ref n), some (.ref m), none]) (h := h3) (h1 := h3) (xs := vs.map Iv.av)
    (fun i sl g => Fr [m] h3 g ∧ g[m]? = some (.lst ((exR [] b (vs.take i)).1.map Iv.av)) ∧ ∃ x, sl = [some (.ref s), some (bav b), some (.ref n), some (.ref m), x]) (fun _ _ _ => False) (src_ref (n := n) (by simp) eln) (len_at eln) (fun i sl g ⟨fr, _⟩ => next_at (fr.at eln (by simp; omega))) ⟨Fr.refl, by simpa [exR] using el3, _, rfl⟩
    (fun i sl g x hx ⟨fr, em, a, es⟩ => by
      rw [List.getElem?_map] at hx
      cases z : vs[i]? with
      | none =>
        rw [z] at hx
        cases hx
      | some v =>
        rw [z] at hx
        cases hx
        have hi := (List.getElem?_eq_some_iff.mp z).1
        have len : ∀ i, (exR [] b (vs.take i)).1.length ≤ 6 := fun i => by
          rw [exR_last]
          have := lastN_len (vs.take i) b
          simp at this
          omega
        obtain ⟨q, g2, e4, f4, hq, em2, _⟩ := ladded_ok (v := v) em (by rw [exR_last]; exact lastN_in _ _) (by have := len i; omega)
        subst es
        refine ⟨_, rfl, .inl ⟨_, g2, .inl (by simp -implicitDefEqProofs [b__law_model_1, e4]), fr.trans f4, ?_, some v.av, rfl⟩⟩
        have et : vs.take (i + 1) = vs.take i ++ [v] := by
          rw [List.take_succ, z]
          rfl
        rw [et, exR_snoc]
        exact em2) with ⟨s', h4, e4, fr, em, a, es⟩ | ⟨_, _, _, _, z, _⟩
  · subst es
    simp only [List.length_map] at em
    rw [List.take_length, exR_last] at em
    obtain ⟨t, h5, e5, f5, ht, el5⟩ := mk_new [.ref m, bav b, .int 0, .int 0] h4 (by simp)
    have f35 : Fr [] h2 h5 := ((f3.nil.trans fr).trans f5.nil).drop (by simp; omega)
    have hl4 := fr.1
    have hl3 := f3.1
    refine ⟨b, vs, t, n, m, h5, ?_, hb, el5, f5.at em (by simp), f35.at el2 (by simp), hvs, ov, (f1.trans f2).trans f35.nil, by omega, by omega, by omega, hmn, S2.fr f35 (by omega)⟩
    have bn : (bav b).nx = true := bav_nx b
    have e2' : f__law_items [.ref s, .int 6] h1 = .ok (.ref n) h2 := e2
    simp -implicitDefEqProofs [f__law_model, dFun, dStart, p__law_model, e1, e2', e3, e4, e5, mkT]
  · exact z.elim
theorem ok_ofS (s : String) : PyData.strOk (Str.ofString s) = true := by
  rw [Str.ofString_eq_toList]
  unfold PyData.strOk
  simp only [List.all_toArray, List.all_map, List.all_eq_true]
  intro c _
  have h : c.toNat.isValidChar := c.valid
  unfold Nat.isValidChar at h
  simp only [Function.comp_apply, decide_eq_true_eq]
  omega
theorem ok_appS {x y : Str} (hx : PyData.strOk x = true) (hy : PyData.strOk y = true) : PyData.strOk (x ++ y) = true := by
  have e : (x ++ y).cps = x.cps ++ y.cps := rfl
  unfold PyData.strOk at *
  rw [e, Array.all_append, hx, hy]
  rfl
/-- what is shown of a value, now and later -/
structure Rp (h : Hep) (v : AV) (x : Str) : Prop where
  nx : v.nx = true
  re : ∀ g, Fr [] h g → reprL [v] g = some (.str x, g)
  le : x.length ≤ 1000
  ok : PyData.strOk x = true
theorem Rp.fr {h h' : Hep} {v : AV} {x : Str} (r : Rp h v x) (f : Fr [] h h') : Rp h' v x := ⟨r.nx, fun g fg => r.re g (f.trans fg), r.le, r.ok⟩
def shB (d : PyData) : Bool := d.showable && !d.hasDict && decide (d.shown.length ≤ 1000) && decide (d.depth ≤ 60) && PyData.strOk d.shown
theorem rp_of {h : Hep} {v : AV} {d : PyData} (nx : v.nx = true) (e : ∀ g, Fr [] h g → toD DD g v = some d) (c : shB d = true) : Rp h v d.shown := by
  simp only [shB, Bool.and_eq_true, Bool.not_eq_true', decide_eq_true_eq] at c
  obtain ⟨⟨⟨⟨c1, c2⟩, c3⟩, c4⟩, c5⟩ := c
  refine ⟨nx, fun g f => ?_, c3, c5⟩
  have q : d.shown.length ≤ SZ := Nat.le_trans c3 (by decide)
  simp only [reprL, e g f]
  exact if_pos ⟨c1, c2, q, c4⟩
theorem rp_pure {v : AV} {d : PyData} (h : Hep) (nx : v.nx = true) (e : ∀ g, toD DD g v = some d) (c : shB d = true) : Rp h v d.shown := rp_of nx (fun g _ => e g) c
/-! values that are no items -/
def Odd (h : Hep) (v : AV) : Prop := v.nx = true ∧ ∀ g, Fr [] h g → ∃ g', f_is_item [v] g = .ok (.bl false) g' ∧ Fr [] g g'
theorem Odd.fr {h h' : Hep} {v : AV} (O : Odd h v) (f : Fr [] h h') : Odd h' v := ⟨O.1, fun g fg => O.2 g (f.trans fg)⟩
theorem odd_k {h : Hep} {v : AV} (nx : v.nx = true) (hs : ∀ g, Fr [] h g → isiL ct0 [v, .ty "str"] g = some (.bl false, g)) (hi : ∀ g, Fr [] h g → isiL ct0 [v, .ty "int"] g = some (.bl false, g)) : Odd h v :=
  ⟨nx, fun g fg => ⟨g, by simp [f_is_item, dFun, dStart, p_is_item, f_is_word, p_is_word, f_is_short, p_is_short, f_is_integer, p_is_integer, hs g fg, hi g fg, nx], Fr.refl⟩⟩
theorem odd_bl (h : Hep) (b : Bool) : Odd h (.bl b) := by
  have hs : ∀ g, isiL ct0 [.bl b, .ty "str"] g = some (.bl false, g) := fun g => rfl
  have hi : ∀ g, isiL ct0 [.bl b, .ty "int"] g = some (.bl true, g) := fun g => rfl
  have hb : ∀ g, isiL ct0 [.bl b, .ty "bool"] g = some (.bl true, g) := fun g => rfl
  exact ⟨rfl, fun g fg => ⟨g, by simp [f_is_item, dFun, dStart, p_is_item, f_is_word, p_is_word, f_is_short, p_is_short, f_is_integer, p_is_integer, hs, hi, hb], Fr.refl⟩⟩
theorem odd_int (h : Hep) (i : Int) (hi : 10 ^ 12 ≤ i.natAbs) : Odd h (.int i) := by
  refine ⟨rfl, fun g fg => ⟨g, ?_, Fr.refl⟩⟩
  have c : ¬ (i.natAbs : Int) < 1000000000000 := by omega
  have pw : powAV (.int 10) (.int 12) g = some (.int ((10 : Int) ^ 12), g) := pow_ii (by omega) (by omega) (by decide)
  have sh : f_is_short [.int i] g = .ok (.bl false) g := by
    simp [f_is_short, dFun, dStart, p_is_short, isint_int, absL, pw]
    omega
  simp [f_is_item, dFun, dStart, p_is_item, word_i, sh]
theorem bls_map (l : List Bool) : blsOf (l.map AV.bl) = some l := by
  induction l with
  | nil => rfl
  | cons a l ih => simp [blsOf, ih]
theorem all_bls {h : Hep} {n : Nat} {l : List Bool} (e : h[n]? = some (.lst (l.map .bl))) : allL [.ref n] h = some (.bl (l.all id), h) := by
  have lo : lstOf h (.ref n) = some (l.map .bl) := by simp [lstOf, e]
  simp [allL, lo, bls_map]
def chB (c : Nat) : Bool := inStr ⟨#[c]⟩ "abcdefghijklmnopqrstuvwxyz"
theorem odd_str (h : Hep) (x : Str) (hx : (decide (1 ≤ x.cps.size ∧ x.cps.size ≤ 6) && x.cps.toList.all chB) = false) (hl : x.cps.size ≤ 100) : Odd h (.str x) := by
  refine ⟨rfl, fun g fg => ?_⟩
  have ln : lenL [.str x] g = some (.int x.cps.size, g) := by
    have q : x.cps.size ≤ 1000000 := by omega
    simp [lenL, lenA, Str.length, q]
  have hi : ∀ g, isiL ct0 [.str x, .ty "int"] g = some (.bl false, g) := fun g => rfl
  have wd : ∃ g', f_is_word [.str x] g = .ok (.bl false) g' ∧ Fr [] g g' := by
    by_cases c1 : 1 ≤ x.cps.size
    · by_cases c2 : x.cps.size ≤ 6
      · rw [decide_eq_true ⟨c1, c2⟩, Bool.true_and] at hx
        have r := lc_map (f := dSrc (dVar 0)) (te := e_is_word_1) (g := dgN 1) (vs := [1]) (s := [some (.str x), none]) (h := g) (h1 := g) (l := x.cps.toList) (fun c => AV.str ⟨#[c]⟩) (fun c => AV.bl (chB c)) (Sq.fix (by simp [dSrc])) (by simp; omega) fun c acc hc => ⟨[some (.str x), some (.str ⟨#[c]⟩)], rfl, by simp [e_is_word_1, inAV, inB, chB]⟩
        have r2 : (x.cps.toList.map fun c => AV.bl (chB c)) = (x.cps.toList.map chB).map .bl := by
          rw [List.map_map]
          rfl
        rw [r2] at r
        have a1 : (g ++ [AO.lst ((x.cps.toList.map chB).map .bl)])[g.length]? = some (.lst ((x.cps.toList.map chB).map .bl)) := at_last
        have al := all_bls a1
        have ha : ((x.cps.toList.map chB).all id) = false := by
          rw [List.all_map]
          exact hx
        rw [ha] at al
        have f1 : Fr [] g (g ++ [AO.lst ((x.cps.toList.map chB).map .bl)]) := Fr.app
        generalize g ++ [AO.lst ((x.cps.toList.map chB).map .bl)] = g1 at r al f1
        have h1 : (1 : Int) ≤ (x.cps.size : Int) := by omega
        have h2 : (x.cps.size : Int) ≤ 6 := by omega
        exact ⟨g1, by simp [f_is_word, dFun, dStart, p_is_word, isi_str, ln, h1, h2, r, al], f1⟩
      · have h1 : (1 : Int) ≤ (x.cps.size : Int) := by omega
        have h2 : ¬ (x.cps.size : Int) ≤ 6 := by omega
        exact ⟨g, by simp [f_is_word, dFun, dStart, p_is_word, isi_str, ln, h1, h2], Fr.refl⟩
    · have h1 : ¬ (1 : Int) ≤ (x.cps.size : Int) := by omega
      exact ⟨g, by simp [f_is_word, dFun, dStart, p_is_word, isi_str, ln, h1], Fr.refl⟩
  obtain ⟨g', e, f⟩ := wd
  exact ⟨g', by simp [f_is_item, dFun, dStart, p_is_item, e, f_is_short, p_is_short, f_is_integer, p_is_integer, hi], f⟩
theorem odd_lst {h : Hep} {n : Nat} {xs : List AV} (e : h[n]? = some (.lst xs)) : Odd h (.ref n) :=
  odd_k rfl (fun g f => by simp [isiL, isiB, twOf, f.at e (by simp), twO]; rfl) (fun g f => by simp [isiL, isiB, twOf, f.at e (by simp), twO]; rfl)
/-! loops that raise; refusals of foretold -/
theorem loop_exc2 {src : Src} {xs : List AV} {g : DG} {body : DS} (I : Nat → Sl → Hep → Prop) (T : Nat → List (Nat × AV) → Hep → Prop) (m : Nat) (hs : ∀ i s h, I i s h → src.next i h = some xs[i]?) (hm : m < xs.length)
    (step : ∀ i s h x, i < m → xs[i]? = some x → I i s h → ∃ s1, g x s = some s1 ∧ ∃ s2 h2, body s1 h = .nx s2 h2 ∧ I (i + 1) s2 h2)
    (last : ∀ s h x, xs[m]? = some x → I m s h → ∃ s1, g x s = some s1 ∧ ∃ t fs s2 h2, body s1 h = .exc t fs s2 h2 ∧ T t fs h2) :
    ∀ (k i : Nat) (s : Sl) (h : Hep), k + i = m → I i s h → ∀ e, ∃ t fs s' h', dLoop src g body (k + 1 + e) i s h = .exc t fs s' h' ∧ T t fs h'
  | 0, i, s, h, e, hI, e' => by
    have : i = m := by omega
    subst this
    have hn := hs i s h hI
    obtain ⟨s1, e1, t, fs, s2, h2, e2, z⟩ := last s h xs[i] (List.getElem?_eq_getElem hm) hI
    rw [List.getElem?_eq_getElem hm] at hn
    refine ⟨t, fs, s2, h2, ?_, z⟩
    rw [show 0 + 1 + e' = e' + 1 by omega]
    unfold dLoop
    simp only [hn, e1, e2]
    rfl
  | k + 1, i, s, h, e, hI, e' => by
    have hi : i < xs.length := by omega
    have hn := hs i s h hI
    obtain ⟨s1, e1, s2, h2, e2, hI2⟩ := step i s h xs[i] (by omega) (List.getElem?_eq_getElem hi) hI
    rw [List.getElem?_eq_getElem hi] at hn
    obtain ⟨t, fs, s', h', r, z⟩ := loop_exc2 I T m hs hm step last k (i + 1) s2 h2 (by omega) hI2 e'
    refine ⟨t, fs, s', h', ?_, z⟩
    rw [show k + 1 + 1 + e' = (k + 1 + e') + 1 by omega]
    rw [dLoop]
    simp only [hn, e1, e2]
    exact r
theorem for_exc {f : DI} {src : Src} {xs : List AV} {g : DG} {body : DS} {s : Sl} {h h1 : Hep} (I : Nat → Sl → Hep → Prop) (T : Nat → List (Nat × AV) → Hep → Prop) (m : Nat) (ef : f s h = .ok src h1) (hlen : src.len h1 = xs.length) (hs : ∀ i s h, I i s h → src.next i h = some xs[i]?) (hm : m < xs.length) (h0 : I 0 s h1)
    (step : ∀ i s h x, i < m → xs[i]? = some x → I i s h → ∃ s1, g x s = some s1 ∧ ∃ s2 h2, body s1 h = .nx s2 h2 ∧ I (i + 1) s2 h2)
    (last : ∀ s h x, xs[m]? = some x → I m s h → ∃ s1, g x s = some s1 ∧ ∃ t fs s2 h2, body s1 h = .exc t fs s2 h2 ∧ T t fs h2) :
    ∃ t fs s' h', dFor f g body s h = .exc t fs s' h' ∧ T t fs h' := by
  obtain ⟨t, fs, s', h', r, z⟩ := loop_exc2 I T m hs hm step last m 0 s h1 rfl h0 (xs.length - m)
  refine ⟨t, fs, s', h', ?_, z⟩
  unfold dFor
  rw [ef, R.st_ok, hlen, show xs.length + 1 = m + 1 + (xs.length - m) by omega]
  exact r
section
variable {h : Hep} {n : Nat}
end
/-! what the helper tells; lists of tests that are all false -/
def due3 (w : String) (x : Str) : List AV := [.str (Str.ofString w), .bl true, .str x]
theorem due_dr (h : Hep) (w : String) (x : Str) : DrA h (due3 w x) [.str (Str.ofString w), .bool true, .str x] := .cons (.str _) (.cons (.bl _) (.cons (.str _) .nil))
theorem due_ok (w : String) {x : Str} (o : PyData.strOk x = true) : DOk (.list [.str (Str.ofString w), .bool true, .str x]) := ⟨by
    rw [PyData.canLay0, PyData.canLayAll0, PyData.canLayAll0, PyData.canLayAll0, PyData.canLayAll0, PyData.canLay0, PyData.canLay0, PyData.canLay0, ok_ofS, o]
    rfl, by
    rw [depth_list, depthAll_cons, depthAll_cons, depthAll_cons, PyData.depthAll, PyData.depth, PyData.depth, PyData.depth]
    decide⟩
theorem ne_due {h : Hep} {n m : Nat} {w : String} {x : Str} (a1 : h[n]? = some (.lst (due3 w x))) (a2 : h[m]? = some (.lst (due3 w x))) (o : PyData.strOk x = true) : neAV (.ref n) (.ref m) h = some (.bl false, h) := by
  rw [neAV_dr (.ref a1 (due_dr h w x)) (.ref a2 (due_dr h w x)) (due_ok w o) (due_ok w o)]
  simp [PyData.eqv, PyData.eqvAll]
theorem eq_nil2 {h : Hep} {n m : Nat} (a1 : h[n]? = some (.lst [])) (a2 : h[m]? = some (.lst [])) : eqAV (.ref n) (.ref m) h = some (.bl true, h) := by
  have o : DOk (.list []) := ⟨by rw [PyData.canLay0, PyData.canLayAll0], by rw [depth_list, PyData.depthAll]; decide⟩
  rw [eqAV_dr (.ref a1 .nil) (.ref a2 .nil) o o]
  simp [PyData.eqv, PyData.eqvAll]
theorem fc_none {s : Sl} {D : Nat} : ∀ (ts : List DT) (h : Hep), h[D]? = some (.lst []) → (∀ t ∈ ts, ∀ g, Fr [] h g → ∃ g', t s g = .ok false g' ∧ Fr [] g g') →
    ∃ h', dFcL D s (ts.map fun t => (t, (fun _ _ => .stuck : DE))) h = .ok (.ref D) h' ∧ Fr [] h h' ∧ h'[D]? = some (.lst [])
  | [], h, a, _ => ⟨h, rfl, Fr.refl, a⟩
  | t :: ts, h, a, hs => by
    obtain ⟨g, e1, f1⟩ := hs t List.mem_cons_self h Fr.refl
    obtain ⟨h', e2, f2, a2⟩ := fc_none ts g (f1.at a (by simp)) fun t ht g' f' => hs t (List.mem_cons_of_mem _ ht) g' (f1.trans f')
    refine ⟨h', ?_, f1.trans f2, a2⟩
    show ((t s h).noX.bind fun b h1 => match b with
      | false => dFcL D s (ts.map fun t => (t, (fun _ _ => .stuck : DE))) h1
      | true => (R.stuck : R AV).noX.bind fun y h2 => match addAt D y h2 with
        | none => .stuck
        | some h3 => dFcL D s (ts.map fun t => (t, (fun _ _ => .stuck : DE))) h3) = _
    rw [e1]
    exact e2
/-- a test of a lambda -/
theorem ts_false {d : DE} {s : Sl} {h g : Hep} {i n m : Nat} {w : String} {x : Str} (e : dLamC f__law_error d s h = .ok (.ref n) g) (a1 : g[n]? = some (.lst (due3 w x))) (a2 : g[m]? = some (.lst (due3 w x))) (o : PyData.strOk x = true) (hs : s[i]? = some (some (.ref m))) :
    dTst (dOp neAV (dLamC f__law_error d) (dVar i)) s h = .ok false g := by
  have ne := ne_due a1 a2 o
  simp -implicitDefEqProofs [e, hs, ne]
section
variable {d : DE} {s : Sl} {h g : Hep} {v : AV} {x : Str}
theorem new3 (w : String) (x : Str) (g : Hep) : ∃ n g', mkL [.str (Str.ofString w), .bl true, .str x] g = some (.ref n, g') ∧ Fr [] g g' ∧ g'[n]? = some (.lst (due3 w x)) := by
  obtain ⟨n, g', e, f, _, a⟩ := mk_new (due3 w x) g (by simp [due3])
  exact ⟨n, g', e, f, a⟩
theorem err_item (r : Rp h v x) (f : Fr [] h g) (e : d s h = .exc 1 [(4, v)] g) : ∃ n g', dLamC f__law_error d s h = .ok (.ref n) g' ∧ Fr [] g g' ∧ g'[n]? = some (.lst (due3 "BadItem" x)) := by
  obtain ⟨n, g', e1, f1, a1⟩ := new3 "BadItem" x g
  refine ⟨n, g', ?_, f1, a1⟩
  show f__law_error (fun g => d s g) h = _
  have nx := r.nx
  have re := r.re g f
  simp [f__law_error, dHlp, p__law_error, b__law_error_1, b__law_error_2, b__law_error_3, b__law_error_4, b__law_error_5, b__law_error_6, b__law_error_7, dAct, e, xt0, tyLook, nx, re, fget, dIsO, isOK, e1]
theorem err_bound (r : Rp h v x) (f : Fr [] h g) (e : d s h = .exc 2 [(4, v)] g) : ∃ n g', dLamC f__law_error d s h = .ok (.ref n) g' ∧ Fr [] g g' ∧ g'[n]? = some (.lst (due3 "BadBound" x)) := by
  obtain ⟨n, g', e1, f1, a1⟩ := new3 "BadBound" x g
  refine ⟨n, g', ?_, f1, a1⟩
  show f__law_error (fun g => d s g) h = _
  have nx := r.nx
  have re := r.re g f
  simp [f__law_error, dHlp, p__law_error, b__law_error_1, b__law_error_2, b__law_error_3, b__law_error_4, b__law_error_5, b__law_error_6, b__law_error_7, dAct, e, xt0, tyLook, nx, re, fget, dIsO, isOK, e1]
theorem err_index (r : Rp h v x) (f : Fr [] h g) (e : d s h = .exc 3 [(4, v)] g) : ∃ n g', dLamC f__law_error d s h = .ok (.ref n) g' ∧ Fr [] g g' ∧ g'[n]? = some (.lst (due3 "BadIndex" x)) := by
  obtain ⟨n, g', e1, f1, a1⟩ := new3 "BadIndex" x g
  refine ⟨n, g', ?_, f1, a1⟩
  show f__law_error (fun g => d s g) h = _
  have nx := r.nx
  have re := r.re g f
  simp [f__law_error, dHlp, p__law_error, b__law_error_1, b__law_error_2, b__law_error_3, b__law_error_4, b__law_error_5, b__law_error_6, b__law_error_7, dAct, e, xt0, tyLook, nx, re, fget, dIsO, isOK, e1]
theorem err_slice (e : d s h = .exc 3 [(4, .slc)] g) : ∃ n g', dLamC f__law_error d s h = .ok (.ref n) g' ∧ Fr [] g g' ∧ g'[n]? = some (.lst (due3 "BadIndex" "slice(0, 2, None)")) := by
  obtain ⟨n, g', e1, f1, a1⟩ := new3 "BadIndex" "slice(0, 2, None)" g
  refine ⟨n, g', ?_, f1, a1⟩
  show f__law_error (fun g => d s g) h = _
  have r1 : reprL [.slc] g = none := rfl
  have r2 : reprSl [.slc] g = some (.str "slice(0, 2, None)", g) := rfl
  simp [f__law_error, dHlp, p__law_error, b__law_error_1, b__law_error_2, b__law_error_3, b__law_error_4, b__law_error_5, b__law_error_6, b__law_error_7, dAct, e, xt0, tyLook, r1, r2, fget, dIsO, isOK, e1]
theorem err_found (r : Rp h v x) (f : Fr [] h g) (e : d s h = .exc 4 [(4, v)] g) : ∃ n g', dLamC f__law_error d s h = .ok (.ref n) g' ∧ Fr [] g g' ∧ g'[n]? = some (.lst (due3 "NotFound" x)) := by
  obtain ⟨n, g', e1, f1, a1⟩ := new3 "NotFound" x g
  refine ⟨n, g', ?_, f1, a1⟩
  show f__law_error (fun g => d s g) h = _
  have nx := r.nx
  have re := r.re g f
  simp [f__law_error, dHlp, p__law_error, b__law_error_1, b__law_error_2, b__law_error_3, b__law_error_4, b__law_error_5, b__law_error_6, b__law_error_7, dAct, e, xt0, tyLook, nx, re, fget, dIsO, isOK, e1]
theorem err_empty (e : d s h = .exc 5 [] g) : ∃ n g', dLamC f__law_error d s h = .ok (.ref n) g' ∧ Fr [] g g' ∧ g'[n]? = some (.lst (due3 "Empty" "")) := by
  obtain ⟨n, g', e1, f1, a1⟩ := new3 "Empty" "" g
  refine ⟨n, g', ?_, f1, a1⟩
  show f__law_error (fun g => d s g) h = _
  simp [f__law_error, dHlp, p__law_error, b__law_error_1, b__law_error_2, b__law_error_3, b__law_error_4, b__law_error_5, b__law_error_6, b__law_error_7, dAct, e, xt0, tyLook, dIsO, isOK, e1]
theorem err_full (e : d s h = .exc 6 [] g) : ∃ n g', dLamC f__law_error d s h = .ok (.ref n) g' ∧ Fr [] g g' ∧ g'[n]? = some (.lst (due3 "Full" "")) := by
  obtain ⟨n, g', e1, f1, a1⟩ := new3 "Full" "" g
  refine ⟨n, g', ?_, f1, a1⟩
  show f__law_error (fun g => d s g) h = _
  simp [f__law_error, dHlp, p__law_error, b__law_error_1, b__law_error_2, b__law_error_3, b__law_error_4, b__law_error_5, b__law_error_6, b__law_error_7, dAct, e, xt0, tyLook, dIsO, isOK, e1]
end
section
variable {h g : Hep} {v : AV}
theorem need_odd (O : Odd h v) (f : Fr [] h g) : ∃ g', f_need_item [v] g = .exc 1 [(4, v)] g' ∧ Fr [] g g' := by
  obtain ⟨g', e, f'⟩ := O.2 g f
  have nx := O.1
  exact ⟨g', by simp -implicitDefEqProofs [f_need_item, dFun, dStart, p_need_item, nx, e], f'⟩
theorem checked_odd {a : AV} {pre : List Iv} {post : List AV} (O : Odd h v) (o : okL pre) (f : Fr [] h g) (an : a.nx = true) (i1 : isiL ct0 [a, .cls 0] g = some (.bl false, g)) (l1 : listL [a] g = some (.ref g.length, g ++ [AO.lst (pre.map Iv.av ++ v :: post)])) (hl : (pre.map Iv.av ++ v :: post).length ≤ 100) :
    ∃ g', f_checked [a] g = .exc 1 [(4, v)] g' ∧ Fr [] g g' := by
  have a1 : (g ++ [AO.lst (pre.map Iv.av ++ v :: post)])[g.length]? = some (.lst (pre.map Iv.av ++ v :: post)) := at_last
  have f1 : Fr [] g (g ++ [AO.lst (pre.map Iv.av ++ v :: post)]) := Fr.app
  generalize eg : g ++ [AO.lst (pre.map Iv.av ++ v :: post)] = g0 at a1 f1 l1
  obtain ⟨t, fs, s', h', e, rfl, rfl, f2⟩ := for_exc (f := dSrc (dVar 1)) (g := dgN 2) (body := b_checked_1) (s := [some a, some (.ref g.length), none]) (h := g0) (h1 := g0) (xs := pre.map Iv.av ++ v :: post)
    (fun i s g' => Fr [] g0 g' ∧ ∃ c, s = [some a, some (.ref g.length), c]) (fun t fs g' => t = 1 ∧ fs = [(4, v)] ∧ Fr [] g0 g') pre.length
    (src_ref (n := g.length) (by simp) a1) (len_at a1) (fun i s g' ⟨fr, _⟩ => next_at (fr.at a1 (by simp))) (by simp) ⟨Fr.refl, _, rfl⟩
    (fun i s g' x hi hx ⟨fr, c, es⟩ => by
      rw [List.getElem?_append_left (by simpa using hi), List.getElem?_map] at hx
      cases z : pre[i]? with
      | none =>
        rw [z] at hx
        cases hx
      | some w =>
        rw [z] at hx
        cases hx
        obtain ⟨g2, e2, f2⟩ := need_ok w (o w (List.mem_of_getElem? z)) g'
        subst es
        have eb : b_checked_1 [some a, some (.ref g.length), some w.av] g' = .nx [some a, some (.ref g.length), some w.av] g2 := by simp [b_checked_1, e2]
        exact ⟨_, rfl, _, g2, eb, fr.trans f2, _, rfl⟩)
    (fun s g' x hx ⟨fr, c, es⟩ => by
      rw [List.getElem?_append_right (by simp)] at hx
      simp at hx
      subst hx
      obtain ⟨g2, e2, f2⟩ := need_odd O (f.trans (f1.trans fr))
      have nx := O.1
      subst es
      have eb : b_checked_1 [some a, some (.ref g.length), some v] g' = .exc 1 [(4, v)] [some a, some (.ref g.length), some v] g2 := by simp [b_checked_1, nx, e2]
      exact ⟨_, rfl, _, _, _, g2, eb, rfl, rfl, fr.trans f2⟩)
  exact ⟨h', by simp -implicitDefEqProofs [f_checked, dFun, dStart, p_checked, an, i1, l1, e], f1.trans f2⟩
theorem append_odd (O : Odd h v) (f : Fr [] h g) (d : Nat) : ∃ g', f_Deque_append [.ref d, v] g = .exc 1 [(4, v)] g' ∧ Fr [] g g' := by
  obtain ⟨g', e, f'⟩ := need_odd O f
  have nx := O.1
  exact ⟨g', by simp -implicitDefEqProofs [f_Deque_append, dFun, dStart, p_Deque_append, nx, e], f'⟩
theorem append_left_odd (O : Odd h v) (f : Fr [] h g) (d : Nat) : ∃ g', f_Deque_append_left [.ref d, v] g = .exc 1 [(4, v)] g' ∧ Fr [] g g' := by
  obtain ⟨g', e, f'⟩ := need_odd O f
  have nx := O.1
  exact ⟨g', by simp -implicitDefEqProofs [f_Deque_append_left, dFun, dStart, p_Deque_append_left, nx, e], f'⟩
theorem insert_odd (O : Odd h v) (f : Fr [] h g) (d : Nat) : ∃ g', f_Deque_insert [.ref d, .int 0, v] g = .exc 1 [(4, v)] g' ∧ Fr [] g g' := by
  obtain ⟨g', e, f'⟩ := need_odd O f
  have nx := O.1
  exact ⟨g', by simp -implicitDefEqProofs [f_Deque_insert, dFun, dStart, p_Deque_insert, isint_int, nx, e], f'⟩
theorem list_m {m : Nat} {xs : List AV} (e : g[m]? = some (.lst xs)) : listL [.ref m] g = some (.ref g.length, g ++ [AO.lst xs]) := by
  simp [listL, seq_ref e]
theorem extend_odd (O : Odd h v) (f : Fr [] h g) (d m : Nat) (a : g[m]? = some (.lst [.int 1, v, .bl true])) : ∃ g', f_Deque_extend [.ref d, .ref m] g = .exc 1 [(4, v)] g' ∧ Fr [] g g' := by
  obtain ⟨n, g1, e1, f1, _, _⟩ := mk_new [] g (by simp)
  have a1 := f1.at a (by simp)
  obtain ⟨g2, e2, f2⟩ := checked_odd (pre := [.i 1]) (post := [.bl true]) O (by intro x hx; simp at hx; subst hx; decide +kernel) (f.trans f1) rfl (isi_lst a1 rfl) (list_m a1) (by simp)
  exact ⟨g2, by simp -implicitDefEqProofs [f_Deque_extend, dFun, dStart, p_Deque_extend, e1, e2, dFor, dSrc], f1.trans f2⟩
theorem extend_left_odd (O : Odd h v) (f : Fr [] h g) (d : Nat) : ∃ g', f_Deque_extend_left [.ref d, .tup [v, .non]] g = .exc 1 [(4, v)] g' ∧ Fr [] g g' := by
  obtain ⟨n, g1, e1, f1, _, _⟩ := mk_new [] g (by simp)
  obtain ⟨g2, e2, f2⟩ := checked_odd (a := .tup [v, .non]) (pre := []) (post := [.non]) O (by intro x hx; cases hx) (f.trans f1) rfl rfl rfl (by simp)
  exact ⟨g2, by simp -implicitDefEqProofs [f_Deque_extend_left, dFun, dStart, p_Deque_extend_left, e1, e2, dFor, dSrc], f1.trans f2⟩
theorem init_odd (O : Odd h v) (f : Fr [] h g) (d m : Nat) (a : g[m]? = some (.lst [.int 1, .str "a", v, .non])) : ∃ g', f_Deque_xinit [.ref d, .ref m, .non] g = .exc 1 [(4, v)] g' ∧ Fr [] g g' := by
  obtain ⟨g2, e2, f2⟩ := checked_odd (pre := [.i 1, .s "a"]) (post := [.non]) O (by intro x hx; simp at hx; rcases hx with rfl | rfl <;> decide +kernel) f rfl (isi_lst a rfl) (list_m a) (by simp)
  have b := bound_ok (b := none) (fun k z => by cases z) g
  have b : f_is_bound [.non] g = .ok (.bl true) g := b
  exact ⟨g2, by simp -implicitDefEqProofs [f_Deque_xinit, dFun, dStart, p_Deque_xinit, b, e2], f2⟩
end
/-! wrong items -/
section
variable {h : Hep} {v : AV} {x : Str} {d r : Nat} {l : List Iv} {b : Option Nat} {mv vs : Int}
def itT : List DT := [dTst (dOp neAV (dLamC f__law_error e__law_items_refused_1) (dVar 2)), dTst (dOp neAV (dLamC f__law_error e__law_items_refused_2) (dVar 2)), dTst (dOp neAV (dLamC f__law_error e__law_items_refused_3) (dVar 2)), dTst (dOp neAV (dLamC f__law_error e__law_items_refused_4) (dVar 2)), dTst (dOp neAV (dLamC f__law_error e__law_items_refused_5) (dVar 2)), dTst (dOp neAV (dLamC f__law_error e__law_items_refused_6) (dVar 2))]
theorem items_refused (O : Odd h v) (R : Rp h v x) (D : Dq h d r l b mv vs) : ∃ h', f__law_items_refused [.ref d, v] h = .ok (.bl true) h' ∧ Fr [] h h' := by
  have vn := O.1
  have rr := R.re h Fr.refl
  obtain ⟨n, g1, e1, f1, a1⟩ := new3 "BadItem" x h
  have f2 : Fr [] g1 (g1 ++ [AO.lst []]) := Fr.app
  have a2 : (g1 ++ [AO.lst []])[g1.length]? = some (.lst []) := at_last
  have fx : ∀ {g}, Fr [] (g1 ++ [AO.lst []]) g → Fr [] h g := fun fg => (f1.trans f2).trans fg
  have one : ∀ {d0 : DE} {g g' : Hep}, Fr [] (g1 ++ [AO.lst []]) g → d0 [some (.ref d), some v, some (.ref n), none, none] g = .exc 1 [(4, v)] g' → Fr [] g g' →
      ∃ g'', dTst (dOp neAV (dLamC f__law_error d0) (dVar 2)) [some (.ref d), some v, some (.ref n), none, none] g = .ok false g'' ∧ Fr [] g g'' := fun {d0 g g'} fg e fe => by
    obtain ⟨m, g2, e2, f3, a3⟩ := err_item (R.fr (fx fg)) fe e
    exact ⟨g2, ts_false e2 a3 ((((f2.trans fg).trans fe).trans f3).at a1 (by simp)) R.ok rfl, fe.trans f3⟩
  obtain ⟨h3, e3, f3, a3⟩ := fc_none (s := [some (.ref d), some v, some (.ref n), none, none]) itT (g1 ++ [AO.lst []]) a2 (fun t ht g fg => by
    have ob := ((f1.trans f2).trans fg).at D.ob (by simp)
    simp only [itT, List.mem_cons, List.not_mem_nil, or_false] at ht
    rcases ht with rfl | rfl | rfl | rfl | rfl | rfl
    · obtain ⟨g', e, f⟩ := append_odd O (fx fg) d
      exact one fg (by simp -implicitDefEqProofs [e__law_items_refused_1, methK_of ob, vn, e]) f
    · obtain ⟨g', e, f⟩ := append_left_odd O (fx fg) d
      exact one fg (by simp -implicitDefEqProofs [e__law_items_refused_2, methK_of ob, vn, e]) f
    · obtain ⟨m, g0, e0, f0, _, a0⟩ := mk_new [.int 1, v, .bl true] g (by simp)
      obtain ⟨g', e, f⟩ := extend_odd O ((fx fg).trans f0) d m a0
      exact one fg (by simp -implicitDefEqProofs [e__law_items_refused_3, methK_of ob, vn, e0, e]) (f0.trans f)
    · obtain ⟨g', e, f⟩ := extend_left_odd O (fx fg) d
      exact one fg (by simp -implicitDefEqProofs [e__law_items_refused_4, methK_of ob, vn, mkT, SZ, e]) f
    · obtain ⟨g', e, f⟩ := insert_odd O (fx fg) d
      exact one fg (by simp -implicitDefEqProofs [e__law_items_refused_5, methK_of ob, vn, e]) f
    · obtain ⟨m, g0, e0, f0, _, a0⟩ := mk_new [.int 1, .str "a", v, .non] g (by simp)
      have e0' : mkL [.int 1, .str (Str.ofString "a"), v, .non] g = some (.ref m, g0) := e0
      have fi : Fr [] g0 (g0 ++ [AO.ins 0 []]) := Fr.app
      obtain ⟨g', e, f⟩ := init_odd O (((fx fg).trans f0).trans fi) g0.length m (fi.at a0 (by simp))
      exact one fg (by simp -implicitDefEqProofs [e__law_items_refused_6, vn, e0, e0', e]) ((f0.trans fi).trans f))
  have e3 : dFc 4 [(dTst (dOp neAV (dLamC f__law_error e__law_items_refused_1) (dVar 2)), fun _ _ => .stuck), (dTst (dOp neAV (dLamC f__law_error e__law_items_refused_2) (dVar 2)), fun _ _ => .stuck), (dTst (dOp neAV (dLamC f__law_error e__law_items_refused_3) (dVar 2)), fun _ _ => .stuck), (dTst (dOp neAV (dLamC f__law_error e__law_items_refused_4) (dVar 2)), fun _ _ => .stuck), (dTst (dOp neAV (dLamC f__law_error e__law_items_refused_5) (dVar 2)), fun _ _ => .stuck), (dTst (dOp neAV (dLamC f__law_error e__law_items_refused_6) (dVar 2)), fun _ _ => .stuck)] [some (.ref d), some v, some (.ref n), none, none] g1 = .ok (.ref g1.length) h3 := e3
  obtain ⟨m, h4, e4, f4, _, a4⟩ := mk_new [] h3 (by simp)
  have eq := eq_nil2 (f4.at a3 (by simp)) a4
  refine ⟨h4, ?_, ((f1.trans f2).trans f3).trans f4⟩
  simp -implicitDefEqProofs [f__law_items_refused, dFun, dStart, p__law_items_refused, vn, rr, e1, dLams, e3, e4, eq]
theorem contains_odd (O : Odd h v) (f : Nat) : ∃ h', f_Deque_xcontains [.ref f, v] h = .ok (.bl false) h' ∧ Fr [] h h' := by
  have vn := O.1
  obtain ⟨h1, e1, f1⟩ := O.2 h Fr.refl
  exact ⟨h1, by simp -implicitDefEqProofs [f_Deque_xcontains, dFun, dStart, p_Deque_xcontains, vn, e1], f1⟩
theorem count_odd (O : Odd h v) (f : Nat) : ∃ h', f_Deque_count [.ref f, v] h = .ok (.int 0) h' ∧ Fr [] h h' := by
  have vn := O.1
  obtain ⟨h1, e1, f1⟩ := O.2 h Fr.refl
  exact ⟨h1, by simp -implicitDefEqProofs [f_Deque_count, dFun, dStart, p_Deque_count, vn, e1], f1⟩
theorem index_odd (O : Odd h v) (D : Dq h d r l b mv vs) : ∃ h', f_Deque_index [.ref d, v, .int 0, .non] h = .exc 4 [(4, v)] h' ∧ Fr [] h h' := by
  have vn := O.1
  obtain ⟨h1, e1, f1⟩ := contains_odd O d
  have ll : lenL [.ref r] h = some (.int (l.length : Nat), h) := by
    have q : l.length ≤ 1000000 := by have := D.ln; omega
    simp [lenL, lenA, D.rw_, q]
  have pl : f_place_in [.int 0, .int (l.length : Nat)] h = .ok (.int 0) h := by
    have q : min (0 : Int) (l.length : Int) = 0 := by omega
    simp -implicitDefEqProofs [f_place_in, dFun, dStart, p_place_in, intL, minL, q]
  refine ⟨h1, ?_, f1⟩
  simp -implicitDefEqProofs [f_Deque_index, dFun, dStart, p_Deque_index, vn, ins_of D.ob, ll, pl, isNonAV, isNonB, inOK, fget, isT_of D.ob, e1]
theorem remove_odd (O : Odd h v) (D : Dq h d r l b mv vs) : ∃ h', f_Deque_remove [.ref d, v] h = .exc 4 [(4, v)] h' ∧ Fr [] h h' := by
  have vn := O.1
  obtain ⟨h1, e1, f1⟩ := index_odd O D
  exact ⟨h1, by simp -implicitDefEqProofs [f_Deque_remove, dFun, dStart, p_Deque_remove, vn, methK_of D.ob, e1], f1⟩
end
/-! wrong indexes -/
def NoInt (h : Hep) (v : AV) : Prop := ∀ g, Fr [] h g → f_is_integer [v] g = .ok (.bl false) g
def BadIx (h : Hep) (n : Nat) (v : AV) : Prop := v.nx = true ∧ (NoInt h v ∨ ∃ i : Int, v = .int i ∧ ¬ (0 - (n : Int) ≤ i ∧ i < n))
theorem BadIx.fr {h h' : Hep} {n : Nat} {v : AV} (B : BadIx h n v) (f : Fr [] h h') : BadIx h' n v := ⟨B.1, B.2.imp (fun k g fg => k g (f.trans fg)) id⟩
theorem isint_slc (g : Hep) : f_is_integer [.slc] g = .ok (.bl false) g := by
  have i1 : isiL ct0 [.slc, .ty "int"] g = none := rfl
  have i2 : isiSl [.slc, .ty "int"] g = some (.bl false, g) := rfl
  simp [f_is_integer, dFun, dStart, p_is_integer, i1, i2]
theorem noint_of {h : Hep} {v : AV} (nx : v.nx = true) (k : (∀ g, Fr [] h g → isiL ct0 [v, .ty "int"] g = some (.bl false, g)) ∨ ∃ b, v = .bl b) : NoInt h v := fun g f => by
  rcases k with k | ⟨b, rfl⟩
  · have i1 := k g f
    simp [f_is_integer, dFun, dStart, p_is_integer, nx, i1]
  · have i1 : isiL ct0 [.bl b, .ty "int"] g = some (.bl true, g) := rfl
    have i2 : isiL ct0 [.bl b, .ty "bool"] g = some (.bl true, g) := rfl
    simp [f_is_integer, dFun, dStart, p_is_integer, i1, i2]
section
variable {h : Hep} {v : AV} {x : Str} {d r : Nat} {l : List Iv} {b : Option Nat} {mv vs : Int}
theorem Dq.ll {h : Hep} (D : Dq h d r l b mv vs) : lenL [.ref r] h = some (.int (l.length : Nat), h) := by
  have q : l.length ≤ 1000000 := by have := D.ln; omega
  simp [lenL, lenA, D.rw_, q]
theorem place_bad (B : BadIx h l.length v) (D : Dq h d r l b mv vs) : f_Deque_place_of [.ref d, v] h = .exc 3 [(4, v)] h := by
  have vn := B.1
  have ll := D.ll
  rcases B.2 with k | ⟨i, rfl, hi⟩
  · have k := k h Fr.refl
    simp -implicitDefEqProofs [f_Deque_place_of, dFun, dStart, p_Deque_place_of, vn, ins_of D.ob, ll, fget, k]
  · by_cases c : 0 - (l.length : Int) ≤ i
    · have c2 : ¬ i < (l.length : Int) := fun z => hi ⟨c, z⟩
      have c' : -(l.length : Int) ≤ i := by omega
      simp -implicitDefEqProofs [f_Deque_place_of, dFun, dStart, p_Deque_place_of, ins_of D.ob, ll, fget, isint_int, c, c', c2]
    · have c' : ¬ -(l.length : Int) ≤ i := by omega
      simp -implicitDefEqProofs [f_Deque_place_of, dFun, dStart, p_Deque_place_of, ins_of D.ob, ll, fget, isint_int, c, c']
theorem put_bad (B : BadIx h l.length v) (D : Dq h d r l b mv vs) : f_Deque_put [.ref d, v, .non] h = .exc 3 [(4, v)] h := by
  have vn := B.1
  have e := place_bad B D
  simp -implicitDefEqProofs [f_Deque_put, dFun, dStart, p_Deque_put, vn, methK_of D.ob, e]
theorem delete_bad (B : BadIx h l.length v) (D : Dq h d r l b mv vs) : f_Deque_delete [.ref d, v] h = .exc 3 [(4, v)] h := by
  have vn := B.1
  have e := place_bad B D
  simp -implicitDefEqProofs [f_Deque_delete, dFun, dStart, p_Deque_delete, vn, methK_of D.ob, e]
theorem getitem_bad (B : BadIx h l.length v) (D : Dq h d r l b mv vs) : f_Deque_xgetitem [.ref d, v] h = .exc 3 [(4, v)] h := by
  have vn := B.1
  have e := place_bad B D
  simp -implicitDefEqProofs [f_Deque_xgetitem, dFun, dStart, p_Deque_xgetitem, vn, methK_of D.ob, ins_of D.ob, fget, e]
theorem rotate_bad (nx : v.nx = true) (k : NoInt h v) (d : Nat) : f_Deque_rotate [.ref d, v] h = .exc 3 [(4, v)] h := by
  have k := k h Fr.refl
  simp -implicitDefEqProofs [f_Deque_rotate, dFun, dStart, p_Deque_rotate, nx, k]
theorem insert_bad (nx : v.nx = true) (k : NoInt h v) (d : Nat) : f_Deque_insert [.ref d, v, .non] h = .exc 3 [(4, v)] h := by
  have k := k h Fr.refl
  simp -implicitDefEqProofs [f_Deque_insert, dFun, dStart, p_Deque_insert, nx, k]
def ixT : List DT := [dTst (dOp neAV (dLamC f__law_error e__law_indexes_refused_1) (dVar 2)), dTst (dOp neAV (dLamC f__law_error e__law_indexes_refused_2) (dVar 2)), dTst (dOp neAV (dLamC f__law_error e__law_indexes_refused_3) (dVar 2))]
theorem indexes_refused (B : BadIx h l.length v) (R : Rp h v x) (D : Dq h d r l b mv vs) : ∃ h', f__law_indexes_refused [.ref d, v] h = .ok (.bl true) h' ∧ Fr [] h h' := by
  have vn := B.1
  have rr := R.re h Fr.refl
  obtain ⟨n, g1, e1, f1, a1⟩ := new3 "BadIndex" x h
  have D1 := D.fr f1 (by simp) (by simp)
  have es : dOpX (ixOK 0 f_Deque_xgetitem) (dVar 0) (dC .slc) [some (.ref d), some v, some (.ref n), none, none] g1 = .exc 3 [(4, .slc)] g1 := by
    have e := getitem_bad (v := .slc) ⟨rfl, .inl fun g _ => isint_slc g⟩ D1
    simp -implicitDefEqProofs [ixOK, isT_of D1.ob, e]
  obtain ⟨m1, g2, e2, f2, a2⟩ := err_slice es
  obtain ⟨m2, g3, e3, f3, a3⟩ := new3 "BadIndex" "slice(0, 2, None)" g2
  have ne := ne_due (f3.at a2 (by simp)) a3 (ok_ofS "slice(0, 2, None)")
  have f13 := (f1.trans f2).trans f3
  have f4 : Fr [] g3 (g3 ++ [AO.lst []]) := Fr.app
  have a4 : (g3 ++ [AO.lst []])[g3.length]? = some (.lst []) := at_last
  have fx : ∀ {g}, Fr [] (g3 ++ [AO.lst []]) g → Fr [] h g := fun fg => (f13.trans f4).trans fg
  have one : ∀ {d0 : DE} {g : Hep}, Fr [] (g3 ++ [AO.lst []]) g → d0 [some (.ref d), some v, some (.ref n), none, none] g = .exc 3 [(4, v)] g →
      ∃ g'', dTst (dOp neAV (dLamC f__law_error d0) (dVar 2)) [some (.ref d), some v, some (.ref n), none, none] g = .ok false g'' ∧ Fr [] g g'' := fun {d0 g} fg e => by
    obtain ⟨m, g2', e2, f5, a5⟩ := err_index (R.fr (fx fg)) Fr.refl e
    exact ⟨g2', ts_false e2 a5 (((((f2.trans f3).trans f4).trans fg).trans f5).at a1 (by simp)) R.ok rfl, f5⟩
  obtain ⟨h3, e4, f5, a5⟩ := fc_none (s := [some (.ref d), some v, some (.ref n), none, none]) ixT (g3 ++ [AO.lst []]) a4 (fun t ht g fg => by
    have Dg := D.fr (fx fg) (by simp) (by simp)
    have Bg := B.fr (fx fg)
    simp only [ixT, List.mem_cons, List.not_mem_nil, or_false] at ht
    rcases ht with rfl | rfl | rfl
    · have e := put_bad Bg Dg
      exact one fg (by simp -implicitDefEqProofs [e__law_indexes_refused_1, methK_of Dg.ob, vn, e])
    · have e := delete_bad Bg Dg
      exact one fg (by simp -implicitDefEqProofs [e__law_indexes_refused_2, methK_of Dg.ob, vn, e])
    · have e := getitem_bad Bg Dg
      exact one fg (by simp -implicitDefEqProofs [e__law_indexes_refused_3, ixOK, isT_of Dg.ob, vn, e]))
  have e4 : dFc 4 [(dTst (dOp neAV (dLamC f__law_error e__law_indexes_refused_1) (dVar 2)), fun _ _ => .stuck), (dTst (dOp neAV (dLamC f__law_error e__law_indexes_refused_2) (dVar 2)), fun _ _ => .stuck), (dTst (dOp neAV (dLamC f__law_error e__law_indexes_refused_3) (dVar 2)), fun _ _ => .stuck)] [some (.ref d), some v, some (.ref n), none, none] g3 = .ok (.ref g3.length) h3 := e4
  obtain ⟨m, h4, e6, f6, _, a6⟩ := mk_new [] h3 (by simp)
  have eq := eq_nil2 (f6.at a5 (by simp)) a6
  refine ⟨h4, ?_, ((f13.trans f4).trans f5).trans f6⟩
  simp -implicitDefEqProofs [f__law_indexes_refused, dFun, dStart, p__law_indexes_refused, vn, rr, e1, dLams, -xOpX]
  simp -implicitDefEqProofs [vn, rr, e1, dLams, e2, e3, ne, e4, e6, eq, -xOpX]
end
/-! several, on both ends -/
/-! the mirror -/
/-! clearing, inserting, finding -/
theorem clr_in {h : Hep} {n : Nat} {xs : List AV} (e : h[n]? = some (.lst xs)) : mClear (.ref n) [] h = some (.non, h.set n (.lst [])) := by
  have hl : lstAt h (.ref n) = some (n, xs) := by simp [lstAt, e]
  unfold mClear
  rw [hl]
theorem clear_ok {h : Hep} {d r : Nat} {l : List Iv} {b : Option Nat} {mv vs : Int} (D : Dq h d r l b mv vs) : ∃ h' vs', f_Deque_clear [.ref d] h = .ok .non h' ∧ Fr [d, r] h h' ∧ Dq h' d r [] b (mv + (l.length : Nat)) vs' := by
  obtain ⟨n, g, e, f, hn, el⟩ := mk_new [] h (by simp)
  have D1 := D.fr f (by simp) (by simp)
  have z := neNil D1.ok D1.rw_ el
  have o := ins_of D.ob
  have o1 := ins_of D1.ob
  have l1 := len_ref D1.rw_
  simp only [List.length_map] at l1
  by_cases hl : l = []
  · subst hl
    refine ⟨g, vs, ?_, f.nil, by simpa using D1⟩
    simp -implicitDefEqProofs at z
    simp -implicitDefEqProofs [f_Deque_clear, dFun, dStart, p_Deque_clear, o, e, z]
  · obtain ⟨g2, e2, f2, D2⟩ := note_ok (k := (l.length : Int)) D1
    have o2 := ins_of D2.ob
    have q := clr_in D2.rw_
    have f3 : Fr [d, r] g2 (g2.set r (.lst [])) := Fr.set (by simp)
    have D3 := D2.upd (k := []) (fun w hw => by cases hw) (by simp)
    refine ⟨g2.set r (.lst []), vs + 1, ?_, (f.nil.trans (f2.mono fun i _ q => by simp at q ⊢; omega)).trans f3, D3⟩
    rw [decide_eq_false hl] at z
    simp -implicitDefEqProofs at z
    simp -implicitDefEqProofs [f_Deque_clear, dFun, dStart, p_Deque_clear, o, e, z, o1, l1, methK, e2, o2, tyA_lst D2.rw_, q]
/-! finding -/
/-! the model beside the deque -/
structure Mo (h : Hep) (t m : Nat) (l : List Iv) (b : Option Nat) (mv c : Int) : Prop where
  ob : h[t]? = some (.lst [.ref m, bav b, .int mv, .int c])
  rw_ : h[m]? = some (.lst (l.map Iv.av))
  ne : t ≠ m
/-! texts -/
/-- the bound's text -/
def btx : Option Nat → Str
  | none => "None"
  | some k => Str.ofString (toString (k : Int))
theorem ok_btx (b : Option Nat) : PyData.strOk (btx b) = true := by
  cases b <;> exact ok_ofS _
theorem neB_self (b : Option Nat) (h : Hep) : neAV (bav b) (bav b) h = some (.bl false, h) := by
  cases b with
  | none =>
    have hn : DOk .none := ⟨by rw [PyData.canLay0], by rw [PyData.depth]; decide⟩
    show neAV .non .non h = _
    rw [neAV_dr (d := .none) (e := .none) .non .non hn hn, PyData.eqv]
    rfl
  | some k =>
    show neAV (.int k) (.int k) h = _
    rw [neAV_dr (d := .int k) (e := .int k) (.int _) (.int _) dOk_int dOk_int, PyData.eqv]
    simp
theorem neI_self (i : Int) (h : Hep) : neAV (.int i) (.int i) h = some (.bl false, h) := by
  rw [neAV_dr (d := .int i) (e := .int i) (.int _) (.int _) dOk_int dOk_int, PyData.eqv]
  simp
theorem log_ok {n : Nat} (h : n < 1000000) : (n : Int).natAbs.log2 < 1920 := by
  have : n.log2 < 20 := by
    rcases Nat.eq_zero_or_pos n with z | z
    · subst z
      decide
    · exact (Nat.log2_lt (by omega)).mpr (by omega)
  show n.log2 < 1920
  omega
theorem strL_int {n : Nat} (h : n < 1000000) (g : Hep) : strL [.int (n : Nat)] g = some (.str (Str.ofString (toString (n : Int))), g) := if_pos (log_ok h)
theorem strL_b {b : Option Nat} (hb : ∀ k, b = some k → k ≤ 1000) (g : Hep) : strL [bav b] g = some (.str (btx b), g) := by
  cases b with
  | none => rfl
  | some k => exact strL_int (by have := hb k rfl; omega) g
theorem fmt_int {n : Nat} (h : n < 1000000) (g : Hep) : fmtAV (.int (n : Nat)) g = some (.str (Str.ofString (toString (n : Int))), g) := by
  unfold fmtAV txtOf
  dsimp only
  rw [if_pos (log_ok h)]
  rfl
theorem fmt_b {b : Option Nat} (hb : ∀ k, b = some k → k ≤ 1000) (g : Hep) : fmtAV (bav b) g = some (.str (btx b), g) := by
  cases b with
  | none => rfl
  | some k => exact fmt_int (by have := hb k rfl; omega) g
theorem lenT {n : Nat} (h : n < 1000000) : (Str.ofString (toString (n : Int))).length ≤ 100 := by
  have h1 := int_text_length_le (a := (n : Int)) (k := 20) (by omega) (by
    rcases Nat.eq_zero_or_pos n with z | z
    · subst z
      decide
    · exact (Nat.log2_lt (by omega)).mpr (by omega))
  rw [ofString_length]
  omega
theorem lenB {b : Option Nat} (hb : ∀ k, b = some k → k ≤ 1000) : (btx b).length ≤ 100 := by
  cases b with
  | none => decide +kernel
  | some k => exact lenT (by have := hb k rfl; omega)
def rtx (n : Nat) (b : Option Nat) : Str := ((("Deque(" ++ Str.ofString (toString (n : Int))) ++ ", bound=") ++ btx b) ++ ")"
theorem repr_ok {h : Hep} {d r : Nat} {l : List Iv} {b : Option Nat} {mv vs : Int} (D : Dq h d r l b mv vs) (hb : ∀ k, b = some k → k ≤ 1000) : f_Deque_xrepr [.ref d] h = .ok (.str (rtx l.length b)) h := by
  have o := ins_of D.ob
  have l0 := len_ref D.rw_
  simp only [List.length_map] at l0
  have hln := D.ln
  have f1 := fmt_int (n := l.length) (by omega) h
  have f2 := fmt_b hb h
  have n1 := lenT (n := l.length) (by omega)
  have n2 := lenB hb
  unfold rtx
  generalize Str.ofString (toString (l.length : Int)) = A at f1 n1
  generalize btx b = B at f2 n2
  have z : SZ = 1000000 := rfl
  have k1 : ("Deque(" : Str).length = 6 := by decide +kernel
  have k2 : (", bound=" : Str).length = 8 := by decide +kernel
  have k3 : (")" : Str).length = 1 := by decide +kernel
  have c1 : ("Deque(" : Str).length ≤ SZ := by omega
  have c2 : (("Deque(" : Str) ++ A).length ≤ SZ := by simp only [Str.length_append]; omega
  have c3 : ((("Deque(" : Str) ++ A) ++ ", bound=").length ≤ SZ := by simp only [Str.length_append]; omega
  have c4 : (((("Deque(" : Str) ++ A) ++ ", bound=") ++ B).length ≤ SZ := by simp only [Str.length_append]; omega
  have c5 : ((((("Deque(" : Str) ++ A) ++ ", bound=") ++ B) ++ ")").length ≤ SZ := by simp only [Str.length_append]; omega
  simp -implicitDefEqProofs [f_Deque_xrepr, dFun, dStart, p_Deque_xrepr, jsR, dFmt, Str.empty_append, c1, o, l0, f1, c2, c3, f2, c4, c5]
theorem ok_rtx (n : Nat) (b : Option Nat) : PyData.strOk (rtx n b) = true := ok_appS (ok_appS (ok_appS (ok_appS (ok_ofS _) (ok_ofS _)) (ok_ofS _)) (ok_btx b)) (ok_ofS _)
theorem lbound_of {h : Hep} {d r : Nat} {l : List Iv} {b : Option Nat} {mv vs : Int} (D : Dq h d r l b mv vs) : f_Deque_bound [.ref d] h = .ok (bav b) h := by
  simp [f_Deque_bound, dFun, dStart, p_Deque_bound, ins_of D.ob]
theorem fits_ok {h : Hep} {d r t m : Nat} {l : List Iv} {b : Option Nat} {mv vs c : Int} (D : Dq h d r l b mv vs) (T : Mo h t m l b mv c) (hb : ∀ k, b = some k → k ≤ 1000) : ∃ h', f__law_fits [.ref d, .ref t] h = .ok (.bl true) h' ∧ Fr [] h h' := by
  have o := ins_of D.ob
  have i1 := listed_ok D
  have f1 : Fr [] h (h ++ [AO.lst (l.map Iv.av)]) := Fr.app
  have D1 := D.fr f1 (by simp) (by simp)
  have x1 : (h ++ [AO.lst (l.map Iv.av)])[h.length]? = some (.lst (l.map Iv.av)) := new_at
  have t1 := f1.at T.ob (by simp)
  have m1 := f1.at T.rw_ (by simp)
  generalize h ++ [AO.lst (l.map Iv.av)] = g at i1 f1 D1 x1 t1 m1
  have j0 := idx_lst (i := 0) (v := .ref m) t1 rfl
  have j1 := idx_lst (i := 1) (v := bav b) t1 rfl
  have j2 := idx_lst (i := 2) (v := .int mv) t1 rfl
  have z := neItems x1 m1 D.ok D.ok
  have o1 := isT_of D1.ob
  have b1 := lbound_of D1
  have v1 := moves_ok D1
  have z2 := neB_self b g
  have z3 := neI_self mv g
  have l1 := len_ref m1
  have l2 := len_ok D1
  have r1 := repr_ok D1 hb
  simp only [List.length_map] at l1
  have hln := D.ln
  have hB : (l.length : Int) ≤ 1000000000 := by omega
  have s1 := strL_b hb g
  have s2 := strL_int (n := l.length) (by omega) g
  have n1 := lenT (n := l.length) (by omega)
  have n2 := lenB hb
  have okr := ok_rtx l.length b
  have eqr : eqAV (.str (rtx l.length b)) (.str (rtx l.length b)) g = some (.bl true, g) := eq_st okr okr (by simp)
  unfold rtx at eqr r1
  generalize Str.ofString (toString (l.length : Int)) = A at s2 n1 r1 eqr
  generalize btx b = B at s1 n2 r1 eqr
  have z9 : SZ = 1000000 := rfl
  have k1 : ("Deque(" : Str).length = 6 := by decide +kernel
  have k2 : (", bound=" : Str).length = 8 := by decide +kernel
  have k3 : (")" : Str).length = 1 := by decide +kernel
  have a1 : addAV (.str "Deque(") (.str A) g = some (.str ("Deque(" ++ A), g) := if_pos (by omega)
  have a2 : addAV (.str ("Deque(" ++ A)) (.str ", bound=") g = some (.str (("Deque(" ++ A) ++ ", bound="), g) := if_pos (by simp only [Str.length_append]; omega)
  have a3 : addAV (.str (("Deque(" ++ A) ++ ", bound=")) (.str B) g = some (.str ((("Deque(" ++ A) ++ ", bound=") ++ B), g) := if_pos (by simp only [Str.length_append]; omega)
  have a4 : addAV (.str ((("Deque(" ++ A) ++ ", bound=") ++ B)) (.str ")") g = some (.str (((("Deque(" ++ A) ++ ", bound=") ++ B) ++ ")"), g) := if_pos (by simp only [Str.length_append]; omega)
  refine ⟨g, ?_, f1⟩
  simp -implicitDefEqProofs at z
  have bn : (bav b).nx = true := bav_nx b
  simp -implicitDefEqProofs [f__law_fits, dFun, dStart, p__law_fits, methK, o, i1, j0, z, o1, b1, j1, z2, v1, j2, z3, l1, l2, hB, s1, s2, eq_ii, dReprO, reprOK, strK, r1, a1, a2, a3, a4, eqr, bn]
/-! wrong bounds; a full deque; an empty one -/
def BadBd (h : Hep) (v : AV) : Prop := v.nx = true ∧ ∀ g, Fr [] h g → f_is_bound [v] g = .ok (.bl false) g
theorem badbd_no {h : Hep} {v : AV} (nx : v.nx = true) (k : NoInt h v) (n : ∀ g, isNonAV v .non g = some (.bl false, g)) : BadBd h v := ⟨nx, fun g f => by
  have k := k g f
  have n := n g
  simp [f_is_bound, dFun, dStart, p_is_bound, nx, n, k]⟩
theorem badbd_int {h : Hep} {i : Int} (c : ¬ (0 ≤ i ∧ i ≤ 1000)) : BadBd h (.int i) := ⟨rfl, fun g f => by
  by_cases c0 : 0 ≤ i
  · have c1 : ¬ i ≤ 1000 := fun z => c ⟨c0, z⟩
    simp [f_is_bound, dFun, dStart, p_is_bound, isNonAV, isNonB, isint_int, c0, c1]
  · simp [f_is_bound, dFun, dStart, p_is_bound, isNonAV, isNonB, isint_int, c0]⟩
section
variable {h g : Hep} {v : AV} {x : Str} {d r : Nat} {l : List Iv} {b : Option Nat} {mv vs : Int}
theorem init_bad (B : BadBd h v) (f : Fr [] h g) (d m : Nat) : f_Deque_xinit [.ref d, .ref m, v] g = .exc 2 [(4, v)] g := by
  have k := B.2 g f
  have nx := B.1
  simp -implicitDefEqProofs [f_Deque_xinit, dFun, dStart, p_Deque_xinit, nx, k]
theorem insert_full (D : Dq h d r l b mv vs) (hf : full l b = true) : ∃ h', f_Deque_insert [.ref d, .int 0, .int 1] h = .exc 6 [] h' ∧ Fr [] h h' := by
  obtain ⟨h1, e1, f1⟩ := need_ok (.i 1) (by decide +kernel) h
  have e1 : f_need_item [.int 1] h = .ok .non h1 := e1
  have D1 := D.fr f1 (by simp) (by simp)
  have fu := full_ok D1
  rw [hf] at fu
  exact ⟨h1, by simp -implicitDefEqProofs [f_Deque_insert, dFun, dStart, p_Deque_insert, isint_int, e1, methK_of D1.ob, fu], f1⟩
theorem end_empty (D : Dq h d r [] b mv vs) (p : Int) : ∃ h', f_Deque_removed_end [.ref d, .int p] h = .exc 5 [] h' ∧ Fr [] h h' := by
  obtain ⟨n, h1, e1, f1, _, a1⟩ := mk_new [] h (by simp)
  have eq := eq_nil2 (f1.at (show h[r]? = some (.lst []) from D.rw_) (by simp)) a1
  exact ⟨h1, by simp -implicitDefEqProofs [f_Deque_removed_end, dFun, dStart, p_Deque_removed_end, ins_of D.ob, fget, e1, eq], f1⟩
theorem pop_empty (D : Dq h d r [] b mv vs) : ∃ h', f_Deque_pop [.ref d] h = .exc 5 [] h' ∧ Fr [] h h' := by
  obtain ⟨h1, e1, f1⟩ := end_empty D (-1)
  exact ⟨h1, by simp -implicitDefEqProofs [f_Deque_pop, dFun, dStart, p_Deque_pop, methK_of D.ob, e1], f1⟩
theorem popl_empty (D : Dq h d r [] b mv vs) : ∃ h', f_Deque_pop_left [.ref d] h = .exc 5 [] h' ∧ Fr [] h h' := by
  obtain ⟨h1, e1, f1⟩ := end_empty D 0
  exact ⟨h1, by simp -implicitDefEqProofs [f_Deque_pop_left, dFun, dStart, p_Deque_pop_left, methK_of D.ob, e1], f1⟩
/-! the turns -/
variable {a0 a1 a2 a3 a4 a5 a7 a9 : Option AV}
/-- err(lambda: ..) != [w, True, repr(odd)] -/
theorem tst_new {d0 : DE} {s : Sl} {w : String} {x : Str} {g g' : Hep} {n j : Nat} (e : dLamC f__law_error d0 s g = .ok (.ref n) g') (a : g'[n]? = some (.lst (due3 w x))) (o : PyData.strOk x = true) (hs : s[j]? = some (some v)) (nx : v.nx = true) (rr : ∀ g2, Fr [] g g2 → reprL [v] g2 = some (.str x, g2)) (f : Fr [] g g') :
    ∃ g'', dTst (dOp neAV (dLamC f__law_error d0) (dLst (dCons (dC (.str (Str.ofString w))) (dCons (dC (.bl true)) (dCons (dCB reprL (dCons (dVar j) dNil)) dNil))))) s g = .ok false g'' ∧ Fr [] g g'' := by
  obtain ⟨m, g2, e2, f2, a2⟩ := new3 w x g'
  have ne := ne_due (f2.at a (by simp)) a2 o
  have r1 := rr g' f
  exact ⟨g2, by simp -implicitDefEqProofs [e, hs, nx, r1, e2, ne], f.trans f2⟩
theorem tst_con {d0 : DE} {s : Sl} {w z : String} {g g' : Hep} {n : Nat} (e : dLamC f__law_error d0 s g = .ok (.ref n) g') (a : g'[n]? = some (.lst (due3 w (Str.ofString z)))) (f : Fr [] g g') :
    ∃ g'', dTst (dOp neAV (dLamC f__law_error d0) (dLst (dCons (dC (.str (Str.ofString w))) (dCons (dC (.bl true)) (dCons (dC (.str (Str.ofString z))) dNil))))) s g = .ok false g'' ∧ Fr [] g g'' := by
  obtain ⟨m, g2, e2, f2, a2⟩ := new3 w (Str.ofString z) g'
  have ne := ne_due (f2.at a (by simp)) a2 (ok_ofS z)
  exact ⟨g2, by simp -implicitDefEqProofs [e, e2, ne], f.trans f2⟩
theorem ifS_no {c : DT} {y : DS} {s : Sl} {h h1 : Hep} (e : c s h = .ok false h1) : dIfS c y dSkip s h = .nx s h1 := by
  rw [xIfS, e]
  rfl
theorem turn1 (O : Odd h v) (R : Rp h v x) (D : Dq h d r l b mv vs) : ∃ h', b_law_1 [a0, a1, a2, a3, a4, a5, some (.ref d), a7, some v, a9] h = .nx [a0, a1, a2, a3, a4, a5, some (.ref d), a7, some v, a9] h' ∧ Fr [] h h' := by
  have vn := O.1
  obtain ⟨h1, e1, f1⟩ := items_refused O R D
  have D1 := D.fr f1 (by simp) (by simp)
  obtain ⟨h2, e2, f2⟩ := contains_odd (O.fr f1) d
  have D2 := D1.fr f2 (by simp) (by simp)
  have f12 := f1.trans f2
  obtain ⟨h3, e3, f3⟩ := count_odd (O.fr f12) d
  have D3 := D2.fr f3 (by simp) (by simp)
  have f13 := f12.trans f3
  obtain ⟨h4, e4, f4⟩ := remove_odd (O.fr f13) D3
  obtain ⟨n, h5, e5, f5, b5⟩ := err_found (s := [a0, a1, a2, a3, a4, a5, some (.ref d), a7, some v, a9]) (d := dMeth 0 f_Deque_remove 1 0 2 [0, 1] [] (dVar 6) (dCons (dVar 8) dNil) dNil) (R.fr f13) f4 (by simp -implicitDefEqProofs [methK_of D3.ob, vn, e4])
  obtain ⟨h6, e6, f6⟩ := tst_new (j := 8) e5 b5 R.ok rfl vn (fun g2 f => R.re g2 (f13.trans f)) (f4.trans f5)
  have f16 := f13.trans f6
  have D6 := D3.fr f6 (by simp) (by simp)
  obtain ⟨h7, e7, f7⟩ := index_odd (O.fr f16) D6
  obtain ⟨m, h8, e8, f8, b8⟩ := err_found (s := [a0, a1, a2, a3, a4, a5, some (.ref d), a7, some v, a9]) (d := dMeth 0 f_Deque_index 1 0 4 [0, 1, 2, 3] [(.int 0), .non] (dVar 6) (dCons (dVar 8) dNil) dNil) (R.fr f16) f7 (by simp -implicitDefEqProofs [methK_of D6.ob, vn, e7])
  obtain ⟨h9, e9, f9⟩ := tst_new (j := 8) e8 b8 R.ok rfl vn (fun g2 f => R.re g2 (f16.trans f)) (f7.trans f8)
  refine ⟨h9, ?_, f16.trans f9⟩
  have c1 : dIfS (dOr (dNot (dTst (dCallC f__law_items_refused 2 0 2 [0, 1] [] (dCons (dVar 6) (dCons (dVar 8) dNil)) dNil))) (dOr (dTst (dOpX (inOK true 0 f_Deque_xcontains) (dVar 8) (dVar 6))) (dTst (dOp neAV (dMeth 0 f_Deque_count 1 0 2 [0, 1] [] (dVar 6) (dCons (dVar 8) dNil) dNil) (dC (.int 0))))))
      (dRet (dC (.bl false))) dSkip [a0, a1, a2, a3, a4, a5, some (.ref d), a7, some v, a9] h = .nx [a0, a1, a2, a3, a4, a5, some (.ref d), a7, some v, a9] h3 := by
    have z : neAV (.int 0) (.int 0) h3 = some (.bl false, h3) := by kernel_rfl
    simp -implicitDefEqProofs [vn, e1, inOK, isT_of D1.ob, e2, methK_of D2.ob, e3, z]
  unfold b_law_1
  rw [xSeq, c1, SR.then_nx, xSeq, ifS_no e6, SR.then_nx, ifS_no e9]
end
/-! the turns over indexes and bounds -/
def Kd (h : Hep) (v : AV) : Prop := v.nx = true ∧ ((∀ g, Fr [] h g → isiL ct0 [v, .ty "int"] g = some (.bl false, g)) ∨ ∃ b, v = .bl b)
theorem Kd.no {h : Hep} {v : AV} (k : Kd h v) : NoInt h v := noint_of k.1 k.2
theorem Kd.fr {h h' : Hep} {v : AV} (k : Kd h v) (f : Fr [] h h') : Kd h' v := ⟨k.1, k.2.imp (fun q g fg => q g (f.trans fg)) id⟩
section
variable {h g : Hep} {v : AV} {x : Str} {d r : Nat} {l : List Iv} {b : Option Nat} {mv vs : Int}
variable {a0 a1 a2 a3 a4 a5 a7 a9 : Option AV}
theorem Kd.tst (k : Kd h v) {s : Sl} (hs : s[8]? = some (some v)) : dOr (dNot (dTst (dCB (isiL ct0) (dCons (dVar 8) (dCons (dC (.ty "int")) dNil))))) (dTst (dCB (isiL ct0) (dCons (dVar 8) (dCons (dC (.ty "bool")) dNil)))) s h = .ok true h := by
  have nx := k.1
  rcases k.2 with q | ⟨c, rfl⟩
  · have q := q h Fr.refl
    simp -implicitDefEqProofs [hs, nx, q]
  · have i1 : isiL ct0 [.bl c, .ty "int"] h = some (.bl true, h) := rfl
    have i2 : isiL ct0 [.bl c, .ty "bool"] h = some (.bl true, h) := rfl
    simp -implicitDefEqProofs [hs, i1, i2]
theorem int_tst {i : Int} {s : Sl} {h : Hep} (hs : s[8]? = some (some (.int i))) : dOr (dNot (dTst (dCB (isiL ct0) (dCons (dVar 8) (dCons (dC (.ty "int")) dNil))))) (dTst (dCB (isiL ct0) (dCons (dVar 8) (dCons (dC (.ty "bool")) dNil)))) s h = .ok false h := by
  have i1 : isiL ct0 [.int i, .ty "int"] h = some (.bl true, h) := rfl
  have i2 : isiL ct0 [.int i, .ty "bool"] h = some (.bl false, h) := rfl
  simp -implicitDefEqProofs [hs, i1, i2]
theorem turn2 (B : BadIx h l.length v) (K : Kd h v ∨ ∃ i : Int, v = .int i) (R : Rp h v x) (D : Dq h d r l b mv vs) : ∃ c9 h', b_law_2 [a0, a1, a2, a3, a4, a5, some (.ref d), a7, some v, a9] h = .nx [a0, a1, a2, a3, a4, a5, some (.ref d), a7, some v, c9] h' ∧ Fr [] h h' := by
  have vn := B.1
  obtain ⟨h1, e1, f1⟩ := indexes_refused B R D
  have c1 : dIfS (dNot (dTst (dCallC f__law_indexes_refused 2 0 2 [0, 1] [] (dCons (dVar 6) (dCons (dVar 8) dNil)) dNil))) (dRet (dC (.bl false))) dSkip [a0, a1, a2, a3, a4, a5, some (.ref d), a7, some v, a9] h = .nx [a0, a1, a2, a3, a4, a5, some (.ref d), a7, some v, a9] h1 := by
    simp -implicitDefEqProofs [vn, e1]
  rcases K with k | ⟨i, rfl⟩
  · have k1 := k.fr f1
    have rr := R.re h1 f1
    obtain ⟨n, h2, e2, f2, b2⟩ := new3 "BadIndex" x h1
    have c2 : dSet 9 (dLst (dCons (dC (.str "BadIndex")) (dCons (dC (.bl true)) (dCons (dCB reprL (dCons (dVar 8) dNil)) dNil)))) [a0, a1, a2, a3, a4, a5, some (.ref d), a7, some v, a9] h1 = .nx [a0, a1, a2, a3, a4, a5, some (.ref d), a7, some v, some (.ref n)] h2 := by
      simp -implicitDefEqProofs [vn, rr, e2]
    have D2 := D.fr (f1.trans f2) (by simp) (by simp)
    have e3 := rotate_bad vn (k1.fr f2).no d
    obtain ⟨m, h3, e4, f4, b4⟩ := err_index (s := [a0, a1, a2, a3, a4, a5, some (.ref d), a7, some v, some (.ref n)]) (d := dMeth 0 f_Deque_rotate 1 0 2 [0, 1] [(.int 1)] (dVar 6) (dCons (dVar 8) dNil) dNil) (R.fr (f1.trans f2)) Fr.refl (by simp -implicitDefEqProofs [methK_of D2.ob, vn, e3])
    have t1 := ts_false (i := 9) e4 b4 (f4.at b2 (by simp)) R.ok rfl
    have D3 := D2.fr f4 (by simp) (by simp)
    have e5 := insert_bad vn ((k1.fr f2).fr f4).no d
    obtain ⟨m2, h4, e6, f6, b6⟩ := err_index (s := [a0, a1, a2, a3, a4, a5, some (.ref d), a7, some v, some (.ref n)]) (d := dMeth 0 f_Deque_insert 2 0 3 [0, 1, 2] [] (dVar 6) (dCons (dVar 8) (dCons (dC .non) dNil)) dNil) (R.fr ((f1.trans f2).trans f4)) Fr.refl (by simp -implicitDefEqProofs [methK_of D3.ob, vn, e5])
    have t2 := ts_false (i := 9) e6 b6 ((f4.trans f6).at b2 (by simp)) R.ok rfl
    refine ⟨some (.ref n), h4, ?_, ((f1.trans f2).trans f4).trans f6⟩
    unfold b_law_2
    rw [xSeq, c1, SR.then_nx, xIfS, k1.tst rfl]
    show (dSeq _ _ : DS) [a0, a1, a2, a3, a4, a5, some (.ref d), a7, some v, a9] h1 = _
    rw [xSeq, c2, SR.then_nx, xSeq, ifS_no t1, SR.then_nx, ifS_no t2]
  · refine ⟨a9, h1, ?_, f1⟩
    unfold b_law_2
    rw [xSeq, c1, SR.then_nx, xIfS, int_tst rfl]
    rfl
theorem turn3 (B : BadBd h v) (R : Rp h v x) : ∃ h', b_law_3 [a0, a1, a2, a3, a4, a5, some (.ref d), a7, some v, a9] h = .nx [a0, a1, a2, a3, a4, a5, some (.ref d), a7, some v, a9] h' ∧ Fr [] h h' := by
  have vn := B.1
  obtain ⟨m, h1, e1, f1, _, _⟩ := mk_new [.non] h (by simp)
  have fi : Fr [] h1 (h1 ++ [AO.ins 0 []]) := Fr.app
  have e2 := init_bad B (f1.trans fi) h1.length m
  obtain ⟨n, h3, e3, f3, b3⟩ := err_bound (s := [a0, a1, a2, a3, a4, a5, some (.ref d), a7, some v, a9]) (d := dMake 0 f_Deque_xinit 1 1 3 [0, 1, 3] [(.tup [])] (dCons (dLst (dCons (dC .non) dNil)) dNil) (dCons (dVar 8) dNil)) R (f1.trans fi) (by simp -implicitDefEqProofs [vn, e1, e2])
  obtain ⟨h4, e4, f4⟩ := tst_new (j := 8) e3 b3 R.ok rfl vn (fun g2 f => R.re g2 f) ((f1.trans fi).trans f3)
  refine ⟨h4, ?_, f4⟩
  unfold b_law_3
  exact ifS_no e4
end
/-! the values -/
theorem tup_str (xs : List AV) (h : Hep) : isiL ct0 [.tup xs, .ty "str"] h = some (.bl false, h) := rfl
theorem tup_int (xs : List AV) (h : Hep) : isiL ct0 [.tup xs, .ty "int"] h = some (.bl false, h) := rfl
theorem rp_k {v : AV} {d : PyData} (h : Hep) (nx : v.nx = true) (e : ∀ g, toD DD g v = some d) (c : shB d = true) : ∃ x, Rp h v x := ⟨_, rp_pure h nx e c⟩
theorem rp_l {h : Hep} {n : Nat} {xs : List AV} {ds : List PyData} (a : h[n]? = some (.lst xs)) (e : ∀ g, xs.mapM (toD 49 g) = some ds) (c : shB (.list ds) = true) : ∃ x, Rp h (.ref n) x := ⟨_, rp_of (d := .list ds) rfl (fun g f => by
  have a2 := f.at a (by simp)
  show toD (49 + 1) g (.ref n) = _
  simp only [toD, a2, e g]
  rfl) c⟩
def wrongL (n : Nat) : List AV := [.non, .bl true, .bl false, .str "", .str "A", .str "a b", .str "abcdefg", .tup [], .ref n, .tup [.str "a"], .int 1000000000000, .int (-1000000000000), .str "1"]
theorem wrong_ok {h : Hep} {n : Nat} (a : h[n]? = some (.lst [.int 1])) : ∀ v ∈ wrongL n, Odd h v ∧ ∃ x, Rp h v x := by
  intro v hv
  simp only [wrongL, List.mem_cons, List.not_mem_nil, or_false] at hv
  rcases hv with rfl | rfl | rfl | rfl | rfl | rfl | rfl | rfl | rfl | rfl | rfl | rfl | rfl
  · exact ⟨odd_k rfl (fun _ _ => rfl) (fun _ _ => rfl), rp_k h rfl (fun _ => rfl) (by decide +kernel)⟩
  · exact ⟨odd_bl _ _, rp_k h rfl (fun _ => rfl) (by decide +kernel)⟩
  · exact ⟨odd_bl _ _, rp_k h rfl (fun _ => rfl) (by decide +kernel)⟩
  · exact ⟨odd_str _ _ (by decide +kernel) (by decide +kernel), rp_k h rfl (fun _ => rfl) (by decide +kernel)⟩
  · exact ⟨odd_str _ _ (by decide +kernel) (by decide +kernel), rp_k h rfl (fun _ => rfl) (by decide +kernel)⟩
  · exact ⟨odd_str _ _ (by decide +kernel) (by decide +kernel), rp_k h rfl (fun _ => rfl) (by decide +kernel)⟩
  · exact ⟨odd_str _ _ (by decide +kernel) (by decide +kernel), rp_k h rfl (fun _ => rfl) (by decide +kernel)⟩
  · exact ⟨odd_k rfl (fun g _ => tup_str _ g) (fun g _ => tup_int _ g), rp_k h rfl (fun _ => rfl) (by decide +kernel)⟩
  · exact ⟨odd_lst a, rp_l a (ds := [.int 1]) (fun _ => rfl) (by decide +kernel)⟩
  · exact ⟨odd_k rfl (fun g _ => tup_str _ g) (fun g _ => tup_int _ g), rp_k h rfl (fun _ => rfl) (by decide +kernel)⟩
  · exact ⟨odd_int _ _ (by decide +kernel), rp_k h rfl (fun _ => rfl) (by decide +kernel)⟩
  · exact ⟨odd_int _ _ (by decide +kernel), rp_k h rfl (fun _ => rfl) (by decide +kernel)⟩
  · exact ⟨odd_str _ _ (by decide +kernel) (by decide +kernel), rp_k h rfl (fun _ => rfl) (by decide +kernel)⟩
def ixL (sz n : Nat) : List AV := [.non, .bl true, .str "0", .str "", .tup [], .ref n, .tup [.int 0], .int (sz : Nat), .int (-(sz : Nat) - 1), .int 1000000000000000000000000000000, .int (-1000000000000000000000000000000)]
theorem lst_int {h : Hep} {n : Nat} {xs : List AV} (e : h[n]? = some (.lst xs)) (g : Hep) (f : Fr [] h g) : isiL ct0 [.ref n, .ty "int"] g = some (.bl false, g) := by
  simp [isiL, isiB, twOf, f.at e (by simp), twO]
  rfl
theorem kd_k {h : Hep} {v : AV} (nx : v.nx = true) (e : ∀ g, isiL ct0 [v, .ty "int"] g = some (.bl false, g)) : Kd h v := ⟨nx, .inl fun g _ => e g⟩
theorem kd_ix {h : Hep} {v : AV} {sz : Nat} (k : Kd h v) : BadIx h sz v ∧ (Kd h v ∨ ∃ i : Int, v = .int i) := ⟨⟨k.1, .inl k.no⟩, .inl k⟩
theorem int_ix {h : Hep} {i : Int} {sz : Nat} (c : ¬ (0 - (sz : Int) ≤ i ∧ i < sz)) : BadIx h sz (.int i) ∧ (Kd h (.int i) ∨ ∃ j : Int, AV.int i = .int j) := ⟨⟨rfl, .inr ⟨i, rfl, c⟩⟩, .inr ⟨i, rfl⟩⟩
theorem sh_small : ∀ k : Fin 7, shB (.int (k.val : Nat)) = true ∧ shB (.int (-(k.val : Nat) - 1)) = true := by decide +kernel
theorem ix_ok {h : Hep} {sz n : Nat} (hz : sz ≤ 6) (a : h[n]? = some (.lst [.int 0])) : ∀ v ∈ ixL sz n, (BadIx h sz v ∧ (Kd h v ∨ ∃ i : Int, v = .int i)) ∧ ∃ x, Rp h v x := by
  intro v hv
  have sh := sh_small ⟨sz, by omega⟩
  simp only [ixL, List.mem_cons, List.not_mem_nil, or_false] at hv
  rcases hv with rfl | rfl | rfl | rfl | rfl | rfl | rfl | rfl | rfl | rfl | rfl
  · exact ⟨kd_ix (kd_k rfl fun _ => rfl), rp_k h rfl (fun _ => rfl) (by decide +kernel)⟩
  · exact ⟨kd_ix ⟨rfl, .inr ⟨_, rfl⟩⟩, rp_k h rfl (fun _ => rfl) (by decide +kernel)⟩
  · exact ⟨kd_ix (kd_k rfl fun _ => rfl), rp_k h rfl (fun _ => rfl) (by decide +kernel)⟩
  · exact ⟨kd_ix (kd_k rfl fun _ => rfl), rp_k h rfl (fun _ => rfl) (by decide +kernel)⟩
  · exact ⟨kd_ix (kd_k rfl fun _ => rfl), rp_k h rfl (fun _ => rfl) (by decide +kernel)⟩
  · exact ⟨kd_ix ⟨rfl, .inl fun g f => lst_int a g f⟩, rp_l a (ds := [.int 0]) (fun _ => rfl) (by decide +kernel)⟩
  · exact ⟨kd_ix (kd_k rfl fun _ => rfl), rp_k h rfl (fun _ => rfl) (by decide +kernel)⟩
  · exact ⟨int_ix (by omega), rp_k h rfl (fun _ => rfl) sh.1⟩
  · exact ⟨int_ix (by omega), rp_k h rfl (fun _ => rfl) sh.2⟩
  · exact ⟨int_ix (by omega), rp_k h rfl (fun _ => rfl) (by decide +kernel)⟩
  · exact ⟨int_ix (by omega), rp_k h rfl (fun _ => rfl) (by decide +kernel)⟩
def bdL (n : Nat) : List AV := [.int (-1), .int 1001, .bl true, .str "a", .str "", .tup [], .ref n, .int 1000000000000000000000000000000]
theorem nn_str (x : Str) (g : Hep) : isNonAV (.str x) .non g = some (.bl false, g) := by simp [isNonAV, isNonB]
theorem bd_ok {h : Hep} {n : Nat} (a : h[n]? = some (.lst [.int 3])) : ∀ v ∈ bdL n, BadBd h v ∧ ∃ x, Rp h v x := by
  intro v hv
  simp only [bdL, List.mem_cons, List.not_mem_nil, or_false] at hv
  rcases hv with rfl | rfl | rfl | rfl | rfl | rfl | rfl | rfl
  · exact ⟨badbd_int (by omega), rp_k h rfl (fun _ => rfl) (by decide +kernel)⟩
  · exact ⟨badbd_int (by omega), rp_k h rfl (fun _ => rfl) (by decide +kernel)⟩
  · exact ⟨badbd_no rfl (noint_of rfl (.inr ⟨_, rfl⟩)) (fun g => by simp [isNonAV, isNonB]), rp_k h rfl (fun _ => rfl) (by decide +kernel)⟩
  · exact ⟨badbd_no rfl (noint_of rfl (.inl fun _ _ => rfl)) (nn_str _), rp_k h rfl (fun _ => rfl) (by decide +kernel)⟩
  · exact ⟨badbd_no rfl (noint_of rfl (.inl fun _ _ => rfl)) (nn_str _), rp_k h rfl (fun _ => rfl) (by decide +kernel)⟩
  · exact ⟨badbd_no rfl (noint_of rfl (.inl fun _ _ => rfl)) (fun g => by simp [isNonAV, isNonB]), rp_k h rfl (fun _ => rfl) (by decide +kernel)⟩
  · exact ⟨badbd_no rfl (noint_of rfl (.inl fun g f => lst_int a g f)) (fun g => by simp [isNonAV, isNonB]), rp_l a (ds := [.int 3]) (fun _ => rfl) (by decide +kernel)⟩
  · exact ⟨badbd_int (by omega), rp_k h rfl (fun _ => rfl) (by decide +kernel)⟩
/-! a loop over a list whose turns only make new things -/
theorem for_new {f : DI} {body : DS} {j n : Nat} {xs : List AV} {s : Sl} {h h1 : Hep} (P : Sl → Prop) (ef : f s h = .ok (.at n) h1) (a : h1[n]? = some (.lst xs)) (p0 : P s)
    (step : ∀ s g v, P s → v ∈ xs → Fr [] h1 g → ∃ s2 g2, body (s.set j (some v)) g = .nx s2 g2 ∧ P s2 ∧ Fr [] g g2) : ∃ s' h', dFor f (dgN j) body s h = .nx s' h' ∧ P s' ∧ Fr [] h1 h' := by
  rcases for_ret (f := f) (g := dgN j) (body := body) (s := s) (h := h) (h1 := h1) (xs := xs) (fun i s g => Fr [] h1 g ∧ P s) (fun _ _ _ => False) ef (len_at a) (fun i s g ⟨fr, _⟩ => next_at (fr.at a (by simp))) ⟨Fr.refl, p0⟩
    (fun i s g v hv ⟨fr, p⟩ => by
      obtain ⟨s2, g2, e, p2, f2⟩ := step s g v p (List.mem_of_getElem? hv) fr
      exact ⟨_, rfl, .inl ⟨s2, g2, .inl e, fr.trans f2, p2⟩⟩) with ⟨s', h', e, fr, p⟩ | ⟨_, _, _, _, z, _⟩
  · exact ⟨s', h', e, p, fr⟩
  · exact z.elim
theorem src_e {f : DE} {s : Sl} {h h1 : Hep} {n : Nat} {xs : List AV} (e : f s h = .ok (.ref n) h1) (a : h1[n]? = some (.lst xs)) : dSrc f s h = .ok (.at n) h1 := by
  unfold dSrc
  rw [e]
  show (match h1[n]? with
    | some (.lst _) => R.ok (Src.at n) h1
    | _ => .stuck) = _
  rw [a]
theorem pw12 (h : Hep) : powAV (.int 10) (.int 12) h = some (.int 1000000000000, h) := pow_ii (i := 10) (j := 12) (by omega) (by omega) (by decide)
theorem pw30 (h : Hep) : powAV (.int 10) (.int 30) h = some (.int 1000000000000000000000000000000, h) := pow_ii (i := 10) (j := 30) (by omega) (by omega) (by decide)
theorem ix_new (h : Hep) (sz : Nat) {s : Sl} (hs : s[7]? = some (some (.int (sz : Nat)))) : ∃ k n h', dLst (dCons (dC .non) (dCons (dC (.bl true)) (dCons (dC (.str "0")) (dCons (dC (.str "")) (dCons (dTup dNil) (dCons (dLst (dCons (dC (.int 0)) dNil)) (dCons (dTup (dCons (dC (.int 0)) dNil)) (dCons (dVar 7) (dCons (dOp subAV (dOp subAV (dC (.int 0)) (dVar 7)) (dC (.int 1))) (dCons (dOp powAV (dC (.int 10)) (dC (.int 30))) (dCons (dOp subAV (dC (.int 0)) (dOp powAV (dC (.int 10)) (dC (.int 30)))) dNil))))))))))) s h = .ok (.ref k) h' ∧
    h'[k]? = some (.lst (ixL sz n)) ∧ h'[n]? = some (.lst [.int 0]) ∧ Fr [] h h' := by
  obtain ⟨n, g1, e1, f1, _, a1⟩ := mk_new [.int 0] h (by simp)
  obtain ⟨k, g2, e2, f2, _, a2⟩ := mk_new (ixL sz n) g1 (by simp [ixL])
  have e2 : mkL [.non, .bl true, .str (Str.ofString "0"), .str (Str.ofString ""), .tup [], .ref n, .tup [.int 0], .int (sz : Nat), .int (-(sz : Nat) - 1), .int 1000000000000000000000000000000, .int (-1000000000000000000000000000000)] g1 = some (.ref k, g2) := e2
  refine ⟨k, n, g2, ?_, a2, f2.at a1 (by simp), f1.trans f2⟩
  simp -implicitDefEqProofs [mkT, SZ, e1, hs, pw30, e2]
theorem bd_new (h : Hep) (s : Sl) : ∃ k n h', dLst (dCons (dUn negAV (dC (.int 1))) (dCons (dC (.int 1001)) (dCons (dC (.bl true)) (dCons (dC (.str "a")) (dCons (dC (.str "")) (dCons (dTup dNil) (dCons (dLst (dCons (dC (.int 3)) dNil)) (dCons (dOp powAV (dC (.int 10)) (dC (.int 30))) dNil)))))))) s h = .ok (.ref k) h' ∧
    h'[k]? = some (.lst (bdL n)) ∧ h'[n]? = some (.lst [.int 3]) ∧ Fr [] h h' := by
  obtain ⟨n, g1, e1, f1, _, a1⟩ := mk_new [.int 3] h (by simp)
  obtain ⟨k, g2, e2, f2, _, a2⟩ := mk_new (bdL n) g1 (by simp [bdL])
  have e2 : mkL [.int (-1), .int 1001, .bl true, .str (Str.ofString "a"), .str (Str.ofString ""), .tup [], .ref n, .int 1000000000000000000000000000000] g1 = some (.ref k, g2) := e2
  refine ⟨k, n, g2, ?_, a2, f2.at a1 (by simp), f1.trans f2⟩
  simp -implicitDefEqProofs [mkT, SZ, e1, pw30, e2]
theorem wr_new (h : Hep) (s : Sl) : ∃ k n h', dLst (dCons (dC .non) (dCons (dC (.bl true)) (dCons (dC (.bl false)) (dCons (dC (.str "")) (dCons (dC (.str "A")) (dCons (dC (.str "a b")) (dCons (dC (.str "abcdefg")) (dCons (dTup dNil) (dCons (dLst (dCons (dC (.int 1)) dNil)) (dCons (dTup (dCons (dC (.str "a")) dNil)) (dCons (dOp powAV (dC (.int 10)) (dC (.int 12))) (dCons (dOp subAV (dC (.int 0)) (dOp powAV (dC (.int 10)) (dC (.int 12)))) (dCons (dC (.str "1")) dNil))))))))))))) s h = .ok (.ref k) h' ∧
    h'[k]? = some (.lst (wrongL n)) ∧ h'[n]? = some (.lst [.int 1]) ∧ Fr [] h h' := by
  obtain ⟨n, g1, e1, f1, _, a1⟩ := mk_new [.int 1] h (by simp)
  obtain ⟨k, g2, e2, f2, _, a2⟩ := mk_new (wrongL n) g1 (by simp [wrongL])
  have e2 : mkL [.non, .bl true, .bl false, .str (Str.ofString ""), .str (Str.ofString "A"), .str (Str.ofString "a b"), .str (Str.ofString "abcdefg"), .tup [], .ref n, .tup [.str (Str.ofString "a")], .int 1000000000000, .int (-1000000000000), .str (Str.ofString "1")] g1 = some (.ref k, g2) := e2
  refine ⟨k, n, g2, ?_, a2, f2.at a1 (by simp), f1.trans f2⟩
  simp -implicitDefEqProofs [mkT, SZ, e1, pw12, e2]
theorem eq_bound (sz : Nat) (b : Option Nat) (h : Hep) : eqAV (.int (sz : Nat)) (bav b) h = some (.bl (decide (b = some sz)), h) := by
  cases b with
  | none =>
    show eqAV (.int (sz : Nat)) .non h = _
    rw [eqAV_dr (e := .none) (.int _) .non dOk_int ⟨by rw [PyData.canLay0], by rw [PyData.depth]; decide⟩, PyData.eqv]
    · simp
    all_goals simp
  | some k =>
    show eqAV (.int (sz : Nat)) (.int (k : Nat)) h = _
    rw [eq_ii]
    congr 3
    simp
    omega
theorem place27 (ns : List Int) (pl : Nat) (hp : pl < 3) {h : Hep} {m0 n0 : Nat} (hw : h[m0]? = some (.lst (wrongL n0))) (hn : h[n0]? = some (.lst [.int 1])) (c3 c4 c5 c6 c7 c8 c9 : Option AV) :
    ∃ d3 d4 d5 d6 d7 d8 d9 h', b_law_4 [some (.rol (ns.map .int)), some (.ref m0), some (.int pl), c3, c4, c5, c6, c7, c8, c9] h = .nx [some (.rol (ns.map .int)), some (.ref m0), some (.int pl), d3, d4, d5, d6, d7, d8, d9] h' ∧ Fr [] h h' := by
  obtain ⟨s, g1, r1, f1, ls, y, S1⟩ := source_ok ns pl (by omega) h
  obtain ⟨b, vs, t, n, m, g2, e2, hb, a2t, a2m, a2n, lv, ov, f2, lt, ln, lm, nmn, S2⟩ := lmodel_ok S1 (by omega)
  have l1 := f1.1
  have F2 : Fr [] h g2 := f1.into f2 (by simp; omega)
  have l2 := F2.1
  have fi : Fr [] g2 (g2 ++ [AO.ins 0 []]) := Fr.app
  have ed : (g2 ++ [AO.ins 0 []])[g2.length]? = some (.ins 0 []) := at_last
  obtain ⟨r, g3, e3, f3, lr, D3⟩ := init_ok (fi.at a2n (by simp)) ed ov (by omega) (fun k hk => by have := hb k hk; omega)
  have lr2 : g2.length ≤ r := by simp at lr; omega
  have F3 : Fr [] g2 g3 := fi.into f3 (by simp)
  have F03 := F2.trans F3
  have a3t := F3.at a2t (by simp)
  have a3m := F3.at a2m (by simp)
  have hz : (lastN vs b).length ≤ 6 := Nat.le_trans (lastN_len vs b) lv
  generalize hsz : (lastN vs b).length = sz at hz
  have i1 : idxAV (.ref t) (.int 1) g2 = some (bav b, g2) := idx_lst a2t rfl
  have i0 : idxAV (.ref t) (.int 0) g3 = some (.ref m, g3) := idx_lst a3t rfl
  have lz : lenL [.ref m] g3 = some (.int (sz : Nat), g3) := by
    have q : (lastN vs b).length ≤ 1000000 := by omega
    simp [lenL, lenA, a3m, q, hsz]
  have nxb : (bav b).nx = true := by simp
  have tne : t ≠ m := fun z => by
    rw [z, a2m] at a2t
    have := Option.some.inj a2t
    have := AO.lst.inj this
    cases q : lastN vs b with
    | nil =>
      rw [q] at this
      simp at this
    | cons w ws =>
      rw [q] at this
      simp only [List.map_cons, List.cons.injEq] at this
      cases w <;> cases this.1
  have T3 : Mo g3 t m (lastN vs b) b 0 0 := ⟨a3t, a3m, tne⟩
  -- the statements
  have s1 : dSet 3 (dCallC f__law_source 2 0 2 [0, 1] [] (dCons (dVar 0) (dCons (dVar 2) dNil)) dNil) [some (.rol (ns.map .int)), some (.ref m0), some (.int pl), c3, c4, c5, c6, c7, c8, c9] h = .nx [some (.rol (ns.map .int)), some (.ref m0), some (.int pl), some (.ref s), c4, c5, c6, c7, c8, c9] g1 := by
    simp -implicitDefEqProofs [r1]
  have s2 : dAsg (dCallC f__law_model 1 0 1 [0] [] (dCons (dVar 3) dNil) dNil) (dgT (dgC (dgN 4) (dgC (dgN 5) dg0))) [some (.rol (ns.map .int)), some (.ref m0), some (.int pl), some (.ref s), c4, c5, c6, c7, c8, c9] g1 = .nx [some (.rol (ns.map .int)), some (.ref m0), some (.int pl), some (.ref s), some (.ref t), some (.ref n), c6, c7, c8, c9] g2 := by
    simp -implicitDefEqProofs [e2]
  have s3 : dAsg (dTup (dCons (dMake 0 f_Deque_xinit 1 1 3 [0, 1, 3] [(.tup [])] (dCons (dVar 5) dNil) (dCons (dOp idxAV (dVar 4) (dC (.int 1))) dNil)) (dCons (dCB lenL (dCons (dOp idxAV (dVar 4) (dC (.int 0))) dNil)) dNil))) (dgT (dgC (dgN 6) (dgC (dgN 7) dg0))) [some (.rol (ns.map .int)), some (.ref m0), some (.int pl), some (.ref s), some (.ref t), some (.ref n), c6, c7, c8, c9] g2 = .nx [some (.rol (ns.map .int)), some (.ref m0), some (.int pl), some (.ref s), some (.ref t), some (.ref n), some (.ref g2.length), some (.int (sz : Nat)), c8, c9] g3 := by
    simp -implicitDefEqProofs [i1, e3, i0, lz, mkT, SZ]
  -- the loops
  have w3 := F03.at hw (by simp)
  have n3 := F03.at hn (by simp)
  obtain ⟨z4, g4, e4, ⟨c8', c9', rfl⟩, f4⟩ := for_new (f := dSrc (dVar 1)) (body := b_law_1) (j := 8) (s := [some (.rol (ns.map .int)), some (.ref m0), some (.int pl), some (.ref s), some (.ref t), some (.ref n), some (.ref g2.length), some (.int (sz : Nat)), c8, c9]) (h := g3) (h1 := g3) (n := m0) (xs := wrongL n0)
    (fun s' => ∃ c8 c9, s' = [some (.rol (ns.map .int)), some (.ref m0), some (.int pl), some (.ref s), some (.ref t), some (.ref n), some (.ref g2.length), some (.int (sz : Nat)), c8, c9]) (src_e rfl w3) w3 ⟨c8, c9, rfl⟩
    (fun s' g v ⟨c8, c9, es⟩ hv fg => by
      subst es
      obtain ⟨O, x, R⟩ := wrong_ok (fg.at n3 (by simp)) v hv
      obtain ⟨g', e, f⟩ := turn1 (a0 := some (.rol (ns.map .int))) (a1 := some (.ref m0)) (a2 := some (.int pl)) (a3 := some (.ref s)) (a4 := some (.ref t)) (a5 := some (.ref n)) (a7 := some (.int (sz : Nat))) (a9 := c9) O R (D3.fr fg (by simp) (by simp))
      exact ⟨_, g', e, ⟨_, _, rfl⟩, f⟩)
  have D4 := D3.fr f4 (by simp) (by simp)
  obtain ⟨k5, n5, g5, e5, a5, b5, f5⟩ := ix_new g4 sz (s := [some (.rol (ns.map .int)), some (.ref m0), some (.int pl), some (.ref s), some (.ref t), some (.ref n), some (.ref g2.length), some (.int (sz : Nat)), c8', c9']) rfl
  have D5 := D4.fr f5 (by simp) (by simp)
  obtain ⟨z6, g6, e6, ⟨c8'', c9'', rfl⟩, f6⟩ := for_new (body := b_law_2) (j := 8)
    (fun s' => ∃ c8 c9, s' = [some (.rol (ns.map .int)), some (.ref m0), some (.int pl), some (.ref s), some (.ref t), some (.ref n), some (.ref g2.length), some (.int (sz : Nat)), c8, c9]) (src_e e5 a5) a5 ⟨c8', c9', rfl⟩
    (fun s' g v ⟨c8, c9, es⟩ hv fg => by
      subst es
      obtain ⟨⟨B, K⟩, x, R⟩ := ix_ok hz (fg.at b5 (by simp)) v hv
      rw [← hsz] at B
      obtain ⟨c9n, g', e, f⟩ := turn2 (a0 := some (.rol (ns.map .int))) (a1 := some (.ref m0)) (a2 := some (.int pl)) (a3 := some (.ref s)) (a4 := some (.ref t)) (a5 := some (.ref n)) (a7 := some (.int (sz : Nat))) (a9 := c9) B K R (D5.fr fg (by simp) (by simp))
      exact ⟨_, g', e, ⟨_, _, rfl⟩, f⟩)
  have D6 := D5.fr f6 (by simp) (by simp)
  obtain ⟨k7, n7, g7, e7, a7, b7, f7⟩ := bd_new g6 [some (.rol (ns.map .int)), some (.ref m0), some (.int pl), some (.ref s), some (.ref t), some (.ref n), some (.ref g2.length), some (.int (sz : Nat)), c8'', c9'']
  have D7 := D6.fr f7 (by simp) (by simp)
  obtain ⟨z8, g8, e8, ⟨c8e, c9e, rfl⟩, f8⟩ := for_new (body := b_law_3) (j := 8)
    (fun s' => ∃ c8 c9, s' = [some (.rol (ns.map .int)), some (.ref m0), some (.int pl), some (.ref s), some (.ref t), some (.ref n), some (.ref g2.length), some (.int (sz : Nat)), c8, c9]) (src_e e7 a7) a7 ⟨c8'', c9'', rfl⟩
    (fun s' g v ⟨c8, c9, es⟩ hv fg => by
      subst es
      obtain ⟨B, x, R⟩ := bd_ok (fg.at b7 (by simp)) v hv
      obtain ⟨g', e, f⟩ := turn3 (d := g2.length) (a0 := some (.rol (ns.map .int))) (a1 := some (.ref m0)) (a2 := some (.int pl)) (a3 := some (.ref s)) (a4 := some (.ref t)) (a5 := some (.ref n)) (a7 := some (.int (sz : Nat))) (a9 := c9) B R
      exact ⟨_, g', e, ⟨_, _, rfl⟩, f⟩)
  have D8 := D7.fr f8 (by simp) (by simp)
  have F38 : Fr [] g3 g8 := (((f4.trans f5).trans f6).trans f7).trans f8
  have T8 : Mo g8 t m (lastN vs b) b 0 0 := ⟨F38.at a3t (by simp), F38.at a3m (by simp), tne⟩
  have i8 : idxAV (.ref t) (.int 1) g8 = some (bav b, g8) := idx_lst T8.ob rfl
  -- a full deque
  obtain ⟨g9, e9, f9⟩ : ∃ g9, dAnd (dTst (dOp eqAV (dVar 7) (dOp idxAV (dVar 4) (dC (.int 1))))) (dTst (dOp neAV (dLamC f__law_error (dMeth 0 f_Deque_insert 2 0 3 [0, 1, 2] [] (dVar 6) (dCons (dC (.int 0)) (dCons (dC (.int 1)) dNil)) dNil)) (dLst (dCons (dC (.str "Full")) (dCons (dC (.bl true)) (dCons (dC (.str "")) dNil))))))
      [some (.rol (ns.map .int)), some (.ref m0), some (.int pl), some (.ref s), some (.ref t), some (.ref n), some (.ref g2.length), some (.int (sz : Nat)), c8e, c9e] g8 = .ok false g9 ∧ Fr [] g8 g9 := by
    have eb := eq_bound sz b g8
    by_cases c : b = some sz
    · have hf : full (lastN vs b) b = true := by
        rw [c] at hsz ⊢
        simp [full, hsz]
      obtain ⟨h1, e1, f1⟩ := insert_full D8 hf
      obtain ⟨q, h2, e2, f2, a2⟩ := err_full (h := g8) (g := h1) (s := [some (.rol (ns.map .int)), some (.ref m0), some (.int pl), some (.ref s), some (.ref t), some (.ref n), some (.ref g2.length), some (.int (sz : Nat)), c8e, c9e]) (d := dMeth 0 f_Deque_insert 2 0 3 [0, 1, 2] [] (dVar 6) (dCons (dC (.int 0)) (dCons (dC (.int 1)) dNil)) dNil) (by simp -implicitDefEqProofs [methK_of D8.ob, e1])
      obtain ⟨h3, e3, f3⟩ := tst_con (z := "") e2 a2 (f1.trans f2)
      rw [decide_eq_true c] at eb
      refine ⟨h3, ?_, f3⟩
      have x0 : (dTst (dOp eqAV (dVar 7) (dOp idxAV (dVar 4) (dC (.int 1))))) [some (.rol (ns.map .int)), some (.ref m0), some (.int pl), some (.ref s), some (.ref t), some (.ref n), some (.ref g2.length), some (.int (sz : Nat)), c8e, c9e] g8 = .ok true g8 := by
        simp -implicitDefEqProofs [i8, eb]
      rw [xAnd, x0]
      exact e3
    · rw [decide_eq_false c] at eb
      exact ⟨g8, by simp -implicitDefEqProofs [i8, eb], Fr.refl⟩
  have D9 := D8.fr f9 (by simp) (by simp)
  have T9 : Mo g9 t m (lastN vs b) b 0 0 := ⟨f9.at T8.ob (by simp), f9.at T8.rw_ (by simp), tne⟩
  obtain ⟨g10, e10, f10⟩ := fits_ok D9 T9 (fun k hk => by have := hb k hk; omega)
  have D10 := D9.fr f10 (by simp) (by simp)
  obtain ⟨g11, vs', e11, f11, D11⟩ := clear_ok D10
  obtain ⟨g12, e12, f12⟩ := pop_empty D11
  obtain ⟨q13, g13, e13, f13, a13⟩ := err_empty (h := g11) (g := g12) (s := [some (.rol (ns.map .int)), some (.ref m0), some (.int pl), some (.ref s), some (.ref t), some (.ref n), some (.ref g2.length), some (.int (sz : Nat)), c8e, c9e]) (d := dMeth 0 f_Deque_pop 0 0 1 [0] [] (dVar 6) dNil dNil) (by simp -implicitDefEqProofs [methK_of D11.ob, e12])
  obtain ⟨g14, e14, f14⟩ := tst_con (z := "") e13 a13 (f12.trans f13)
  have D14 := D11.fr f14 (by simp) (by simp)
  obtain ⟨g15, e15, f15⟩ := popl_empty D14
  obtain ⟨q16, g16, e16, f16, a16⟩ := err_empty (h := g14) (g := g15) (s := [some (.rol (ns.map .int)), some (.ref m0), some (.int pl), some (.ref s), some (.ref t), some (.ref n), some (.ref g2.length), some (.int (sz : Nat)), c8e, c9e]) (d := dMeth 0 f_Deque_pop_left 0 0 1 [0] [] (dVar 6) dNil dNil) (by simp -implicitDefEqProofs [methK_of D14.ob, e15])
  obtain ⟨g17, e17, f17⟩ := tst_con (z := "") e16 a16 (f15.trans f16)
  have F : Fr [] h g10 := F03.trans (F38.trans (f9.trans f10))
  have F2 : Fr [] h g11 := F.into f11 (by
    have := F2.1
    simp
    omega)
  refine ⟨some (.ref s), some (.ref t), some (.ref n), some (.ref g2.length), some (.int (sz : Nat)), c8e, c9e, g17, ?_, (F2.trans f14).trans f17⟩
  have s9 : dIfS (dNot (dTst (dCallC f__law_fits 2 0 2 [0, 1] [] (dCons (dVar 6) (dCons (dVar 4) dNil)) dNil))) (dRet (dC (.bl false))) dSkip [some (.rol (ns.map .int)), some (.ref m0), some (.int pl), some (.ref s), some (.ref t), some (.ref n), some (.ref g2.length), some (.int (sz : Nat)), c8e, c9e] g9 = .nx [some (.rol (ns.map .int)), some (.ref m0), some (.int pl), some (.ref s), some (.ref t), some (.ref n), some (.ref g2.length), some (.int (sz : Nat)), c8e, c9e] g10 := by
    simp -implicitDefEqProofs [e10]
  have s10 : dDrop (dMeth 0 f_Deque_clear 0 0 1 [0] [] (dVar 6) dNil dNil) [some (.rol (ns.map .int)), some (.ref m0), some (.int pl), some (.ref s), some (.ref t), some (.ref n), some (.ref g2.length), some (.int (sz : Nat)), c8e, c9e] g10 = .nx [some (.rol (ns.map .int)), some (.ref m0), some (.int pl), some (.ref s), some (.ref t), some (.ref n), some (.ref g2.length), some (.int (sz : Nat)), c8e, c9e] g11 := by
    simp -implicitDefEqProofs [methK_of D10.ob, e11]
  unfold b_law_4
  rw [xSeq, s1, SR.then_nx, xSeq, s2, SR.then_nx, xSeq, s3, SR.then_nx, xSeq, e4, SR.then_nx, xSeq, e6, SR.then_nx, xSeq, e8, SR.then_nx, xSeq, ifS_no e9, SR.then_nx, xSeq, s9, SR.then_nx, xSeq, s10, SR.then_nx, xSeq, ifS_no e14, SR.then_nx, ifS_no e17]
theorem law_true (ns : List Int) (hl : ns.length ≤ 63) : ∃ h, f_law [.rol (ns.map .int)] [] = .ok (.bl true) h := by
  obtain ⟨m0, n0, h1, e1, a1, b1, _⟩ := wr_new [] [some (.rol (ns.map .int)), none, none, none, none, none, none, none, none, none]
  have ef : dRg1 (dCons (dCB maxL (dCons (dC (.int 2)) (dCons (dCB minL (dCons (dC (.int 3)) (dCons (dCB lenL (dCons (dVar 0) dNil)) dNil))) dNil))) dNil) [some (.rol (ns.map .int)), some (.ref m0), none, none, none, none, none, none, none, none] h1 = .ok (.fix (rngL 0 (max 2 (min 3 ns.length)))) h1 := rg1_ok (j := ((max 2 (min 3 ns.length) : Nat) : Int)) (by
    simp -implicitDefEqProofs [lenL, lenA, maxL, minL]
    omega) rfl (by omega)
  obtain ⟨s', h', e, ⟨c2, c3, c4, c5, c6, c7, c8, c9, es⟩, _⟩ := for_fix (body := b_law_4) (g := dgN 2) (fun i s' g => (∃ c2 c3 c4 c5 c6 c7 c8 c9, s' = [some (.rol (ns.map .int)), some (.ref m0), c2, c3, c4, c5, c6, c7, c8, c9]) ∧ Fr [] h1 g) ef ⟨⟨_, _, _, _, _, _, _, _, rfl⟩, Fr.refl⟩
    (fun i s' g x hx ⟨⟨c2, c3, c4, c5, c6, c7, c8, c9, es⟩, fg⟩ => by
      have hi : i < max 2 (min 3 ns.length) := by
        have := (List.getElem?_eq_some_iff.mp hx).1
        simpa using this
      have xi : x = .int (i : Nat) := by
        unfold rngL at hx
        rw [List.getElem?_map, List.getElem?_range hi] at hx
        simpa using hx.symm
      subst xi
      obtain ⟨d3, d4, d5, d6, d7, d8, d9, g2, r2, f2⟩ := place27 ns i (by omega) (fg.at a1 (by simp)) (fg.at b1 (by simp)) c3 c4 c5 c6 c7 c8 c9
      subst es
      exact ⟨_, _, g2, rfl, .inl r2, ⟨_, _, _, _, _, _, _, _, rfl⟩, fg.trans f2⟩)
  subst es
  refine ⟨h', ?_⟩
  have s0 : dStart 10 [.rol (ns.map .int)] = [some (.rol (ns.map .int)), none, none, none, none, none, none, none, none, none] := rfl
  show (p_law (dStart 10 [.rol (ns.map .int)]) []).fin = _
  rw [s0]
  unfold p_law
  have c1 := e1
  rw [xSeq]
  unfold dSet
  rw [c1, R.st_ok]
  show (((SR.nx [some (.rol (ns.map .int)), some (.ref m0), none, none, none, none, none, none, none, none] h1).then _).fin) = _
  rw [SR.then_nx, xSeq, e, SR.then_nx]
  rfl
end Q
namespace Q
open PySem PySem.Spec PyProof.Rows L2 Dn
set_option maxHeartbeats 0
theorem alN {α : Type} {p : α → Prop} : ∀ b ∈ ([] : List α), p b := fun b h => by cases h
theorem alC {α : Type} {p : α → Prop} {a : α} {l : List α} (h : p a) (t : ∀ b ∈ l, p b) : ∀ b ∈ a :: l, p b := fun b m => by
  rcases List.mem_cons.mp m with rfl | m
  · exact h
  · exact t b m
theorem okE {P : Program} {w : World} {K : PySem.W.Frag} {mg : Str → Option Value} {base : Heap} {k : Nat} {f : Addr} {fd : FuncData} {ps : List Str} {W : Wd} {n : Nat} {G G2 : DF} (r : FnOk P w K mg base (L2.CX P w) k f fd ps (spD W n G2)) (h : G = G2) : FnOk P w K mg base (L2.CX P w) k f fd ps (spD W n G) := by
  rw [h]
  exact r
theorem okGE {P : Program} {w : World} {K : PySem.W.Frag} {mg : Str → Option Value} {base : Heap} {k : Nat} {f : Addr} {fd : FuncData} {ps : List Str} {W : Wd} {n : Nat} {G G2 : DF} (r : FnG P w K mg base (L2.CX P w) k f fd ps (spD W n G2)) (h : G = G2) : FnG P w K mg base (L2.CX P w) k f fd ps (spD W n G) := by
  rw [h]
  exact r
section
local macro_rules | `(tactic| trivial) => `(tactic| first | exact .inl rfl | exact .inr rfl)
variable {P : Program} {w : World} {mg : Str → Option Value} {base : Heap} {W : Wd} {f : Addr} {fd : FuncData}
abbrev FnP (W : Wd) (st : Stmt) (x q : Str) (dvs : List V) (kws : List (Str × V)) (f : Addr) (fd : FuncData) : Prop := FunD W.K x q (defArgs st) (defBody st) (defScope st) dvs kws f fd
theorem sc__law_source : FnScope ["_law_script", "_law_place", "_law_cell", "_law_far"] ["_law_script", "_law_place"] (defScope (top 25)) := ⟨rfl, rfl, rfl, by decide +kernel, rfl, by decide +kernel, by decide +kernel⟩
theorem ok__law_source (hW : W.ct = ct0) (hN : W.fn = fn0) (F : FnP W (top 25) "_law_source" "_law_source" [] [] f fd) (b_len : mg "len" = none) (b_abs : mg "abs" = none) : FnB P w mg base W 2 f fd ["_law_script", "_law_place"] 2 f__law_source [(2, [], [0, 1], [])] := by
  have nd : (["_law_script", "_law_place", "_law_cell", "_law_far"] : List Str).Nodup := sc__law_source.nd
  refine ⟨F.kp, okE (fnD F sc__law_source rfl fun cdv A outer s H E hr tk => ?_) rfl, alC (bnN F 2 [] [0, 1] fun _ _ _ _ _ _ us ws h1 h2 => match us, h1, ws, h2 with | [_, _], _, [], _ => by kernel_rfl) alN⟩
  exact (ssC (sSet nd (i := 2) rfl (by trivial) (ifD (cmT oLt (vv 1) (bD (cLen rfl) b_len bt_len (aD (vv 0) nD)) (nomark _)) (ixD (xIdx rfl (ru1 hr)) (vv 0) (vv 1) fun _ _ => rfl) iD) trivial) (ssC (sSet nd (i := 3) rfl (by trivial) (ifD (cmT oGe (bD cAbs b_abs bt_abs (aD (vv 2) nD)) (opD oPow iD iD) (nomark _)) (bD cAbs b_abs bt_abs (aD (vv 2) nD)) iD) trivial) (ss1 (sRet (lstD (aD (vv 3) (aD (opD (oAdd rfl) (opD (oAdd rfl) (opD (oAdd rfl) (opD oMod (vv 2) iD) (opD (oMul rfl) (opD (oMul rfl) iD (vv 1)) (vv 1))) (opD (oMul rfl) iD (vv 1))) iD) (aD iD nD))))))))
theorem sc__law_draw : FnScope ["_law_source_here", "_law_often", "_law_digit", "_law_primes", "_law_turn", "_law_mixed", "_law_found"] ["_law_source_here", "_law_often"] (defScope (top 26)) := ⟨rfl, rfl, rfl, by decide +kernel, rfl, by decide +kernel, by decide +kernel⟩
theorem ok__law_draw (hW : W.ct = ct0) (hN : W.fn = fn0) (F : FnP W (top 26) "_law_draw" "_law_draw" [] [] f fd)  : FnB P w mg base W 2 f fd ["_law_source_here", "_law_often"] 2 f__law_draw [(2, [], [0, 1], [])] := by
  have nd : (["_law_source_here", "_law_often", "_law_digit", "_law_primes", "_law_turn", "_law_mixed", "_law_found"] : List Str).Nodup := sc__law_draw.nd
  refine ⟨F.kp, okE (fnD F sc__law_draw rfl fun cdv A outer s H E hr tk => ?_) rfl, alC (bnN F 2 [] [0, 1] fun _ _ _ _ _ _ us ws h1 h2 => match us, h1, ws, h2 with | [_, _], _, [], _ => by kernel_rfl) alN⟩
  exact (ssC (sIf (cmT oGt (ixD (xIdx rfl (ru1 hr)) (vv 0) iD fun _ _ => rfl) iD (nomark _))
  (ssC (sSet nd (i := 2) rfl (by trivial) (opD oMod (ixD (xIdx rfl (ru1 hr)) (vv 0) iD fun _ _ => rfl) (vv 1)) trivial) (ssC (sPut hr (vv 0) iD (opD oFdiv (ixD (xIdx rfl (ru1 hr)) (vv 0) iD fun _ _ => rfl) (vv 1))) (ss1 (sRet (vv 2)))))
  ss0) (ssC (sSet nd (i := 3) rfl (by trivial) (tupD (aD iD (aD iD (aD iD (aD iD (aD iD (aD iD (aD iD (aD iD nD))))))))) trivial) (ssC (sPut hr (vv 0) iD (opD (oAdd rfl) (ixD (xIdx rfl (ru1 hr)) (vv 0) iD fun _ _ => rfl) iD)) (ssC (sSet nd (i := 4) rfl (by trivial) (ixD (xIdx rfl (ru1 hr)) (vv 0) iD fun _ _ => rfl) trivial) (ssC (sSet nd (i := 5) rfl (by trivial) (opD (oAdd rfl) (opD (oAdd rfl) (opD (oMul rfl) (ixD (xIdx rfl (ru1 hr)) (vv 0) iD fun _ _ => rfl) (opD (oAdd rfl) (opD (oMul rfl) iD (vv 4)) iD)) (opD (oMul rfl) (opD (oMul rfl) iD (vv 4)) (vv 4))) iD) trivial) (ssC (sSet nd (i := 6) rfl (by trivial) (opD oMod (opD oPow (vv 5) iD) (ixD (xIdx rfl (ru1 hr)) (vv 3) (opD oMod (vv 4) iD) fun _ _ => rfl)) trivial) (ss1 (sRet (opD oMod (opD oFdiv (opD oMod (opD (oMul rfl) (vv 6) (opD (oAdd rfl) (opD oFdiv (vv 6) iD) iD)) (ixD (xIdx rfl (ru1 hr)) (vv 3) (opD oMod (opD (oAdd rfl) (vv 4) iD) iD) fun _ _ => rfl)) iD) (vv 1))))))))))
theorem sc__law_choice : FnScope ["_law_source_here", "_law_some"] ["_law_source_here", "_law_some"] (defScope (top 27)) := ⟨rfl, rfl, rfl, by decide +kernel, rfl, by decide +kernel, by decide +kernel⟩
theorem ok__law_choice (hW : W.ct = ct0) (hN : W.fn = fn0) (F : FnP W (top 27) "_law_choice" "_law_choice" [] [] f fd) (b_len : mg "len" = none) (H__law_draw : Has P w mg base W 2 "_law_draw" ["_law_source_here", "_law_often"] 2 f__law_draw [(2, [], [0, 1], [])]) : FnB P w mg base W 4 f fd ["_law_source_here", "_law_some"] 2 f__law_choice [(2, [], [0, 1], [])] := by
  have nd : (["_law_source_here", "_law_some"] : List Str).Nodup := sc__law_choice.nd
  refine ⟨F.kp, okE (fnD F sc__law_choice rfl fun cdv A outer s H E hr tk => ?_) rfl, alC (bnN F 2 [] [0, 1] fun _ _ _ _ _ _ us ws h1 h2 => match us, h1, ws, h2 with | [_, _], _, [], _ => by kernel_rfl) alN⟩
  exact (ss1 (sRet (ixD (xIdx rfl (ru1 hr)) (vv 1) (callH H__law_draw 0 rfl rfl hr (by decide) rfl tk (aD (vv 0) (aD (bD (cLen rfl) b_len bt_len (aD (vv 1) nD)) nD)) kNil) fun _ _ => rfl)))
theorem sc__law_item : FnScope ["_law_source_here"] ["_law_source_here"] (defScope (top 28)) := ⟨rfl, rfl, rfl, by decide +kernel, rfl, by decide +kernel, by decide +kernel⟩
theorem ok__law_item (hW : W.ct = ct0) (hN : W.fn = fn0) (F : FnP W (top 28) "_law_item" "_law_item" [] [] f fd) (H__law_choice : Has P w mg base W 4 "_law_choice" ["_law_source_here", "_law_some"] 2 f__law_choice [(2, [], [0, 1], [])]) : FnB P w mg base W 6 f fd ["_law_source_here"] 1 f__law_item [(1, [], [0], [])] := by
  have nd : (["_law_source_here"] : List Str).Nodup := sc__law_item.nd
  refine ⟨F.kp, okE (fnD F sc__law_item rfl fun cdv A outer s H E hr tk => ?_) rfl, alC (bnN F 1 [] [0] fun _ _ _ _ _ _ us ws h1 h2 => match us, h1, ws, h2 with | [_], _, [], _ => by kernel_rfl) alN⟩
  exact (ss1 (sRet (callH H__law_choice 0 rfl rfl hr (by decide) rfl tk (aD (vv 0) (aD (lstD (aD iD (aD iD (aD iD (aD (unD uNeg iD) (aD iD (aD iD (aD sD (aD sD (aD sD (aD sD nD))))))))))) nD)) kNil)))
theorem sc__law_items : FnScope ["_law_source_here", "_law_most", "_law_turn"] ["_law_source_here", "_law_most"] (defScope (top 29)) := ⟨rfl, rfl, rfl, by decide +kernel, rfl, by decide +kernel, by decide +kernel⟩
theorem ok__law_items (hW : W.ct = ct0) (hN : W.fn = fn0) (F : FnP W (top 29) "_law_items" "_law_items" [] [] f fd) (b_range : mg "range" = none) (H__law_draw : Has P w mg base W 2 "_law_draw" ["_law_source_here", "_law_often"] 2 f__law_draw [(2, [], [0, 1], [])]) (H__law_item : Has P w mg base W 6 "_law_item" ["_law_source_here"] 1 f__law_item [(1, [], [0], [])]) : FnB P w mg base W 8 f fd ["_law_source_here", "_law_most"] 2 f__law_items [(2, [], [0, 1], [])] := by
  have nd : (["_law_source_here", "_law_most", "_law_turn"] : List Str).Nodup := sc__law_items.nd
  refine ⟨F.kp, okE (fnD F sc__law_items rfl fun cdv A outer s H E hr tk => ?_) rfl, alC (bnN F 2 [] [0, 1] fun _ _ _ _ _ _ us ws h1 h2 => match us, h1, ws, h2 with | [_, _], _, [], _ => by kernel_rfl) alN⟩
  exact (ss1 (sRet (lcD (own := [("_law_turn", 2)]) rfl nd (rg1D rfl b_range (aD (callH H__law_draw 0 rfl rfl hr (by decide) rfl tk (aD (vv 0) (aD (opD (oAdd rfl) (vv 1) iD) nD)) kNil) nD)) (blkOk (by kernel_rfl)) (fun _ _ _ _ _ => (gN nd rfl (by trivial) trivial (fun σ v => wipe_set σ (by decide)))) (fun _ _ _ _ _ => yesD) (fun _ _ _ _ _ => (callH H__law_item 0 rfl rfl hr (by decide) rfl tkE0 (aD (vv 0) nD) kNil)) (fun _ _ => trivial))))
theorem sc__law_bound : FnScope ["_law_source_here"] ["_law_source_here"] (defScope (top 30)) := ⟨rfl, rfl, rfl, by decide +kernel, rfl, by decide +kernel, by decide +kernel⟩
theorem ok__law_bound (hW : W.ct = ct0) (hN : W.fn = fn0) (F : FnP W (top 30) "_law_bound" "_law_bound" [] [] f fd) (H__law_choice : Has P w mg base W 4 "_law_choice" ["_law_source_here", "_law_some"] 2 f__law_choice [(2, [], [0, 1], [])]) : FnB P w mg base W 6 f fd ["_law_source_here"] 1 f__law_bound [(1, [], [0], [])] := by
  have nd : (["_law_source_here"] : List Str).Nodup := sc__law_bound.nd
  refine ⟨F.kp, okE (fnD F sc__law_bound rfl fun cdv A outer s H E hr tk => ?_) rfl, alC (bnN F 1 [] [0] fun _ _ _ _ _ _ us ws h1 h2 => match us, h1, ws, h2 with | [_], _, [], _ => by kernel_rfl) alN⟩
  exact (ss1 (sRet (callH H__law_choice 0 rfl rfl hr (by decide) rfl tk (aD (vv 0) (aD (lstD (aD nD0 (aD nD0 (aD iD (aD iD (aD iD (aD iD (aD iD (aD iD nD))))))))) nD)) kNil)))
theorem sc__law_added : FnScope ["_law_row", "_law_limit", "_law_item_here", "_law_is_left"] ["_law_row", "_law_limit", "_law_item_here", "_law_is_left"] (defScope (top 31)) := ⟨rfl, rfl, rfl, by decide +kernel, rfl, by decide +kernel, by decide +kernel⟩
theorem ok__law_added (hW : W.ct = ct0) (hN : W.fn = fn0) (F : FnP W (top 31) "_law_added" "_law_added" [] [] f fd) (b_len : mg "len" = none) : FnB P w mg base W 2 f fd ["_law_row", "_law_limit", "_law_item_here", "_law_is_left"] 4 f__law_added [(4, [], [0, 1, 2, 3], [])] := by
  have nd : (["_law_row", "_law_limit", "_law_item_here", "_law_is_left"] : List Str).Nodup := sc__law_added.nd
  refine ⟨F.kp, okE (fnD F sc__law_added rfl fun cdv A outer s H E hr tk => ?_) rfl, alC (bnN F 4 [] [0, 1, 2, 3] fun _ _ _ _ _ _ us ws h1 h2 => match us, h1, ws, h2 with | [_, _, _, _], _, [], _ => by kernel_rfl) alN⟩
  exact (ssC (sIf (cmT (oEq rfl (ru hr)) (vv 1) iD (nomark _))
  (ss1 (sRet (lstD (aD (vv 2) nD))))
  ss0) (ssC (sExpr (mD rfl PySem.F.plainAttrs_list PySem.F.slot_list_insert meInsert (vv 0) (aD (ifD (tstD (vv 3)) iD (bD (cLen rfl) b_len bt_len (aD (vv 0) nD))) (aD (vv 2) nD)))) (ssC (sIf (ptW (andD (cmT oIsNot (vv 1) nD0 (nomark _)) (and1D (cmT oGt (bD (cLen rfl) b_len bt_len (aD (vv 0) nD)) (vv 1) (nomark _)))))
  (ss1 (sRet (lstD (aD (mD rfl PySem.F.plainAttrs_list PySem.F.slot_list_pop mePop (vv 0) (aD (ifD (tstD (vv 3)) (unD uNeg iD) iD) nD)) nD))))
  ss0) (ss1 (sRet (lstD nD))))))
theorem sc__law_model : FnScope ["_law_source_here", "_law_limit", "_law_items_here", "_law_row", "_law_item_here"] ["_law_source_here"] (defScope (top 32)) := ⟨rfl, rfl, rfl, by decide +kernel, rfl, by decide +kernel, by decide +kernel⟩
theorem ok__law_model (hW : W.ct = ct0) (hN : W.fn = fn0) (F : FnP W (top 32) "_law_model" "_law_model" [] [] f fd) (H__law_items : Has P w mg base W 8 "_law_items" ["_law_source_here", "_law_most"] 2 f__law_items [(2, [], [0, 1], [])]) (H__law_bound : Has P w mg base W 6 "_law_bound" ["_law_source_here"] 1 f__law_bound [(1, [], [0], [])]) (H__law_added : Has P w mg base W 2 "_law_added" ["_law_row", "_law_limit", "_law_item_here", "_law_is_left"] 4 f__law_added [(4, [], [0, 1, 2, 3], [])]) : FnB P w mg base W 10 f fd ["_law_source_here"] 1 f__law_model [(1, [], [0], [])] := by
  have nd : (["_law_source_here", "_law_limit", "_law_items_here", "_law_row", "_law_item_here"] : List Str).Nodup := sc__law_model.nd
  refine ⟨F.kp, okE (fnD F sc__law_model rfl fun cdv A outer s H E hr tk => ?_) rfl, alC (bnN F 1 [] [0] fun _ _ _ _ _ _ us ws h1 h2 => match us, h1, ws, h2 with | [_], _, [], _ => by kernel_rfl) alN⟩
  exact (ssC (sPar2 rfl nd rfl rfl (by decide) rfl rfl (aD (callH H__law_bound 0 rfl rfl hr (by decide) rfl tk (aD (vv 0) nD) kNil) (aD (callH H__law_items 0 rfl rfl hr (by decide) rfl tk (aD (vv 0) (aD iD nD)) kNil) nD)) trivial trivial) (ssC (sSet nd (i := 3) rfl (by trivial) (lstD nD) trivial) (ssC (sFor (passes_of rfl) rfl (srcD rfl (vv 2)) (gN nd rfl (by trivial) trivial (fun _ _ => trivial))
  (ss1 (sExpr (callH H__law_added 0 rfl rfl hr (by decide) rfl tk (aD (vv 3) (aD (vv 1) (aD (vv 4) (aD bD0 nD)))) kNil)))) (ss1 (sRet (tupD (aD (lstD (aD (vv 3) (aD (vv 1) (aD iD (aD iD nD))))) (aD (vv 2) nD))))))))
theorem sc_is_integer : FnScope ["thing"] ["thing"] (defScope (top 12)) := ⟨rfl, rfl, rfl, by decide +kernel, rfl, by decide +kernel, by decide +kernel⟩
theorem ok_is_integer (hW : W.ct = ct0) (hN : W.fn = fn0) (F : FnP W (top 12) "is_integer" "is_integer" [] [] f fd) (b_isinstance : mg "isinstance" = none) (b_int : mg "int" = none) (b_bool : mg "bool" = none) : FnB P w mg base W 2 f fd ["thing"] 1 f_is_integer [(1, [], [0], [])] := by
  have nd : (["thing"] : List Str).Nodup := sc_is_integer.nd
  refine ⟨F.kp, okE (fnD F sc_is_integer rfl fun cdv A outer s H E hr tk => ?_) rfl, alC (bnN F 1 [] [0] fun _ _ _ _ _ _ us ws h1 h2 => match us, h1, ws, h2 with | [_], _, [], _ => by kernel_rfl) alN⟩
  exact (ss1 (sRet (andVD (altD (bD (cIsiE rfl hW) b_isinstance bt_isinstance (aD (vv 0) (aD (tyD b_int bt_int) nD))) (bD cIsiS b_isinstance bt_isinstance (aD (vv 0) (aD (tyD b_int bt_int) nD)))) (oneVD (notVD (bD (cIsiE rfl hW) b_isinstance bt_isinstance (aD (vv 0) (aD (tyD b_bool bt_bool) nD))))))))
theorem sc_is_bound : FnScope ["thing"] ["thing"] (defScope (top 20)) := ⟨rfl, rfl, rfl, by decide +kernel, rfl, by decide +kernel, by decide +kernel⟩
theorem ok_is_bound (hW : W.ct = ct0) (hN : W.fn = fn0) (F : FnP W (top 20) "is_bound" "is_bound" [] [] f fd) (c_MOST_BOUND : ∃ t, mg "MOST_BOUND" = some (.int 1000 t)) (H_is_integer : Has P w mg base W 2 "is_integer" ["thing"] 1 f_is_integer [(1, [], [0], [])]) : FnB P w mg base W 4 f fd ["thing"] 1 f_is_bound [(1, [], [0], [])] := by
  have nd : (["thing"] : List Str).Nodup := sc_is_bound.nd
  refine ⟨F.kp, okE (fnD F sc_is_bound rfl fun cdv A outer s H E hr tk => ?_) rfl, alC (bnN F 1 [] [0] fun _ _ _ _ _ _ us ws h1 h2 => match us, h1, ws, h2 with | [_], _, [], _ => by kernel_rfl) alN⟩
  exact (ss1 (sRet (orVD (cmD oIs (vv 0) nD0 (nomark _)) (oneVD (andVD (callH H_is_integer 0 rfl rfl hr (by decide) rfl tk (aD (vv 0) nD) kNil) (oneVD (chnD oLe oLe iD (vv 0) (gcD c_MOST_BOUND.choose_spec (y := (.int 1000)) ⟨_, rfl⟩ fun _ _ => .int _))))))))
theorem sc_is_word : FnScope ["thing", "sign"] ["thing"] (defScope (top 13)) := ⟨rfl, rfl, rfl, by decide +kernel, rfl, by decide +kernel, by decide +kernel⟩
theorem ok_is_word (hW : W.ct = ct0) (hN : W.fn = fn0) (F : FnP W (top 13) "is_word" "is_word" [] [] f fd) (b_isinstance : mg "isinstance" = none) (b_str : mg "str" = none) (b_len : mg "len" = none) (c_MOST_LETTERS : ∃ t, mg "MOST_LETTERS" = some (.int 6 t)) (b_all : mg "all" = none) (c_LETTERS : ∃ t, mg "LETTERS" = some (.str "abcdefghijklmnopqrstuvwxyz" t)) : FnB P w mg base W 2 f fd ["thing"] 1 f_is_word [(1, [], [0], [])] := by
  have nd : (["thing", "sign"] : List Str).Nodup := sc_is_word.nd
  refine ⟨F.kp, okE (fnD F sc_is_word rfl fun cdv A outer s H E hr tk => ?_) rfl, alC (bnN F 1 [] [0] fun _ _ _ _ _ _ us ws h1 h2 => match us, h1, ws, h2 with | [_], _, [], _ => by kernel_rfl) alN⟩
  exact (ss1 (sRet (andVD (bD (cIsiE rfl hW) b_isinstance bt_isinstance (aD (vv 0) (aD (tyD b_str bt_str) nD))) (andVD (chnD oLe oLe iD (bD (cLen rfl) b_len bt_len (aD (vv 0) nD)) (gcD c_MOST_LETTERS.choose_spec (y := (.int 6)) ⟨_, rfl⟩ fun _ _ => .int _)) (oneVD (bD (cAll rfl rfl) b_all bt_all (aD (lcD (own := [("sign", 1)]) rfl nd (srcD rfl (vv 0)) (blkOk (by kernel_rfl)) (fun _ _ _ _ _ => (gN nd rfl (by trivial) trivial (fun σ v => wipe_set σ (by decide)))) (fun _ _ _ _ _ => yesD) (fun _ _ _ _ _ => (cmD (oIn rfl (ru5 hr)) (vv 1) (gcD c_LETTERS.choose_spec (y := (.str "abcdefghijklmnopqrstuvwxyz")) ⟨_, rfl⟩ fun _ _ => .str _) rfl)) (fun _ _ => trivial)) nD)))))))
theorem sc_is_short : FnScope ["thing"] ["thing"] (defScope (top 14)) := ⟨rfl, rfl, rfl, by decide +kernel, rfl, by decide +kernel, by decide +kernel⟩
theorem ok_is_short (hW : W.ct = ct0) (hN : W.fn = fn0) (F : FnP W (top 14) "is_short" "is_short" [] [] f fd) (b_abs : mg "abs" = none) (H_is_integer : Has P w mg base W 2 "is_integer" ["thing"] 1 f_is_integer [(1, [], [0], [])]) : FnB P w mg base W 4 f fd ["thing"] 1 f_is_short [(1, [], [0], [])] := by
  have nd : (["thing"] : List Str).Nodup := sc_is_short.nd
  refine ⟨F.kp, okE (fnD F sc_is_short rfl fun cdv A outer s H E hr tk => ?_) rfl, alC (bnN F 1 [] [0] fun _ _ _ _ _ _ us ws h1 h2 => match us, h1, ws, h2 with | [_], _, [], _ => by kernel_rfl) alN⟩
  exact (ss1 (sRet (andVD (callH H_is_integer 0 rfl rfl hr (by decide) rfl tk (aD (vv 0) nD) kNil) (oneVD (cmD oLt (bD cAbs b_abs bt_abs (aD (vv 0) nD)) (opD oPow iD iD) (nomark _))))))
theorem sc_is_item : FnScope ["thing"] ["thing"] (defScope (top 15)) := ⟨rfl, rfl, rfl, by decide +kernel, rfl, by decide +kernel, by decide +kernel⟩
theorem ok_is_item (hW : W.ct = ct0) (hN : W.fn = fn0) (F : FnP W (top 15) "is_item" "is_item" [] [] f fd) (H_is_word : Has P w mg base W 2 "is_word" ["thing"] 1 f_is_word [(1, [], [0], [])]) (H_is_short : Has P w mg base W 4 "is_short" ["thing"] 1 f_is_short [(1, [], [0], [])]) : FnB P w mg base W 6 f fd ["thing"] 1 f_is_item [(1, [], [0], [])] := by
  have nd : (["thing"] : List Str).Nodup := sc_is_item.nd
  refine ⟨F.kp, okE (fnD F sc_is_item rfl fun cdv A outer s H E hr tk => ?_) rfl, alC (bnN F 1 [] [0] fun _ _ _ _ _ _ us ws h1 h2 => match us, h1, ws, h2 with | [_], _, [], _ => by kernel_rfl) alN⟩
  exact (ss1 (sRet (orVD (callH H_is_word 0 rfl rfl hr (by decide) rfl tk (aD (vv 0) nD) kNil) (oneVD (callH H_is_short 0 rfl rfl hr (by decide) rfl tk (aD (vv 0) nD) kNil)))))
theorem sc_need_item : FnScope ["thing"] ["thing"] (defScope (top 18)) := ⟨rfl, rfl, rfl, by decide +kernel, rfl, by decide +kernel, by decide +kernel⟩
theorem ok_need_item (hW : W.ct = ct0) (hN : W.fn = fn0) (F : FnP W (top 18) "need_item" "need_item" [] [] f fd) (H_is_item : Has P w mg base W 6 "is_item" ["thing"] 1 f_is_item [(1, [], [0], [])]) (XI_BadItem : HasXI P w mg base W 1 4 "BadItem") : FnB P w mg base W 8 f fd ["thing"] 1 f_need_item [(1, [], [0], [])] := by
  have nd : (["thing"] : List Str).Nodup := sc_need_item.nd
  refine ⟨F.kp, okE (fnD F sc_need_item rfl fun cdv A outer s H E hr tk => ?_) rfl, alC (bnN F 1 [] [0] fun _ _ _ _ _ _ us ws h1 h2 => match us, h1, ws, h2 with | [_], _, [], _ => by kernel_rfl) alN⟩
  exact (ss1 (sIf (notD (tstD (callH H_is_item 0 rfl rfl hr (by decide) rfl tk (aD (vv 0) nD) kNil)))
  (ss1 (sRaiseI XI_BadItem hr (by decide) rfl rfl tk (vv 0)))
  ss0))
theorem sc_checked : FnScope ["items", "some", "item"] ["items"] (defScope (top 23)) := ⟨rfl, rfl, rfl, by decide +kernel, rfl, by decide +kernel, by decide +kernel⟩
theorem ok_checked (hW : W.ct = ct0) (hN : W.fn = fn0) (F : FnP W (top 23) "checked" "checked" [] [] f fd) (b_isinstance : mg "isinstance" = none) (k_Deque : mg "Deque" = some (.ref (W.cl 0))) (b_list : mg "list" = none) (H_need_item : Has P w mg base W 8 "need_item" ["thing"] 1 f_need_item [(1, [], [0], [])]) : FnB P w mg base W 10 f fd ["items"] 1 f_checked [(1, [], [0], [])] := by
  have nd : (["items", "some", "item"] : List Str).Nodup := sc_checked.nd
  refine ⟨F.kp, okE (fnD F sc_checked rfl fun cdv A outer s H E hr tk => ?_) rfl, alC (bnN F 1 [] [0] fun _ _ _ _ _ _ us ws h1 h2 => match us, h1, ws, h2 with | [_], _, [], _ => by kernel_rfl) alN⟩
  exact (ssC (sSet nd (i := 1) rfl (by trivial) (ifD (tstD (bD (cIsiE rfl hW) b_isinstance bt_isinstance (aD (vv 0) (aD (clD rfl k_Deque) nD)))) (yD (cList rfl rfl) b_list bt_list (aD (fldD rfl (fnx hN (i := 0) rfl) (vv 0)) nD)) (yD (cList rfl rfl) b_list bt_list (aD (vv 0) nD))) trivial) (ssC (sFor (passes_of rfl) rfl (srcD rfl (vv 1)) (gN nd rfl (by trivial) trivial (fun _ _ => trivial))
  (ss1 (sExpr (callH H_need_item 0 rfl rfl hr (by decide) rfl tk (aD (vv 2) nD) kNil)))) (ss1 (sRet (vv 1)))))
theorem sc_Deque_xinit : FnScope ["self", "items", "bound", "some"] ["self", "items", "bound"] (defScope (clsStmt (top 22) 0)) := ⟨rfl, rfl, rfl, by decide +kernel, rfl, by decide +kernel, by decide +kernel⟩
theorem ok_Deque_xinit {e0 : Addr} (he0 : ∀ H, SqT W.K H e0 []) (hW : W.ct = ct0) (hN : W.fn = fn0) (F : FnP W (clsStmt (top 22) 0) "__init__" "Deque.__init__" [.ref e0] [("bound", .non)] f fd) (b_max : mg "max" = none) (b_int : mg "int" = none) (b_len : mg "len" = none) (H_is_bound : Has P w mg base W 4 "is_bound" ["thing"] 1 f_is_bound [(1, [], [0], [])]) (XI_BadBound : HasXI P w mg base W 2 4 "BadBound") (H_checked : Has P w mg base W 10 "checked" ["items"] 1 f_checked [(1, [], [0], [])]) : FnB P w mg base W 12 f fd ["self", "items", "bound"] 3 f_Deque_xinit [(2, ["bound"], [0, 1, 3], [(.tup [])]), (2, [], [0, 1, 3], [(.tup []), .non])] := by
  have nd : (["self", "items", "bound", "some"] : List Str).Nodup := sc_Deque_xinit.nd
  refine ⟨F.kp, okE (fnD F sc_Deque_xinit rfl fun cdv A outer s H E hr tk => ?_) rfl, alC (bnP F 2 ["bound"] [0, 1, 3] (by simp) (fun io H => .cons (.tup (he0 H) .nil) (.nil)) fun _ _ _ _ _ _ _ us its ws h1 h2 h3 => match us, h1, its, h2, ws, h3 with | [_, _], _, [_], _, [_], _ => ⟨_, rfl, rfl⟩) (alC (bnPK F 2 [] [("bound", .non)] [0, 1, 3] (by simp) (by simp) (by simp) (fun io H => .cons (.tup (he0 H) .nil) (.cons (.non) (.nil))) fun _ _ _ _ _ _ _ us its mv ws h1 h2 h3 h4 => match us, h1, its, h2, mv, h3, ws, h4 with | [_, _], _, [_], _, [_], _, [], _ => ⟨_, rfl, ⟨_, _, _, _, _, _, rfl, rfl, rfl⟩⟩) alN)⟩
  exact (ssC (sIf (notD (tstD (callH H_is_bound 0 rfl rfl hr (by decide) rfl tk (aD (vv 2) nD) kNil)))
  (ss1 (sRaiseI XI_BadBound hr (by decide) rfl rfl tk (vv 2)))
  ss0) (ssC (sSet nd (i := 3) rfl (by trivial) (callH H_checked 0 rfl rfl hr (by decide) rfl tk (aD (vv 1) nD) kNil) trivial) (ssC (sSetF rfl (fnx hN (i := 0) rfl) (vv 0) (ifD (cmT oIs (vv 2) nD0 (nomark _)) (vv 3) (slcD rfl (vv 3) (prtD (bD (cMax rfl) b_max bt_max (aD iD (aD (yD cInt b_int bt_int (aD (opD oSub (bD (cLen rfl) b_len bt_len (aD (vv 3) nD)) (vv 2)) nD)) nD)))) noP))) (ssC (sSetF rfl (fnx hN (i := 1) rfl) (vv 0) (vv 2)) (ssC (sSetF rfl (fnx hN (i := 2) rfl) (vv 0) iD) (ss1 (sSetF rfl (fnx hN (i := 3) rfl) (vv 0) iD)))))))
theorem sc_Deque_is_full : FnScope ["self"] ["self"] (defScope (clsStmt (top 22) 14)) := ⟨rfl, rfl, rfl, by decide +kernel, rfl, by decide +kernel, by decide +kernel⟩
theorem ok_Deque_is_full (hW : W.ct = ct0) (hN : W.fn = fn0) (F : FnP W (clsStmt (top 22) 14) "is_full" "Deque.is_full" [] [] f fd) (b_len : mg "len" = none) : FnB P w mg base W 2 f fd ["self"] 1 f_Deque_is_full [(1, [], [0], [])] := by
  have nd : (["self"] : List Str).Nodup := sc_Deque_is_full.nd
  refine ⟨F.kp, okE (fnD F sc_Deque_is_full rfl fun cdv A outer s H E hr tk => ?_) rfl, alC (bnN F 1 [] [0] fun _ _ _ _ _ _ us ws h1 h2 => match us, h1, ws, h2 with | [_], _, [], _ => by kernel_rfl) alN⟩
  exact (ss1 (sRet (andVD (cmD oIsNot (fldD rfl (fnx hN (i := 1) rfl) (vv 0)) nD0 (nomark _)) (oneVD (cmD oGe (bD (cLen rfl) b_len bt_len (aD (fldD rfl (fnx hN (i := 0) rfl) (vv 0)) nD)) (fldD rfl (fnx hN (i := 1) rfl) (vv 0)) (nomark _))))))
theorem sc_Deque_note : FnScope ["self", "moves"] ["self", "moves"] (defScope (clsStmt (top 22) 13)) := ⟨rfl, rfl, rfl, by decide +kernel, rfl, by decide +kernel, by decide +kernel⟩
theorem ok_Deque_note (hW : W.ct = ct0) (hN : W.fn = fn0) (F : FnP W (clsStmt (top 22) 13) "note" "Deque.note" [] [] f fd)  : FnB P w mg base W 2 f fd ["self", "moves"] 2 f_Deque_note [(2, [], [0, 1], [])] := by
  have nd : (["self", "moves"] : List Str).Nodup := sc_Deque_note.nd
  refine ⟨F.kp, okE (fnD F sc_Deque_note rfl fun cdv A outer s H E hr tk => ?_) rfl, alC (bnN F 2 [] [0, 1] fun _ _ _ _ _ _ us ws h1 h2 => match us, h1, ws, h2 with | [_, _], _, [], _ => by kernel_rfl) alN⟩
  exact (ssC (sAugF inAdd rfl (fnx hN (i := 2) rfl) (vv 0) (vv 1)) (ss1 (sAugF inAdd rfl (fnx hN (i := 3) rfl) (vv 0) iD)))
theorem sc_Deque_added : FnScope ["self", "item", "place", "out", "fallen"] ["self", "item", "place", "out"] (defScope (clsStmt (top 22) 17)) := ⟨rfl, rfl, rfl, by decide +kernel, rfl, by decide +kernel, by decide +kernel⟩
theorem ok_Deque_added (hW : W.ct = ct0) (hN : W.fn = fn0) (F : FnP W (clsStmt (top 22) 17) "added" "Deque.added" [] [] f fd) (b_len : mg "len" = none) (M_Deque_Deque_is_full : HasM P w mg base W 2 0 "is_full" ["self"] 1 f_Deque_is_full [(1, [], [0], [])]) (M_Deque_Deque_note : HasM P w mg base W 2 0 "note" ["self", "moves"] 2 f_Deque_note [(2, [], [0, 1], [])]) : FnB P w mg base W 4 f fd ["self", "item", "place", "out"] 4 f_Deque_added [(4, [], [0, 1, 2, 3], [])] := by
  have nd : (["self", "item", "place", "out", "fallen"] : List Str).Nodup := sc_Deque_added.nd
  refine ⟨F.kp, okE (fnD F sc_Deque_added rfl fun cdv A outer s H E hr tk => ?_) rfl, alC (bnN F 4 [] [0, 1, 2, 3] fun _ _ _ _ _ _ us ws h1 h2 => match us, h1, ws, h2 with | [_, _, _, _], _, [], _ => by kernel_rfl) alN⟩
  exact (ssC (sIf (cmT (oEq rfl (ru hr)) (fldD rfl (fnx hN (i := 1) rfl) (vv 0)) iD (nomark _))
  (ss1 (sRet (lstD (aD (vv 1) nD))))
  ss0) (ssC (sSet nd (i := 4) rfl (by trivial) (ifD (tstD (methD0 M_Deque_Deque_is_full 0 rfl rfl hr (by decide) rfl (fnn hN (by decide)) tk (vv 0) kNil)) (lstD (aD (ixD (xIdx rfl (ru1 hr)) (fldD rfl (fnx hN (i := 0) rfl) (vv 0)) (vv 3) fun _ _ => rfl) nD)) (lstD nD)) trivial) (ssC (sExpr (mD rfl PySem.F.plainAttrs_list PySem.F.slot_list_insert meInsert (fldD rfl (fnx hN (i := 0) rfl) (vv 0)) (aD (vv 2) (aD (vv 1) nD)))) (ssC (sIf (cmT (oNe rfl (ru hr)) (vv 4) (lstD nD) (nomark _))
  (ss1 (sExpr (mD rfl PySem.F.plainAttrs_list PySem.F.slot_list_pop mePop (fldD rfl (fnx hN (i := 0) rfl) (vv 0)) (aD (vv 3) nD))))
  ss0) (ssC (sExpr (methD M_Deque_Deque_note 0 rfl rfl hr (by decide) rfl (fnn hN (by decide)) tk (vv 0) (aD (opD (oAdd rfl) iD (bD (cLen rfl) b_len bt_len (aD (vv 4) nD))) nD) kNil)) (ss1 (sRet (vv 4))))))))
theorem sc_Deque_append : FnScope ["self", "item"] ["self", "item"] (defScope (clsStmt (top 22) 15)) := ⟨rfl, rfl, rfl, by decide +kernel, rfl, by decide +kernel, by decide +kernel⟩
theorem ok_Deque_append (hW : W.ct = ct0) (hN : W.fn = fn0) (F : FnP W (clsStmt (top 22) 15) "append" "Deque.append" [] [] f fd) (b_len : mg "len" = none) (H_need_item : Has P w mg base W 8 "need_item" ["thing"] 1 f_need_item [(1, [], [0], [])]) (M_Deque_Deque_added : HasM P w mg base W 4 0 "added" ["self", "item", "place", "out"] 4 f_Deque_added [(4, [], [0, 1, 2, 3], [])]) : FnB P w mg base W 10 f fd ["self", "item"] 2 f_Deque_append [(2, [], [0, 1], [])] := by
  have nd : (["self", "item"] : List Str).Nodup := sc_Deque_append.nd
  refine ⟨F.kp, okE (fnD F sc_Deque_append rfl fun cdv A outer s H E hr tk => ?_) rfl, alC (bnN F 2 [] [0, 1] fun _ _ _ _ _ _ us ws h1 h2 => match us, h1, ws, h2 with | [_, _], _, [], _ => by kernel_rfl) alN⟩
  exact (ssC (sExpr (callH H_need_item 0 rfl rfl hr (by decide) rfl tk (aD (vv 1) nD) kNil)) (ss1 (sRet (methD M_Deque_Deque_added 0 rfl rfl hr (by decide) rfl (fnn hN (by decide)) tk (vv 0) (aD (vv 1) (aD (bD (cLen rfl) b_len bt_len (aD (fldD rfl (fnx hN (i := 0) rfl) (vv 0)) nD)) (aD iD nD))) kNil))))
theorem sc_Deque_append_left : FnScope ["self", "item"] ["self", "item"] (defScope (clsStmt (top 22) 16)) := ⟨rfl, rfl, rfl, by decide +kernel, rfl, by decide +kernel, by decide +kernel⟩
theorem ok_Deque_append_left (hW : W.ct = ct0) (hN : W.fn = fn0) (F : FnP W (clsStmt (top 22) 16) "append_left" "Deque.append_left" [] [] f fd) (H_need_item : Has P w mg base W 8 "need_item" ["thing"] 1 f_need_item [(1, [], [0], [])]) (M_Deque_Deque_added : HasM P w mg base W 4 0 "added" ["self", "item", "place", "out"] 4 f_Deque_added [(4, [], [0, 1, 2, 3], [])]) : FnB P w mg base W 10 f fd ["self", "item"] 2 f_Deque_append_left [(2, [], [0, 1], [])] := by
  have nd : (["self", "item"] : List Str).Nodup := sc_Deque_append_left.nd
  refine ⟨F.kp, okE (fnD F sc_Deque_append_left rfl fun cdv A outer s H E hr tk => ?_) rfl, alC (bnN F 2 [] [0, 1] fun _ _ _ _ _ _ us ws h1 h2 => match us, h1, ws, h2 with | [_, _], _, [], _ => by kernel_rfl) alN⟩
  exact (ssC (sExpr (callH H_need_item 0 rfl rfl hr (by decide) rfl tk (aD (vv 1) nD) kNil)) (ss1 (sRet (methD M_Deque_Deque_added 0 rfl rfl hr (by decide) rfl (fnn hN (by decide)) tk (vv 0) (aD (vv 1) (aD iD (aD (unD uNeg iD) nD))) kNil))))
theorem sc_Deque_extend : FnScope ["self", "items", "fallen", "item"] ["self", "items"] (defScope (clsStmt (top 22) 18)) := ⟨rfl, rfl, rfl, by decide +kernel, rfl, by decide +kernel, by decide +kernel⟩
theorem ok_Deque_extend (hW : W.ct = ct0) (hN : W.fn = fn0) (F : FnP W (clsStmt (top 22) 18) "extend" "Deque.extend" [] [] f fd) (H_checked : Has P w mg base W 10 "checked" ["items"] 1 f_checked [(1, [], [0], [])]) (M_Deque_Deque_append : HasM P w mg base W 10 0 "append" ["self", "item"] 2 f_Deque_append [(2, [], [0, 1], [])]) : FnB P w mg base W 12 f fd ["self", "items"] 2 f_Deque_extend [(2, [], [0, 1], [])] := by
  have nd : (["self", "items", "fallen", "item"] : List Str).Nodup := sc_Deque_extend.nd
  refine ⟨F.kp, okE (fnD F sc_Deque_extend rfl fun cdv A outer s H E hr tk => ?_) rfl, alC (bnN F 2 [] [0, 1] fun _ _ _ _ _ _ us ws h1 h2 => match us, h1, ws, h2 with | [_, _], _, [], _ => by kernel_rfl) alN⟩
  exact (ssC (sSet nd (i := 2) rfl (by trivial) (lstD nD) trivial) (ssC (sFor (passes_of rfl) rfl (srcD rfl (callH H_checked 0 rfl rfl hr (by decide) rfl tk (aD (vv 1) nD) kNil)) (gN nd rfl (by trivial) trivial (fun _ _ => trivial))
  (ss1 (sExpr (mD rfl PySem.F.plainAttrs_list PySem.F.slot_list_extend meExtend (vv 2) (aD (methD M_Deque_Deque_append 0 rfl rfl hr (by decide) rfl (fnn hN (by decide)) tk (vv 0) (aD (vv 3) nD) kNil) nD))))) (ss1 (sRet (vv 2)))))
theorem sc_Deque_extend_left : FnScope ["self", "items", "fallen", "item"] ["self", "items"] (defScope (clsStmt (top 22) 19)) := ⟨rfl, rfl, rfl, by decide +kernel, rfl, by decide +kernel, by decide +kernel⟩
theorem ok_Deque_extend_left (hW : W.ct = ct0) (hN : W.fn = fn0) (F : FnP W (clsStmt (top 22) 19) "extend_left" "Deque.extend_left" [] [] f fd) (H_checked : Has P w mg base W 10 "checked" ["items"] 1 f_checked [(1, [], [0], [])]) (M_Deque_Deque_append_left : HasM P w mg base W 10 0 "append_left" ["self", "item"] 2 f_Deque_append_left [(2, [], [0, 1], [])]) : FnB P w mg base W 12 f fd ["self", "items"] 2 f_Deque_extend_left [(2, [], [0, 1], [])] := by
  have nd : (["self", "items", "fallen", "item"] : List Str).Nodup := sc_Deque_extend_left.nd
  refine ⟨F.kp, okE (fnD F sc_Deque_extend_left rfl fun cdv A outer s H E hr tk => ?_) rfl, alC (bnN F 2 [] [0, 1] fun _ _ _ _ _ _ us ws h1 h2 => match us, h1, ws, h2 with | [_, _], _, [], _ => by kernel_rfl) alN⟩
  exact (ssC (sSet nd (i := 2) rfl (by trivial) (lstD nD) trivial) (ssC (sFor (passes_of rfl) rfl (srcD rfl (callH H_checked 0 rfl rfl hr (by decide) rfl tk (aD (vv 1) nD) kNil)) (gN nd rfl (by trivial) trivial (fun _ _ => trivial))
  (ss1 (sExpr (mD rfl PySem.F.plainAttrs_list PySem.F.slot_list_extend meExtend (vv 2) (aD (methD M_Deque_Deque_append_left 0 rfl rfl hr (by decide) rfl (fnn hN (by decide)) tk (vv 0) (aD (vv 3) nD) kNil) nD))))) (ss1 (sRet (vv 2)))))
theorem sc_place_in : FnScope ["index", "size"] ["index", "size"] (defScope (top 21)) := ⟨rfl, rfl, rfl, by decide +kernel, rfl, by decide +kernel, by decide +kernel⟩
theorem ok_place_in (hW : W.ct = ct0) (hN : W.fn = fn0) (F : FnP W (top 21) "place_in" "place_in" [] [] f fd) (b_max : mg "max" = none) (b_int : mg "int" = none) (b_min : mg "min" = none) : FnB P w mg base W 2 f fd ["index", "size"] 2 f_place_in [(2, [], [0, 1], [])] := by
  have nd : (["index", "size"] : List Str).Nodup := sc_place_in.nd
  refine ⟨F.kp, okE (fnD F sc_place_in rfl fun cdv A outer s H E hr tk => ?_) rfl, alC (bnN F 2 [] [0, 1] fun _ _ _ _ _ _ us ws h1 h2 => match us, h1, ws, h2 with | [_, _], _, [], _ => by kernel_rfl) alN⟩
  exact (ssC (sIf (cmT oLt (vv 0) iD (nomark _))
  (ss1 (sRet (bD (cMax rfl) b_max bt_max (aD iD (aD (yD cInt b_int bt_int (aD (opD (oAdd rfl) (vv 1) (vv 0)) nD)) nD)))))
  ss0) (ss1 (sRet (bD (cMin rfl) b_min bt_min (aD (yD cInt b_int bt_int (aD (vv 0) nD)) (aD (yD cInt b_int bt_int (aD (vv 1) nD)) nD))))))
theorem sc_Deque_insert : FnScope ["self", "index", "item", "size", "place"] ["self", "index", "item"] (defScope (clsStmt (top 22) 24)) := ⟨rfl, rfl, rfl, by decide +kernel, rfl, by decide +kernel, by decide +kernel⟩
theorem ok_Deque_insert (hW : W.ct = ct0) (hN : W.fn = fn0) (F : FnP W (clsStmt (top 22) 24) "insert" "Deque.insert" [] [] f fd) (b_len : mg "len" = none) (b_min : mg "min" = none) (b_int : mg "int" = none) (H_is_integer : Has P w mg base W 2 "is_integer" ["thing"] 1 f_is_integer [(1, [], [0], [])]) (XI_BadIndex : HasXI P w mg base W 3 4 "BadIndex") (H_need_item : Has P w mg base W 8 "need_item" ["thing"] 1 f_need_item [(1, [], [0], [])]) (M_Deque_Deque_is_full : HasM P w mg base W 2 0 "is_full" ["self"] 1 f_Deque_is_full [(1, [], [0], [])]) (X0_Full : HasX0 mg W 6 "Full") (H_place_in : Has P w mg base W 2 "place_in" ["index", "size"] 2 f_place_in [(2, [], [0, 1], [])]) (M_Deque_Deque_note : HasM P w mg base W 2 0 "note" ["self", "moves"] 2 f_Deque_note [(2, [], [0, 1], [])]) : FnB P w mg base W 10 f fd ["self", "index", "item"] 3 f_Deque_insert [(3, [], [0, 1, 2], [])] := by
  have nd : (["self", "index", "item", "size", "place"] : List Str).Nodup := sc_Deque_insert.nd
  refine ⟨F.kp, okE (fnD F sc_Deque_insert rfl fun cdv A outer s H E hr tk => ?_) rfl, alC (bnN F 3 [] [0, 1, 2] fun _ _ _ _ _ _ us ws h1 h2 => match us, h1, ws, h2 with | [_, _, _], _, [], _ => by kernel_rfl) alN⟩
  exact (ssC (sIf (notD (tstD (callH H_is_integer 0 rfl rfl hr (by decide) rfl tk (aD (vv 1) nD) kNil)))
  (ss1 (sRaiseI XI_BadIndex hr (by decide) rfl rfl tk (vv 1)))
  ss0) (ssC (sExpr (callH H_need_item 0 rfl rfl hr (by decide) rfl tk (aD (vv 2) nD) kNil)) (ssC (sIf (tstD (methD0 M_Deque_Deque_is_full 0 rfl rfl hr (by decide) rfl (fnn hN (by decide)) tk (vv 0) kNil))
  (ss1 (sRaise0 X0_Full rfl rfl tk))
  ss0) (ssC (sSet nd (i := 3) rfl (by trivial) (bD (cLen rfl) b_len bt_len (aD (fldD rfl (fnx hN (i := 0) rfl) (vv 0)) nD)) trivial) (ssC (sSet nd (i := 4) rfl (by trivial) (callH H_place_in 0 rfl rfl hr (by decide) rfl tk (aD (vv 1) (aD (vv 3) nD)) kNil) trivial) (ssC (sExpr (mD rfl PySem.F.plainAttrs_list PySem.F.slot_list_insert meInsert (fldD rfl (fnx hN (i := 0) rfl) (vv 0)) (aD (vv 4) (aD (vv 2) nD)))) (ss1 (sExpr (methD M_Deque_Deque_note 0 rfl rfl hr (by decide) rfl (fnn hN (by decide)) tk (vv 0) (aD (opD (oAdd rfl) iD (bD (cMin rfl) b_min bt_min (aD (yD cInt b_int bt_int (aD (vv 4) nD)) (aD (yD cInt b_int bt_int (aD (opD oSub (vv 3) (vv 4)) nD)) nD)))) nD) kNil)))))))))
theorem sc__law_error : FnScope ["_law_call", "e"] ["_law_call"] (defScope (top 34)) := ⟨rfl, rfl, rfl, by decide +kernel, rfl, by decide +kernel, by decide +kernel⟩
theorem ok__law_error (hW : W.ct = ct0) (hN : W.fn = fn0) (F : FnP W (top 34) "_law_error" "_law_error" [] [] f fd) (mgf : mg "_law_error" = some (.ref f)) (k_Full : mg "Full" = some (.ref (W.cl 6))) (b_isinstance : mg "isinstance" = none) (b_IndexError : mg "IndexError" = none) (k_Empty : mg "Empty" = some (.ref (W.cl 5))) (k_NotFound : mg "NotFound" = some (.ref (W.cl 4))) (b_repr : mg "repr" = none) (b_LookupError : mg "LookupError" = none) (k_BadIndex : mg "BadIndex" = some (.ref (W.cl 3))) (k_BadBound : mg "BadBound" = some (.ref (W.cl 2))) (k_CountError : mg "CountError" = some (.ref (W.cl 7))) (k_BadItem : mg "BadItem" = some (.ref (W.cl 1))) (b_ValueError : mg "ValueError" = none) (XW : XWd W xt0) (XO_CountError : XOk W xt0 7) : HasL P w mg base W 2 "_law_error" true f__law_error := by
  have nd : (["_law_call", "e"] : List Str).Nodup := sc__law_error.nd
  refine ⟨f, fd, _, _, _, ["_law_call", "e"], "_law_call", p__law_error, mgf, F, fun s us _ hl => ?_, sc__law_error, rfl, Or.inl rfl, by decide, by decide, rfl, fun cdv A outer s H E hgl hr tk fL cL qL io0 H0 act tl AP AS => ?_⟩
  · rw [List.append_nil] at hl ⊢
    exact FunD.bindsA (ps := ["_law_call"]) F (fun _ _ _ _ _ _ us hl => match us, hl with | [_], _ => rfl) s us hl
  · have hgd := hgl rfl
    exact (ssC (sTryG ml_mz XW rfl rfl rfl tk (fun E1 pn xe tkt pxt =>
  (ss1 (sExpr (actD AP AS tkt)))) (.as ⟨rfl, by decide, .inl k_BadItem⟩ (by decide) (by decide) (by show _ ≠ 0; decide) nd rfl rfl (fun a oe pn t fs d t1 t2 z1 z2 => (ss1 (sRet (lstD (aD sD (aD (andVD (isOD XO_CountError XW rfl t1 t2 z1 z2 b_isinstance (vt 1) k_CountError) (oneVD (isXDG XW rfl t1 t2 z1 z2 b_isinstance (vt 1) b_ValueError bt_ValueError))) (aD (altD (bD (cRepr rfl hgd (ruH hr)) b_repr bt_repr (aD (xfDG XW rfl t1 t2 z1 z2 (fnx hN (i := 4) rfl) (vt 1)) nD)) (bD (cReprS (ruH hr)) b_repr bt_repr (aD (xfDG XW rfl t1 t2 z1 z2 (fnx hN (i := 4) rfl) (vt 1)) nD))) nD))))))) (.as ⟨rfl, by decide, .inl k_BadBound⟩ (by decide) (by decide) (by show _ ≠ 0; decide) nd rfl rfl (fun a oe pn t fs d t1 t2 z1 z2 => (ss1 (sRet (lstD (aD sD (aD (isOD XO_CountError XW rfl t1 t2 z1 z2 b_isinstance (vt 1) k_CountError) (aD (altD (bD (cRepr rfl hgd (ruH hr)) b_repr bt_repr (aD (xfDG XW rfl t1 t2 z1 z2 (fnx hN (i := 4) rfl) (vt 1)) nD)) (bD (cReprS (ruH hr)) b_repr bt_repr (aD (xfDG XW rfl t1 t2 z1 z2 (fnx hN (i := 4) rfl) (vt 1)) nD))) nD))))))) (.as ⟨rfl, by decide, .inl k_BadIndex⟩ (by decide) (by decide) (by show _ ≠ 0; decide) nd rfl rfl (fun a oe pn t fs d t1 t2 z1 z2 => (ss1 (sRet (lstD (aD sD (aD (isXDG XW rfl t1 t2 z1 z2 b_isinstance (vt 1) b_IndexError bt_IndexError) (aD (altD (bD (cRepr rfl hgd (ruH hr)) b_repr bt_repr (aD (xfDG XW rfl t1 t2 z1 z2 (fnx hN (i := 4) rfl) (vt 1)) nD)) (bD (cReprS (ruH hr)) b_repr bt_repr (aD (xfDG XW rfl t1 t2 z1 z2 (fnx hN (i := 4) rfl) (vt 1)) nD))) nD))))))) (.as ⟨rfl, by decide, .inl k_NotFound⟩ (by decide) (by decide) (by show _ ≠ 0; decide) nd rfl rfl (fun a oe pn t fs d t1 t2 z1 z2 => (ss1 (sRet (lstD (aD sD (aD (isXDG XW rfl t1 t2 z1 z2 b_isinstance (vt 1) b_LookupError bt_LookupError) (aD (altD (bD (cRepr rfl hgd (ruH hr)) b_repr bt_repr (aD (xfDG XW rfl t1 t2 z1 z2 (fnx hN (i := 4) rfl) (vt 1)) nD)) (bD (cReprS (ruH hr)) b_repr bt_repr (aD (xfDG XW rfl t1 t2 z1 z2 (fnx hN (i := 4) rfl) (vt 1)) nD))) nD))))))) (.as ⟨rfl, by decide, .inl k_Empty⟩ (by decide) (by decide) (by show _ ≠ 0; decide) nd rfl rfl (fun a oe pn t fs d t1 t2 z1 z2 => (ss1 (sRet (lstD (aD sD (aD (isXDG XW rfl t1 t2 z1 z2 b_isinstance (vt 1) b_IndexError bt_IndexError) (aD sD nD))))))) (.as ⟨rfl, by decide, .inl k_Full⟩ (by decide) (by decide) (by show _ ≠ 0; decide) nd rfl rfl (fun a oe pn t fs d t1 t2 z1 z2 => (ss1 (sRet (lstD (aD sD (aD (isXDG XW rfl t1 t2 z1 z2 b_isinstance (vt 1) b_IndexError bt_IndexError) (aD sD nD))))))) .nil))))))) (ss1 (sRet nD0)))
theorem sc__law_items_refused : FnScope ["_law_deque", "_law_odd", "_law_due", "_law_calls", "_law_call"] ["_law_deque", "_law_odd"] (defScope (top 35)) := ⟨rfl, rfl, rfl, by decide +kernel, rfl, by decide +kernel, by decide +kernel⟩
theorem ok__law_items_refused {cL pL : Addr} (TB : LamX.TabB base mg cL pL) (hcd : fd.code = .ref cL) (hmT : (pL, (("_law_items_refused" : Str) ++ (".<locals>." : Str) ++ ("<lambda>" : Str))) ∈ W.T) (hu : ∀ p ∈ W.T, p.1 = pL → p.2 = (("_law_items_refused" : Str) ++ (".<locals>." : Str) ++ ("<lambda>" : Str))) (hW : W.ct = ct0) (hN : W.fn = fn0) (F : FnP W (top 35) "_law_items_refused" "_law_items_refused" [] [] f fd) (b_repr : mg "repr" = none) (M_Deque_Deque_append : HasM P w mg base W 10 0 "append" ["self", "item"] 2 f_Deque_append [(2, [], [0, 1], [])]) (M_Deque_Deque_append_left : HasM P w mg base W 10 0 "append_left" ["self", "item"] 2 f_Deque_append_left [(2, [], [0, 1], [])]) (M_Deque_Deque_extend : HasM P w mg base W 12 0 "extend" ["self", "items"] 2 f_Deque_extend [(2, [], [0, 1], [])]) (M_Deque_Deque_extend_left : HasM P w mg base W 12 0 "extend_left" ["self", "items"] 2 f_Deque_extend_left [(2, [], [0, 1], [])]) (M_Deque_Deque_insert : HasM P w mg base W 10 0 "insert" ["self", "index", "item"] 3 f_Deque_insert [(3, [], [0, 1, 2], [])]) (C_Deque : HasC P w mg base W 12 0 "Deque" ["self", "items", "bound"] 3 f_Deque_xinit [(2, ["bound"], [0, 1, 3], [(.tup [])]), (2, [], [0, 1, 3], [(.tup []), .non])]) (L__law_error : HasL P w mg base W 2 "_law_error" true f__law_error) : FnBG P w mg base W 17 f fd ["_law_deque", "_law_odd"] 2 f__law_items_refused [(2, [], [0, 1], [])] := by
  have nd : (["_law_deque", "_law_odd", "_law_due", "_law_calls", "_law_call"] : List Str).Nodup := sc__law_items_refused.nd
  refine ⟨F.kp, fnDLG F sc__law_items_refused rfl hcd fun A outer s H E hgd hr tk => ?_, alC (bnN F 2 [] [0, 1] fun _ _ _ _ _ _ us ws h1 h2 => match us, h1, ws, h2 with | [_, _], _, [], _ => by kernel_rfl) alN⟩
  exact (ssC (sSet nd (i := 2) rfl (by trivial) (lstD (aD sD (aD bD0 (aD (bD (cRepr rfl hgd (ru5 hr)) b_repr bt_repr (aD (vv 1) nD)) nD)))) trivial) (lamsD (ps_set nd (i := 3) rfl (by trivial) (pe_lst (pa_cons (pe_fn (d := e__law_items_refused_1) (LamX.lamS_by (by rfl)) rfl TB rfl hmT hu) pa_nil))) (lamAppD (ps_expr (pe_bm PySem.F.plainAttrs_list PySem.F.slot_list_append rfl mt_append (vt 3) (pa_cons (pe_fn (d := e__law_items_refused_2) (LamX.lamS_by (by rfl)) rfl TB rfl hmT hu) pa_nil))) (lamAppD (ps_expr (pe_bm PySem.F.plainAttrs_list PySem.F.slot_list_append rfl mt_append (vt 3) (pa_cons (pe_fn (d := e__law_items_refused_3) (LamX.lamS_by (by rfl)) rfl TB rfl hmT hu) pa_nil))) (lamAppD (ps_expr (pe_bm PySem.F.plainAttrs_list PySem.F.slot_list_append rfl mt_append (vt 3) (pa_cons (pe_fn (d := e__law_items_refused_4) (LamX.lamS_by (by rfl)) rfl TB rfl hmT hu) pa_nil))) (lamAppD (ps_expr (pe_bm PySem.F.plainAttrs_list PySem.F.slot_list_append rfl mt_append (vt 3) (pa_cons (pe_fn (d := e__law_items_refused_5) (LamX.lamS_by (by rfl)) rfl TB rfl hmT hu) pa_nil))) (lamAppD (ps_expr (pe_bm PySem.F.plainAttrs_list PySem.F.slot_list_append rfl mt_append (vt 3) (pa_cons (pe_fn (d := e__law_items_refused_6) (LamX.lamS_by (by rfl)) rfl TB rfl hmT hu) pa_nil))) (lamEndD
  (ss1 (sRet (cmD (oEq rfl (ru hr)) (fcD rfl nd rfl (vt 3) (blkOk (by kernel_rfl)) (fun _ _ _ _ _ => pg_name nd (i := 4) rfl (by trivial)) (.cons (fun pn2 σ2 s2 H2 C2 cl2 fp2 I2 f2 => (oneT (cmT (oNe rfl (ru hr)) (fnCallD (kb := 11) L__law_error (fun _ => hgd) rfl hr (by decide) (by decide) ⟨LamX.lamS_by (by rfl), rfl, fun _ _ _ _ _ => rfl, fun A2 o2 s2 H2 E2 f2 c2 hr tkL => (methD M_Deque_Deque_append 0 rfl rfl hr (by decide) rfl (fnn hN (by decide)) tkL (vv 0) (aD (vv 1) nD) kNil)⟩ I2 f2 (vt 4) rfl rfl rfl rfl) (vv 2) (nomark _)))) (fun pn2 σ2 s2 H2 C2 cl2 fp2 I2 f2 => noD)
  (.cons (fun pn2 σ2 s2 H2 C2 cl2 fp2 I2 f2 => (oneT (cmT (oNe rfl (ru hr)) (fnCallD (kb := 11) L__law_error (fun _ => hgd) rfl hr (by decide) (by decide) ⟨LamX.lamS_by (by rfl), rfl, fun _ _ _ _ _ => rfl, fun A2 o2 s2 H2 E2 f2 c2 hr tkL => (methD M_Deque_Deque_append_left 0 rfl rfl hr (by decide) rfl (fnn hN (by decide)) tkL (vv 0) (aD (vv 1) nD) kNil)⟩ I2 f2 (vt 4) rfl rfl rfl rfl) (vv 2) (nomark _)))) (fun pn2 σ2 s2 H2 C2 cl2 fp2 I2 f2 => noD)
  (.cons (fun pn2 σ2 s2 H2 C2 cl2 fp2 I2 f2 => (oneT (cmT (oNe rfl (ru hr)) (fnCallD (kb := 13) L__law_error (fun _ => hgd) rfl hr (by decide) (by decide) ⟨LamX.lamS_by (by rfl), rfl, fun _ _ _ _ _ => rfl, fun A2 o2 s2 H2 E2 f2 c2 hr tkL => (methD M_Deque_Deque_extend 0 rfl rfl hr (by decide) rfl (fnn hN (by decide)) tkL (vv 0) (aD (lstD (aD iD (aD (vv 1) (aD bD0 nD)))) nD) kNil)⟩ I2 f2 (vt 4) rfl rfl rfl rfl) (vv 2) (nomark _)))) (fun pn2 σ2 s2 H2 C2 cl2 fp2 I2 f2 => noD)
  (.cons (fun pn2 σ2 s2 H2 C2 cl2 fp2 I2 f2 => (oneT (cmT (oNe rfl (ru hr)) (fnCallD (kb := 13) L__law_error (fun _ => hgd) rfl hr (by decide) (by decide) ⟨LamX.lamS_by (by rfl), rfl, fun _ _ _ _ _ => rfl, fun A2 o2 s2 H2 E2 f2 c2 hr tkL => (methD M_Deque_Deque_extend_left 0 rfl rfl hr (by decide) rfl (fnn hN (by decide)) tkL (vv 0) (aD (tupD (aD (vv 1) (aD nD0 nD))) nD) kNil)⟩ I2 f2 (vt 4) rfl rfl rfl rfl) (vv 2) (nomark _)))) (fun pn2 σ2 s2 H2 C2 cl2 fp2 I2 f2 => noD)
  (.cons (fun pn2 σ2 s2 H2 C2 cl2 fp2 I2 f2 => (oneT (cmT (oNe rfl (ru hr)) (fnCallD (kb := 11) L__law_error (fun _ => hgd) rfl hr (by decide) (by decide) ⟨LamX.lamS_by (by rfl), rfl, fun _ _ _ _ _ => rfl, fun A2 o2 s2 H2 E2 f2 c2 hr tkL => (methD M_Deque_Deque_insert 0 rfl rfl hr (by decide) rfl (fnn hN (by decide)) tkL (vv 0) (aD iD (aD (vv 1) nD)) kNil)⟩ I2 f2 (vt 4) rfl rfl rfl rfl) (vv 2) (nomark _)))) (fun pn2 σ2 s2 H2 C2 cl2 fp2 I2 f2 => noD)
  (.cons (fun pn2 σ2 s2 H2 C2 cl2 fp2 I2 f2 => (oneT (cmT (oNe rfl (ru hr)) (fnCallD (kb := 13) L__law_error (fun _ => hgd) rfl hr (by decide) (by decide) ⟨LamX.lamS_by (by rfl), rfl, fun _ _ _ _ _ => rfl, fun A2 o2 s2 H2 E2 f2 c2 hr tkL => (makeC C_Deque 1 rfl rfl hr (by decide) rfl tkL (aD (lstD (aD iD (aD sD (aD (vv 1) (aD nD0 nD))))) nD) kNil)⟩ I2 f2 (vt 4) rfl rfl rfl rfl) (vv 2) (nomark _)))) (fun pn2 σ2 s2 H2 C2 cl2 fp2 I2 f2 => noD)
  .nil))))))) (lstD nD) (nomark _))))) (by decide)) (by decide)) (by decide)) (by decide)) (by decide))))
theorem sc_Deque_xcontains : FnScope ["self", "item"] ["self", "item"] (defScope (clsStmt (top 22) 2)) := ⟨rfl, rfl, rfl, by decide +kernel, rfl, by decide +kernel, by decide +kernel⟩
theorem ok_Deque_xcontains (hW : W.ct = ct0) (hN : W.fn = fn0) (F : FnP W (clsStmt (top 22) 2) "__contains__" "Deque.__contains__" [] [] f fd) (H_is_item : Has P w mg base W 6 "is_item" ["thing"] 1 f_is_item [(1, [], [0], [])]) : FnB P w mg base W 8 f fd ["self", "item"] 2 f_Deque_xcontains [(2, [], [0, 1], [])] := by
  have nd : (["self", "item"] : List Str).Nodup := sc_Deque_xcontains.nd
  refine ⟨F.kp, okE (fnD F sc_Deque_xcontains rfl fun cdv A outer s H E hr tk => ?_) rfl, alC (bnN F 2 [] [0, 1] fun _ _ _ _ _ _ us ws h1 h2 => match us, h1, ws, h2 with | [_, _], _, [], _ => by kernel_rfl) alN⟩
  exact (ss1 (sRet (andVD (callH H_is_item 0 rfl rfl hr (by decide) rfl tk (aD (vv 1) nD) kNil) (oneVD (cmD (oIn rfl (ru5 hr)) (vv 1) (fldD rfl (fnx hN (i := 0) rfl) (vv 0)) rfl)))))
theorem sc_Deque_count : FnScope ["self", "item"] ["self", "item"] (defScope (clsStmt (top 22) 31)) := ⟨rfl, rfl, rfl, by decide +kernel, rfl, by decide +kernel, by decide +kernel⟩
theorem ok_Deque_count (hW : W.ct = ct0) (hN : W.fn = fn0) (F : FnP W (clsStmt (top 22) 31) "count" "Deque.count" [] [] f fd) (H_is_item : Has P w mg base W 6 "is_item" ["thing"] 1 f_is_item [(1, [], [0], [])]) : FnB P w mg base W 8 f fd ["self", "item"] 2 f_Deque_count [(2, [], [0, 1], [])] := by
  have nd : (["self", "item"] : List Str).Nodup := sc_Deque_count.nd
  refine ⟨F.kp, okE (fnD F sc_Deque_count rfl fun cdv A outer s H E hr tk => ?_) rfl, alC (bnN F 2 [] [0, 1] fun _ _ _ _ _ _ us ws h1 h2 => match us, h1, ws, h2 with | [_, _], _, [], _ => by kernel_rfl) alN⟩
  exact (ss1 (sRet (ifD (tstD (callH H_is_item 0 rfl rfl hr (by decide) rfl tk (aD (vv 1) nD) kNil)) (mD rfl PySem.F.plainAttrs_list PySem.F.slot_list_count (meCount rfl (ru5 hr)) (fldD rfl (fnx hN (i := 0) rfl) (vv 0)) (aD (vv 1) nD)) iD)))
theorem sc_Deque_index : FnScope ["self", "item", "begin", "end", "size", "first", "last"] ["self", "item", "begin", "end"] (defScope (clsStmt (top 22) 30)) := ⟨rfl, rfl, rfl, by decide +kernel, rfl, by decide +kernel, by decide +kernel⟩
theorem ok_Deque_index (hW : W.ct = ct0) (hN : W.fn = fn0) (F : FnP W (clsStmt (top 22) 30) "index" "Deque.index" [(.int 0), .non] [] f fd) (b_len : mg "len" = none) (H_place_in : Has P w mg base W 2 "place_in" ["index", "size"] 2 f_place_in [(2, [], [0, 1], [])]) (O_Deque_Deque_xcontains : HasO P w mg base W 8 0 "__contains__" ["self", "item"] 2 f_Deque_xcontains) (XI_NotFound : HasXI P w mg base W 4 4 "NotFound") : FnB P w mg base W 10 f fd ["self", "item", "begin", "end"] 4 f_Deque_index [(2, [], [0, 1, 2, 3], [(.int 0), .non])] := by
  have nd : (["self", "item", "begin", "end", "size", "first", "last"] : List Str).Nodup := sc_Deque_index.nd
  refine ⟨F.kp, okE (fnD F sc_Deque_index rfl fun cdv A outer s H E hr tk => ?_) rfl, alC (bnP F 2 [] [0, 1, 2, 3] (by simp) (fun io H => .cons (.int _) (.cons (.non) (.nil))) fun _ _ _ _ _ _ _ us its ws h1 h2 h3 => match us, h1, its, h2, ws, h3 with | [_, _], _, [_, _], _, [], _ => ⟨_, rfl, rfl⟩) alN⟩
  exact (ssC (sSet nd (i := 4) rfl (by trivial) (bD (cLen rfl) b_len bt_len (aD (fldD rfl (fnx hN (i := 0) rfl) (vv 0)) nD)) trivial) (ssC (sSet nd (i := 5) rfl (by trivial) (callH H_place_in 0 rfl rfl hr (by decide) rfl tk (aD (vv 2) (aD (vv 4) nD)) kNil) trivial) (ssC (sSet nd (i := 6) rfl (by trivial) (ifD (cmT oIs (vv 3) nD0 (nomark _)) (vv 4) (callH H_place_in 0 rfl rfl hr (by decide) rfl tk (aD (vv 3) (aD (vv 4) nD)) kNil)) trivial) (ssC (sIf (ptW (andD (cmpXT (inX O_Deque_Deque_xcontains hr (by decide) rfl tk) (vv 1) (vv 0) rfl) (and1D (cmT (oIn rfl (ru5 hr)) (vv 1) (slcD rfl (fldD rfl (fnx hN (i := 0) rfl) (vv 0)) (prtD (vv 5)) (prtD (vv 6))) rfl))))
  (ss1 (sRet (opD (oAdd rfl) (vv 5) (mD rfl PySem.F.plainAttrs_list PySem.F.slot_list_index (meIndex rfl (ru5 hr)) (slcD rfl (fldD rfl (fnx hN (i := 0) rfl) (vv 0)) (prtD (vv 5)) (prtD (vv 6))) (aD (vv 1) nD)))))
  ss0) (ss1 (sRaiseI XI_NotFound hr (by decide) rfl rfl tk (vv 1)))))))
theorem sc_Deque_removed : FnScope ["self", "place", "size", "item"] ["self", "place"] (defScope (clsStmt (top 22) 28)) := ⟨rfl, rfl, rfl, by decide +kernel, rfl, by decide +kernel, by decide +kernel⟩
theorem ok_Deque_removed (hW : W.ct = ct0) (hN : W.fn = fn0) (F : FnP W (clsStmt (top 22) 28) "removed" "Deque.removed" [] [] f fd) (b_len : mg "len" = none) (b_min : mg "min" = none) (b_int : mg "int" = none) (M_Deque_Deque_note : HasM P w mg base W 2 0 "note" ["self", "moves"] 2 f_Deque_note [(2, [], [0, 1], [])]) : FnB P w mg base W 4 f fd ["self", "place"] 2 f_Deque_removed [(2, [], [0, 1], [])] := by
  have nd : (["self", "place", "size", "item"] : List Str).Nodup := sc_Deque_removed.nd
  refine ⟨F.kp, okE (fnD F sc_Deque_removed rfl fun cdv A outer s H E hr tk => ?_) rfl, alC (bnN F 2 [] [0, 1] fun _ _ _ _ _ _ us ws h1 h2 => match us, h1, ws, h2 with | [_, _], _, [], _ => by kernel_rfl) alN⟩
  exact (ssC (sSet nd (i := 2) rfl (by trivial) (bD (cLen rfl) b_len bt_len (aD (fldD rfl (fnx hN (i := 0) rfl) (vv 0)) nD)) trivial) (ssC (sSet nd (i := 3) rfl (by trivial) (mD rfl PySem.F.plainAttrs_list PySem.F.slot_list_pop mePop (fldD rfl (fnx hN (i := 0) rfl) (vv 0)) (aD (vv 1) nD)) trivial) (ssC (sExpr (methD M_Deque_Deque_note 0 rfl rfl hr (by decide) rfl (fnn hN (by decide)) tk (vv 0) (aD (opD (oAdd rfl) iD (bD (cMin rfl) b_min bt_min (aD (yD cInt b_int bt_int (aD (vv 1) nD)) (aD (yD cInt b_int bt_int (aD (opD oSub (opD oSub (vv 2) iD) (vv 1)) nD)) nD)))) nD) kNil)) (ss1 (sRet (vv 3))))))
theorem sc_Deque_remove : FnScope ["self", "item"] ["self", "item"] (defScope (clsStmt (top 22) 29)) := ⟨rfl, rfl, rfl, by decide +kernel, rfl, by decide +kernel, by decide +kernel⟩
theorem ok_Deque_remove (hW : W.ct = ct0) (hN : W.fn = fn0) (F : FnP W (clsStmt (top 22) 29) "remove" "Deque.remove" [] [] f fd) (M_Deque_Deque_index : HasM P w mg base W 10 0 "index" ["self", "item", "begin", "end"] 4 f_Deque_index [(2, [], [0, 1, 2, 3], [(.int 0), .non])]) (M_Deque_Deque_removed : HasM P w mg base W 4 0 "removed" ["self", "place"] 2 f_Deque_removed [(2, [], [0, 1], [])]) : FnB P w mg base W 12 f fd ["self", "item"] 2 f_Deque_remove [(2, [], [0, 1], [])] := by
  have nd : (["self", "item"] : List Str).Nodup := sc_Deque_remove.nd
  refine ⟨F.kp, okE (fnD F sc_Deque_remove rfl fun cdv A outer s H E hr tk => ?_) rfl, alC (bnN F 2 [] [0, 1] fun _ _ _ _ _ _ us ws h1 h2 => match us, h1, ws, h2 with | [_, _], _, [], _ => by kernel_rfl) alN⟩
  exact (ss1 (sExpr (methD M_Deque_Deque_removed 0 rfl rfl hr (by decide) rfl (fnn hN (by decide)) tk (vv 0) (aD (methD M_Deque_Deque_index 0 rfl rfl hr (by decide) rfl (fnn hN (by decide)) tk (vv 0) (aD (vv 1) nD) kNil) nD) kNil)))
theorem sc_Deque_place_of : FnScope ["self", "index", "size"] ["self", "index"] (defScope (clsStmt (top 22) 25)) := ⟨rfl, rfl, rfl, by decide +kernel, rfl, by decide +kernel, by decide +kernel⟩
theorem ok_Deque_place_of (hW : W.ct = ct0) (hN : W.fn = fn0) (F : FnP W (clsStmt (top 22) 25) "place_of" "Deque.place_of" [] [] f fd) (b_len : mg "len" = none) (H_is_integer : Has P w mg base W 2 "is_integer" ["thing"] 1 f_is_integer [(1, [], [0], [])]) (XI_BadIndex : HasXI P w mg base W 3 4 "BadIndex") : FnB P w mg base W 4 f fd ["self", "index"] 2 f_Deque_place_of [(2, [], [0, 1], [])] := by
  have nd : (["self", "index", "size"] : List Str).Nodup := sc_Deque_place_of.nd
  refine ⟨F.kp, okE (fnD F sc_Deque_place_of rfl fun cdv A outer s H E hr tk => ?_) rfl, alC (bnN F 2 [] [0, 1] fun _ _ _ _ _ _ us ws h1 h2 => match us, h1, ws, h2 with | [_, _], _, [], _ => by kernel_rfl) alN⟩
  exact (ssC (sSet nd (i := 2) rfl (by trivial) (bD (cLen rfl) b_len bt_len (aD (fldD rfl (fnx hN (i := 0) rfl) (vv 0)) nD)) trivial) (ssC (sIf (ptW (orD (notD (tstD (callH H_is_integer 0 rfl rfl hr (by decide) rfl tk (aD (vv 1) nD) kNil))) (or1D (notD (chT oLe oLt (opD oSub iD (vv 2)) (vv 1) (vv 2))))))
  (ss1 (sRaiseI XI_BadIndex hr (by decide) rfl rfl tk (vv 1)))
  ss0) (ss1 (sRet (opD oMod (vv 1) (vv 2))))))
theorem sc_Deque_put : FnScope ["self", "index", "item", "place"] ["self", "index", "item"] (defScope (clsStmt (top 22) 26)) := ⟨rfl, rfl, rfl, by decide +kernel, rfl, by decide +kernel, by decide +kernel⟩
theorem ok_Deque_put (hW : W.ct = ct0) (hN : W.fn = fn0) (F : FnP W (clsStmt (top 22) 26) "put" "Deque.put" [] [] f fd) (M_Deque_Deque_place_of : HasM P w mg base W 4 0 "place_of" ["self", "index"] 2 f_Deque_place_of [(2, [], [0, 1], [])]) (H_need_item : Has P w mg base W 8 "need_item" ["thing"] 1 f_need_item [(1, [], [0], [])]) : FnB P w mg base W 10 f fd ["self", "index", "item"] 3 f_Deque_put [(3, [], [0, 1, 2], [])] := by
  have nd : (["self", "index", "item", "place"] : List Str).Nodup := sc_Deque_put.nd
  refine ⟨F.kp, okE (fnD F sc_Deque_put rfl fun cdv A outer s H E hr tk => ?_) rfl, alC (bnN F 3 [] [0, 1, 2] fun _ _ _ _ _ _ us ws h1 h2 => match us, h1, ws, h2 with | [_, _, _], _, [], _ => by kernel_rfl) alN⟩
  exact (ssC (sSet nd (i := 3) rfl (by trivial) (methD M_Deque_Deque_place_of 0 rfl rfl hr (by decide) rfl (fnn hN (by decide)) tk (vv 0) (aD (vv 1) nD) kNil) trivial) (ssC (sExpr (callH H_need_item 0 rfl rfl hr (by decide) rfl tk (aD (vv 2) nD) kNil)) (ssC (sPut hr (fldD rfl (fnx hN (i := 0) rfl) (vv 0)) (vv 3) (vv 2)) (ss1 (sAugF inAdd rfl (fnx hN (i := 2) rfl) (vv 0) iD)))))
theorem sc_Deque_delete : FnScope ["self", "index"] ["self", "index"] (defScope (clsStmt (top 22) 27)) := ⟨rfl, rfl, rfl, by decide +kernel, rfl, by decide +kernel, by decide +kernel⟩
theorem ok_Deque_delete (hW : W.ct = ct0) (hN : W.fn = fn0) (F : FnP W (clsStmt (top 22) 27) "delete" "Deque.delete" [] [] f fd) (M_Deque_Deque_place_of : HasM P w mg base W 4 0 "place_of" ["self", "index"] 2 f_Deque_place_of [(2, [], [0, 1], [])]) (M_Deque_Deque_removed : HasM P w mg base W 4 0 "removed" ["self", "place"] 2 f_Deque_removed [(2, [], [0, 1], [])]) : FnB P w mg base W 6 f fd ["self", "index"] 2 f_Deque_delete [(2, [], [0, 1], [])] := by
  have nd : (["self", "index"] : List Str).Nodup := sc_Deque_delete.nd
  refine ⟨F.kp, okE (fnD F sc_Deque_delete rfl fun cdv A outer s H E hr tk => ?_) rfl, alC (bnN F 2 [] [0, 1] fun _ _ _ _ _ _ us ws h1 h2 => match us, h1, ws, h2 with | [_, _], _, [], _ => by kernel_rfl) alN⟩
  exact (ss1 (sRet (methD M_Deque_Deque_removed 0 rfl rfl hr (by decide) rfl (fnn hN (by decide)) tk (vv 0) (aD (methD M_Deque_Deque_place_of 0 rfl rfl hr (by decide) rfl (fnn hN (by decide)) tk (vv 0) (aD (vv 1) nD) kNil) nD) kNil)))
theorem sc_Deque_xgetitem : FnScope ["self", "index"] ["self", "index"] (defScope (clsStmt (top 22) 3)) := ⟨rfl, rfl, rfl, by decide +kernel, rfl, by decide +kernel, by decide +kernel⟩
theorem ok_Deque_xgetitem (hW : W.ct = ct0) (hN : W.fn = fn0) (F : FnP W (clsStmt (top 22) 3) "__getitem__" "Deque.__getitem__" [] [] f fd) (M_Deque_Deque_place_of : HasM P w mg base W 4 0 "place_of" ["self", "index"] 2 f_Deque_place_of [(2, [], [0, 1], [])]) : FnB P w mg base W 6 f fd ["self", "index"] 2 f_Deque_xgetitem [(2, [], [0, 1], [])] := by
  have nd : (["self", "index"] : List Str).Nodup := sc_Deque_xgetitem.nd
  refine ⟨F.kp, okE (fnD F sc_Deque_xgetitem rfl fun cdv A outer s H E hr tk => ?_) rfl, alC (bnN F 2 [] [0, 1] fun _ _ _ _ _ _ us ws h1 h2 => match us, h1, ws, h2 with | [_, _], _, [], _ => by kernel_rfl) alN⟩
  exact (ss1 (sRet (ixD (xIdx rfl (ru1 hr)) (fldD rfl (fnx hN (i := 0) rfl) (vv 0)) (methD M_Deque_Deque_place_of 0 rfl rfl hr (by decide) rfl (fnn hN (by decide)) tk (vv 0) (aD (vv 1) nD) kNil) fun _ _ => rfl)))
theorem sc__law_indexes_refused : FnScope ["_law_deque", "_law_odd", "_law_due", "_law_calls", "_law_call"] ["_law_deque", "_law_odd"] (defScope (top 36)) := ⟨rfl, rfl, rfl, by decide +kernel, rfl, by decide +kernel, by decide +kernel⟩
theorem ok__law_indexes_refused {cL pL : Addr} (TB : LamX.TabB base mg cL pL) (hcd : fd.code = .ref cL) (hmT : (pL, (("_law_indexes_refused" : Str) ++ (".<locals>." : Str) ++ ("<lambda>" : Str))) ∈ W.T) (hu : ∀ p ∈ W.T, p.1 = pL → p.2 = (("_law_indexes_refused" : Str) ++ (".<locals>." : Str) ++ ("<lambda>" : Str))) (hW : W.ct = ct0) (hN : W.fn = fn0) (F : FnP W (top 36) "_law_indexes_refused" "_law_indexes_refused" [] [] f fd) (b_repr : mg "repr" = none) (M_Deque_Deque_put : HasM P w mg base W 10 0 "put" ["self", "index", "item"] 3 f_Deque_put [(3, [], [0, 1, 2], [])]) (M_Deque_Deque_delete : HasM P w mg base W 6 0 "delete" ["self", "index"] 2 f_Deque_delete [(2, [], [0, 1], [])]) (O_Deque_Deque_xgetitem : HasO P w mg base W 6 0 "__getitem__" ["self", "index"] 2 f_Deque_xgetitem) (L__law_error : HasL P w mg base W 2 "_law_error" true f__law_error) : FnBG P w mg base W 15 f fd ["_law_deque", "_law_odd"] 2 f__law_indexes_refused [(2, [], [0, 1], [])] := by
  have nd : (["_law_deque", "_law_odd", "_law_due", "_law_calls", "_law_call"] : List Str).Nodup := sc__law_indexes_refused.nd
  refine ⟨F.kp, fnDLG F sc__law_indexes_refused rfl hcd fun A outer s H E hgd hr tk => ?_, alC (bnN F 2 [] [0, 1] fun _ _ _ _ _ _ us ws h1 h2 => match us, h1, ws, h2 with | [_, _], _, [], _ => by kernel_rfl) alN⟩
  exact (ssC (sSet nd (i := 2) rfl (by trivial) (lstD (aD sD (aD bD0 (aD (bD (cRepr rfl hgd (ru5 hr)) b_repr bt_repr (aD (vv 1) nD)) nD)))) trivial) (lamsD (ps_set nd (i := 3) rfl (by trivial) (pe_lst (pa_cons (pe_fn (d := e__law_indexes_refused_1) (LamX.lamS_by (by rfl)) rfl TB rfl hmT hu) pa_nil))) (lamAppD (ps_expr (pe_bm PySem.F.plainAttrs_list PySem.F.slot_list_append rfl mt_append (vt 3) (pa_cons (pe_fn (d := e__law_indexes_refused_2) (LamX.lamS_by (by rfl)) rfl TB rfl hmT hu) pa_nil))) (lamAppD (ps_expr (pe_bm PySem.F.plainAttrs_list PySem.F.slot_list_append rfl mt_append (vt 3) (pa_cons (pe_fn (d := e__law_indexes_refused_3) (LamX.lamS_by (by rfl)) rfl TB rfl hmT hu) pa_nil))) (lamEndD
  (ssC (sIf (cmT (oNe rfl (ru hr)) (lamD (kb := 7) L__law_error (fun _ => hgd) rfl rfl tk TB rfl hmT hu hr (by decide) (by decide) (LamX.lamS_by (by rfl)) rfl (fun _ _ _ _ _ => rfl) (fun A2 o2 s2 H2 E2 f2 c2 hr tkL => (ixSD O_Deque_Deque_xgetitem hr (by decide) rfl tkL (vv 0) pe_int pe_int))) (lstD (aD sD (aD bD0 (aD sD nD)))) (nomark _))
  (ss1 (sRet bD0))
  ss0) (ss1 (sRet (cmD (oEq rfl (ru hr)) (fcD rfl nd rfl (vt 3) (blkOk (by kernel_rfl)) (fun _ _ _ _ _ => pg_name nd (i := 4) rfl (by trivial)) (.cons (fun pn2 σ2 s2 H2 C2 cl2 fp2 I2 f2 => (oneT (cmT (oNe rfl (ru hr)) (fnCallD (kb := 11) L__law_error (fun _ => hgd) rfl hr (by decide) (by decide) ⟨LamX.lamS_by (by rfl), rfl, fun _ _ _ _ _ => rfl, fun A2 o2 s2 H2 E2 f2 c2 hr tkL => (methD M_Deque_Deque_put 0 rfl rfl hr (by decide) rfl (fnn hN (by decide)) tkL (vv 0) (aD (vv 1) (aD nD0 nD)) kNil)⟩ I2 f2 (vt 4) rfl rfl rfl rfl) (vv 2) (nomark _)))) (fun pn2 σ2 s2 H2 C2 cl2 fp2 I2 f2 => noD)
  (.cons (fun pn2 σ2 s2 H2 C2 cl2 fp2 I2 f2 => (oneT (cmT (oNe rfl (ru hr)) (fnCallD (kb := 7) L__law_error (fun _ => hgd) rfl hr (by decide) (by decide) ⟨LamX.lamS_by (by rfl), rfl, fun _ _ _ _ _ => rfl, fun A2 o2 s2 H2 E2 f2 c2 hr tkL => (methD M_Deque_Deque_delete 0 rfl rfl hr (by decide) rfl (fnn hN (by decide)) tkL (vv 0) (aD (vv 1) nD) kNil)⟩ I2 f2 (vt 4) rfl rfl rfl rfl) (vv 2) (nomark _)))) (fun pn2 σ2 s2 H2 C2 cl2 fp2 I2 f2 => noD)
  (.cons (fun pn2 σ2 s2 H2 C2 cl2 fp2 I2 f2 => (oneT (cmT (oNe rfl (ru hr)) (fnCallD (kb := 7) L__law_error (fun _ => hgd) rfl hr (by decide) (by decide) ⟨LamX.lamS_by (by rfl), rfl, fun _ _ _ _ _ => rfl, fun A2 o2 s2 H2 E2 f2 c2 hr tkL => (ixXD (ixX O_Deque_Deque_xgetitem hr (by decide) rfl tkL) (vv 0) (vv 1))⟩ I2 f2 (vt 4) rfl rfl rfl rfl) (vv 2) (nomark _)))) (fun pn2 σ2 s2 H2 C2 cl2 fp2 I2 f2 => noD)
  .nil)))) (lstD nD) (nomark _)))))) (by decide)) (by decide))))
theorem sc_Deque_rotate : FnScope ["self", "steps", "size", "turn"] ["self", "steps"] (defScope (clsStmt (top 22) 23)) := ⟨rfl, rfl, rfl, by decide +kernel, rfl, by decide +kernel, by decide +kernel⟩
theorem ok_Deque_rotate (hW : W.ct = ct0) (hN : W.fn = fn0) (F : FnP W (clsStmt (top 22) 23) "rotate" "Deque.rotate" [(.int 1)] [] f fd) (b_len : mg "len" = none) (b_min : mg "min" = none) (b_int : mg "int" = none) (H_is_integer : Has P w mg base W 2 "is_integer" ["thing"] 1 f_is_integer [(1, [], [0], [])]) (XI_BadIndex : HasXI P w mg base W 3 4 "BadIndex") (M_Deque_Deque_note : HasM P w mg base W 2 0 "note" ["self", "moves"] 2 f_Deque_note [(2, [], [0, 1], [])]) : FnB P w mg base W 4 f fd ["self", "steps"] 2 f_Deque_rotate [(2, [], [0, 1], [(.int 1)])] := by
  have nd : (["self", "steps", "size", "turn"] : List Str).Nodup := sc_Deque_rotate.nd
  refine ⟨F.kp, okE (fnD F sc_Deque_rotate rfl fun cdv A outer s H E hr tk => ?_) rfl, alC (bnP F 2 [] [0, 1] (by simp) (fun io H => .cons (.int _) (.nil)) fun _ _ _ _ _ _ _ us its ws h1 h2 h3 => match us, h1, its, h2, ws, h3 with | [_, _], _, [_], _, [], _ => ⟨_, rfl, rfl⟩) alN⟩
  exact (ssC (sIf (notD (tstD (callH H_is_integer 0 rfl rfl hr (by decide) rfl tk (aD (vv 1) nD) kNil)))
  (ss1 (sRaiseI XI_BadIndex hr (by decide) rfl rfl tk (vv 1)))
  ss0) (ssC (sSet nd (i := 2) rfl (by trivial) (bD (cLen rfl) b_len bt_len (aD (fldD rfl (fnx hN (i := 0) rfl) (vv 0)) nD)) trivial) (ss1 (sIf (ptW (andD (cmT oGt (vv 2) iD (nomark _)) (and1D (cmT (oNe rfl (ru hr)) (opD oMod (vv 1) (vv 2)) iD (nomark _)))))
  (ssC (sSet nd (i := 3) rfl (by trivial) (opD oMod (vv 1) (vv 2)) trivial) (ssC (sSetF rfl (fnx hN (i := 0) rfl) (vv 0) (opD (oAdd rfl) (slcD rfl (fldD rfl (fnx hN (i := 0) rfl) (vv 0)) (prtD (opD oSub (vv 2) (vv 3))) noP) (slcD rfl (fldD rfl (fnx hN (i := 0) rfl) (vv 0)) noP (prtD (opD oSub (vv 2) (vv 3)))))) (ss1 (sExpr (methD M_Deque_Deque_note 0 rfl rfl hr (by decide) rfl (fnn hN (by decide)) tk (vv 0) (aD (bD (cMin rfl) b_min bt_min (aD (yD cInt b_int bt_int (aD (vv 3) nD)) (aD (yD cInt b_int bt_int (aD (opD oSub (vv 2) (vv 3)) nD)) nD))) nD) kNil)))))
  ss0))))
theorem sc_Deque_listed : FnScope ["self"] ["self"] (defScope (clsStmt (top 22) 35)) := ⟨rfl, rfl, rfl, by decide +kernel, rfl, by decide +kernel, by decide +kernel⟩
theorem ok_Deque_listed (hW : W.ct = ct0) (hN : W.fn = fn0) (F : FnP W (clsStmt (top 22) 35) "listed" "Deque.listed" [] [] f fd) (b_list : mg "list" = none) : FnB P w mg base W 2 f fd ["self"] 1 f_Deque_listed [(1, [], [0], [])] := by
  have nd : (["self"] : List Str).Nodup := sc_Deque_listed.nd
  refine ⟨F.kp, okE (fnD F sc_Deque_listed rfl fun cdv A outer s H E hr tk => ?_) rfl, alC (bnN F 1 [] [0] fun _ _ _ _ _ _ us ws h1 h2 => match us, h1, ws, h2 with | [_], _, [], _ => by kernel_rfl) alN⟩
  exact (ss1 (sRet (yD (cList rfl rfl) b_list bt_list (aD (fldD rfl (fnx hN (i := 0) rfl) (vv 0)) nD))))
theorem sc_Deque_bound : FnScope ["self"] ["self"] (defScope (clsStmt (top 22) 11)) := ⟨rfl, rfl, rfl, by decide +kernel, rfl, by decide +kernel, by decide +kernel⟩
theorem ok_Deque_bound (hW : W.ct = ct0) (hN : W.fn = fn0) (F : FnP W (clsStmt (top 22) 11) "bound" "Deque.bound" [] [] f fd)  : FnB P w mg base W 2 f fd ["self"] 1 f_Deque_bound [(1, [], [0], [])] := by
  have nd : (["self"] : List Str).Nodup := sc_Deque_bound.nd
  refine ⟨F.kp, okE (fnD F sc_Deque_bound rfl fun cdv A outer s H E hr tk => ?_) rfl, alC (bnN F 1 [] [0] fun _ _ _ _ _ _ us ws h1 h2 => match us, h1, ws, h2 with | [_], _, [], _ => by kernel_rfl) alN⟩
  exact (ss1 (sRet (fldD rfl (fnx hN (i := 1) rfl) (vv 0))))
theorem sc_Deque_moves : FnScope ["self"] ["self"] (defScope (clsStmt (top 22) 12)) := ⟨rfl, rfl, rfl, by decide +kernel, rfl, by decide +kernel, by decide +kernel⟩
theorem ok_Deque_moves (hW : W.ct = ct0) (hN : W.fn = fn0) (F : FnP W (clsStmt (top 22) 12) "moves" "Deque.moves" [] [] f fd)  : FnB P w mg base W 2 f fd ["self"] 1 f_Deque_moves [(1, [], [0], [])] := by
  have nd : (["self"] : List Str).Nodup := sc_Deque_moves.nd
  refine ⟨F.kp, okE (fnD F sc_Deque_moves rfl fun cdv A outer s H E hr tk => ?_) rfl, alC (bnN F 1 [] [0] fun _ _ _ _ _ _ us ws h1 h2 => match us, h1, ws, h2 with | [_], _, [], _ => by kernel_rfl) alN⟩
  exact (ss1 (sRet (fldD rfl (fnx hN (i := 2) rfl) (vv 0))))
theorem sc_Deque_xlen : FnScope ["self"] ["self"] (defScope (clsStmt (top 22) 1)) := ⟨rfl, rfl, rfl, by decide +kernel, rfl, by decide +kernel, by decide +kernel⟩
theorem ok_Deque_xlen (hW : W.ct = ct0) (hN : W.fn = fn0) (F : FnP W (clsStmt (top 22) 1) "__len__" "Deque.__len__" [] [] f fd) (b_len : mg "len" = none) : FnB P w mg base W 2 f fd ["self"] 1 f_Deque_xlen [(1, [], [0], [])] := by
  have nd : (["self"] : List Str).Nodup := sc_Deque_xlen.nd
  refine ⟨F.kp, okE (fnD F sc_Deque_xlen rfl fun cdv A outer s H E hr tk => ?_) rfl, alC (bnN F 1 [] [0] fun _ _ _ _ _ _ us ws h1 h2 => match us, h1, ws, h2 with | [_], _, [], _ => by kernel_rfl) alN⟩
  exact (ss1 (sRet (bD (cLen rfl) b_len bt_len (aD (fldD rfl (fnx hN (i := 0) rfl) (vv 0)) nD))))
theorem sc_Deque_xrepr : FnScope ["self"] ["self"] (defScope (clsStmt (top 22) 10)) := ⟨rfl, rfl, rfl, by decide +kernel, rfl, by decide +kernel, by decide +kernel⟩
theorem ok_Deque_xrepr (hW : W.ct = ct0) (hN : W.fn = fn0) (F : FnP W (clsStmt (top 22) 10) "__repr__" "Deque.__repr__" [] [] f fd) (b_len : mg "len" = none) : FnB P w mg base W 2 f fd ["self"] 1 f_Deque_xrepr [(1, [], [0], [])] := by
  have nd : (["self"] : List Str).Nodup := sc_Deque_xrepr.nd
  refine ⟨F.kp, okE (fnD F sc_Deque_xrepr rfl fun cdv A outer s H E hr tk => ?_) rfl, alC (bnN F 1 [] [0] fun _ _ _ _ _ _ us ws h1 h2 => match us, h1, ws, h2 with | [_], _, [], _ => by kernel_rfl) alN⟩
  exact (ss1 (sRet (jsD (jsC sD (jsC (fmtD (bD (cLen rfl) b_len bt_len (aD (fldD rfl (fnx hN (i := 0) rfl) (vv 0)) nD))) (jsC sD (jsC (fmtD (fldD rfl (fnx hN (i := 1) rfl) (vv 0))) (jsC sD js0))))))))
theorem sc__law_fits : FnScope ["_law_deque", "_law_model_here", "_law_size", "_law_limit"] ["_law_deque", "_law_model_here"] (defScope (top 33)) := ⟨rfl, rfl, rfl, by decide +kernel, rfl, by decide +kernel, by decide +kernel⟩
theorem ok__law_fits (hW : W.ct = ct0) (hN : W.fn = fn0) (F : FnP W (top 33) "_law_fits" "_law_fits" [] [] f fd) (b_str : mg "str" = none) (b_len : mg "len" = none) (b_repr : mg "repr" = none) (M_Deque_Deque_listed : HasM P w mg base W 2 0 "listed" ["self"] 1 f_Deque_listed [(1, [], [0], [])]) (P_Deque_Deque_bound : HasP P w mg base W 2 0 "bound" ["self"] f_Deque_bound) (P_Deque_Deque_moves : HasP P w mg base W 2 0 "moves" ["self"] f_Deque_moves) (O_Deque_Deque_xlen : HasO P w mg base W 2 0 "__len__" ["self"] 1 f_Deque_xlen) (O_Deque_Deque_xrepr : HasO P w mg base W 2 0 "__repr__" ["self"] 1 f_Deque_xrepr) : FnB P w mg base W 4 f fd ["_law_deque", "_law_model_here"] 2 f__law_fits [(2, [], [0, 1], [])] := by
  have nd : (["_law_deque", "_law_model_here", "_law_size", "_law_limit"] : List Str).Nodup := sc__law_fits.nd
  refine ⟨F.kp, okE (fnD F sc__law_fits rfl fun cdv A outer s H E hr tk => ?_) rfl, alC (bnN F 2 [] [0, 1] fun _ _ _ _ _ _ us ws h1 h2 => match us, h1, ws, h2 with | [_, _], _, [], _ => by kernel_rfl) alN⟩
  exact (ssC (sIf (ptW (orD (cmT (oNe rfl (ru hr)) (methD0 M_Deque_Deque_listed 0 rfl rfl hr (by decide) rfl (fnn hN (by decide)) tk (vv 0) kNil) (ixD (xIdx rfl (ru1 hr)) (vv 1) iD fun _ _ => rfl) (nomark _)) (orD (cmT (oNe rfl (ru hr)) (propD P_Deque_Deque_bound hr (by decide) rfl tk (vv 0)) (ixD (xIdx rfl (ru1 hr)) (vv 1) iD fun _ _ => rfl) (nomark _)) (or1D (cmT (oNe rfl (ru hr)) (propD P_Deque_Deque_moves hr (by decide) rfl tk (vv 0)) (ixD (xIdx rfl (ru1 hr)) (vv 1) iD fun _ _ => rfl) (nomark _))))))
  (ss1 (sRet bD0))
  ss0) (ssC (sPar2 rfl nd rfl rfl (by decide) rfl rfl (aD (bD (cLen rfl) b_len bt_len (aD (ixD (xIdx rfl (ru1 hr)) (vv 1) iD fun _ _ => rfl) nD)) (aD (yD cStr b_str bt_str (aD (ixD (xIdx rfl (ru1 hr)) (vv 1) iD fun _ _ => rfl) nD)) nD)) trivial trivial) (ss1 (sRet (andVD (cmD (oEq rfl (ru hr)) (lenOD O_Deque_Deque_xlen hr (by decide) rfl tk b_len (aD (vv 0) nD)) (vv 2) (nomark _)) (oneVD (cmD (oEq rfl (ru hr)) (reprOD O_Deque_Deque_xrepr hr (by decide) rfl tk b_repr (aD (vv 0) nD)) (opD (oAdd rfl) (opD (oAdd rfl) (opD (oAdd rfl) (opD (oAdd rfl) sD (yD cStr b_str bt_str (aD (vv 2) nD))) sD) (vv 3)) sD) (nomark _))))))))
theorem sc_Deque_clear : FnScope ["self"] ["self"] (defScope (clsStmt (top 22) 33)) := ⟨rfl, rfl, rfl, by decide +kernel, rfl, by decide +kernel, by decide +kernel⟩
theorem ok_Deque_clear (hW : W.ct = ct0) (hN : W.fn = fn0) (F : FnP W (clsStmt (top 22) 33) "clear" "Deque.clear" [] [] f fd) (b_len : mg "len" = none) (M_Deque_Deque_note : HasM P w mg base W 2 0 "note" ["self", "moves"] 2 f_Deque_note [(2, [], [0, 1], [])]) : FnB P w mg base W 4 f fd ["self"] 1 f_Deque_clear [(1, [], [0], [])] := by
  have nd : (["self"] : List Str).Nodup := sc_Deque_clear.nd
  refine ⟨F.kp, okE (fnD F sc_Deque_clear rfl fun cdv A outer s H E hr tk => ?_) rfl, alC (bnN F 1 [] [0] fun _ _ _ _ _ _ us ws h1 h2 => match us, h1, ws, h2 with | [_], _, [], _ => by kernel_rfl) alN⟩
  exact (ss1 (sIf (cmT (oNe rfl (ru hr)) (fldD rfl (fnx hN (i := 0) rfl) (vv 0)) (lstD nD) (nomark _))
  (ssC (sExpr (methD M_Deque_Deque_note 0 rfl rfl hr (by decide) rfl (fnn hN (by decide)) tk (vv 0) (aD (bD (cLen rfl) b_len bt_len (aD (fldD rfl (fnx hN (i := 0) rfl) (vv 0)) nD)) nD) kNil)) (ss1 (sExpr (mD0 rfl PySem.F.plainAttrs_list PySem.F.slot_list_clear meClear (fldD rfl (fnx hN (i := 0) rfl) (vv 0))))))
  ss0))
theorem sc_Deque_removed_end : FnScope ["self", "place", "item"] ["self", "place"] (defScope (clsStmt (top 22) 22)) := ⟨rfl, rfl, rfl, by decide +kernel, rfl, by decide +kernel, by decide +kernel⟩
theorem ok_Deque_removed_end (hW : W.ct = ct0) (hN : W.fn = fn0) (F : FnP W (clsStmt (top 22) 22) "removed_end" "Deque.removed_end" [] [] f fd) (X0_Empty : HasX0 mg W 5 "Empty") (M_Deque_Deque_note : HasM P w mg base W 2 0 "note" ["self", "moves"] 2 f_Deque_note [(2, [], [0, 1], [])]) : FnB P w mg base W 4 f fd ["self", "place"] 2 f_Deque_removed_end [(2, [], [0, 1], [])] := by
  have nd : (["self", "place", "item"] : List Str).Nodup := sc_Deque_removed_end.nd
  refine ⟨F.kp, okE (fnD F sc_Deque_removed_end rfl fun cdv A outer s H E hr tk => ?_) rfl, alC (bnN F 2 [] [0, 1] fun _ _ _ _ _ _ us ws h1 h2 => match us, h1, ws, h2 with | [_, _], _, [], _ => by kernel_rfl) alN⟩
  exact (ssC (sIf (cmT (oEq rfl (ru hr)) (fldD rfl (fnx hN (i := 0) rfl) (vv 0)) (lstD nD) (nomark _))
  (ss1 (sRaise0 X0_Empty rfl rfl tk))
  ss0) (ssC (sSet nd (i := 2) rfl (by trivial) (mD rfl PySem.F.plainAttrs_list PySem.F.slot_list_pop mePop (fldD rfl (fnx hN (i := 0) rfl) (vv 0)) (aD (vv 1) nD)) trivial) (ssC (sExpr (methD M_Deque_Deque_note 0 rfl rfl hr (by decide) rfl (fnn hN (by decide)) tk (vv 0) (aD iD nD) kNil)) (ss1 (sRet (vv 2))))))
theorem sc_Deque_pop : FnScope ["self"] ["self"] (defScope (clsStmt (top 22) 20)) := ⟨rfl, rfl, rfl, by decide +kernel, rfl, by decide +kernel, by decide +kernel⟩
theorem ok_Deque_pop (hW : W.ct = ct0) (hN : W.fn = fn0) (F : FnP W (clsStmt (top 22) 20) "pop" "Deque.pop" [] [] f fd) (M_Deque_Deque_removed_end : HasM P w mg base W 4 0 "removed_end" ["self", "place"] 2 f_Deque_removed_end [(2, [], [0, 1], [])]) : FnB P w mg base W 6 f fd ["self"] 1 f_Deque_pop [(1, [], [0], [])] := by
  have nd : (["self"] : List Str).Nodup := sc_Deque_pop.nd
  refine ⟨F.kp, okE (fnD F sc_Deque_pop rfl fun cdv A outer s H E hr tk => ?_) rfl, alC (bnN F 1 [] [0] fun _ _ _ _ _ _ us ws h1 h2 => match us, h1, ws, h2 with | [_], _, [], _ => by kernel_rfl) alN⟩
  exact (ss1 (sRet (methD M_Deque_Deque_removed_end 0 rfl rfl hr (by decide) rfl (fnn hN (by decide)) tk (vv 0) (aD (unD uNeg iD) nD) kNil)))
theorem sc_Deque_pop_left : FnScope ["self"] ["self"] (defScope (clsStmt (top 22) 21)) := ⟨rfl, rfl, rfl, by decide +kernel, rfl, by decide +kernel, by decide +kernel⟩
theorem ok_Deque_pop_left (hW : W.ct = ct0) (hN : W.fn = fn0) (F : FnP W (clsStmt (top 22) 21) "pop_left" "Deque.pop_left" [] [] f fd) (M_Deque_Deque_removed_end : HasM P w mg base W 4 0 "removed_end" ["self", "place"] 2 f_Deque_removed_end [(2, [], [0, 1], [])]) : FnB P w mg base W 6 f fd ["self"] 1 f_Deque_pop_left [(1, [], [0], [])] := by
  have nd : (["self"] : List Str).Nodup := sc_Deque_pop_left.nd
  refine ⟨F.kp, okE (fnD F sc_Deque_pop_left rfl fun cdv A outer s H E hr tk => ?_) rfl, alC (bnN F 1 [] [0] fun _ _ _ _ _ _ us ws h1 h2 => match us, h1, ws, h2 with | [_], _, [], _ => by kernel_rfl) alN⟩
  exact (ss1 (sRet (methD M_Deque_Deque_removed_end 0 rfl rfl hr (by decide) rfl (fnn hN (by decide)) tk (vv 0) (aD iD nD) kNil)))
theorem sc_law : FnScope ["_law_script", "_law_wrong", "_law_place", "_law_source_here", "_law_model_here", "_law_items_here", "_law_deque", "_law_size", "_law_odd", "_law_due"] ["_law_script"] (defScope (top 37)) := ⟨rfl, rfl, rfl, by decide +kernel, rfl, by decide +kernel, by decide +kernel⟩
theorem ok_law {cL pL : Addr} (TB : LamX.TabB base mg cL pL) (hcd : fd.code = .ref cL) (hmT : (pL, (("law" : Str) ++ (".<locals>." : Str) ++ ("<lambda>" : Str))) ∈ W.T) (hu : ∀ p ∈ W.T, p.1 = pL → p.2 = (("law" : Str) ++ (".<locals>." : Str) ++ ("<lambda>" : Str))) (hW : W.ct = ct0) (hN : W.fn = fn0) (F : FnP W (top 37) "law" "law" [] [] f fd) (b_range : mg "range" = none) (b_max : mg "max" = none) (b_min : mg "min" = none) (b_len : mg "len" = none) (b_repr : mg "repr" = none) (b_isinstance : mg "isinstance" = none) (b_int : mg "int" = none) (b_bool : mg "bool" = none) (H__law_source : Has P w mg base W 2 "_law_source" ["_law_script", "_law_place"] 2 f__law_source [(2, [], [0, 1], [])]) (H__law_model : Has P w mg base W 10 "_law_model" ["_law_source_here"] 1 f__law_model [(1, [], [0], [])]) (C_Deque : HasC P w mg base W 12 0 "Deque" ["self", "items", "bound"] 3 f_Deque_xinit [(2, ["bound"], [0, 1, 3], [(.tup [])]), (2, [], [0, 1, 3], [(.tup []), .non])]) (H__law_items_refused : HasG P w mg base W 17 "_law_items_refused" ["_law_deque", "_law_odd"] 2 f__law_items_refused [(2, [], [0, 1], [])]) (O_Deque_Deque_xcontains : HasO P w mg base W 8 0 "__contains__" ["self", "item"] 2 f_Deque_xcontains) (M_Deque_Deque_count : HasM P w mg base W 8 0 "count" ["self", "item"] 2 f_Deque_count [(2, [], [0, 1], [])]) (L__law_error : HasL P w mg base W 2 "_law_error" true f__law_error) (M_Deque_Deque_remove : HasM P w mg base W 12 0 "remove" ["self", "item"] 2 f_Deque_remove [(2, [], [0, 1], [])]) (M_Deque_Deque_index : HasM P w mg base W 10 0 "index" ["self", "item", "begin", "end"] 4 f_Deque_index [(2, [], [0, 1, 2, 3], [(.int 0), .non])]) (H__law_indexes_refused : HasG P w mg base W 15 "_law_indexes_refused" ["_law_deque", "_law_odd"] 2 f__law_indexes_refused [(2, [], [0, 1], [])]) (M_Deque_Deque_rotate : HasM P w mg base W 4 0 "rotate" ["self", "steps"] 2 f_Deque_rotate [(2, [], [0, 1], [(.int 1)])]) (M_Deque_Deque_insert : HasM P w mg base W 10 0 "insert" ["self", "index", "item"] 3 f_Deque_insert [(3, [], [0, 1, 2], [])]) (H__law_fits : Has P w mg base W 4 "_law_fits" ["_law_deque", "_law_model_here"] 2 f__law_fits [(2, [], [0, 1], [])]) (M_Deque_Deque_clear : HasM P w mg base W 4 0 "clear" ["self"] 1 f_Deque_clear [(1, [], [0], [])]) (M_Deque_Deque_pop : HasM P w mg base W 6 0 "pop" ["self"] 1 f_Deque_pop [(1, [], [0], [])]) (M_Deque_Deque_pop_left : HasM P w mg base W 6 0 "pop_left" ["self"] 1 f_Deque_pop_left [(1, [], [0], [])]) : FnG P w W.K mg base (L2.CX P w) 19 f fd ["_law_script"] (spD W 1 f_law) := by
  have nd : (["_law_script", "_law_wrong", "_law_place", "_law_source_here", "_law_model_here", "_law_items_here", "_law_deque", "_law_size", "_law_odd", "_law_due"] : List Str).Nodup := sc_law.nd
  refine fnDLG F sc_law rfl hcd fun A outer s H E hgd hr tk => ?_
  exact (ssC (sSet nd (i := 1) rfl (by trivial) (lstD (aD nD0 (aD bD0 (aD bD0 (aD sD (aD sD (aD sD (aD sD (aD (tupD nD) (aD (lstD (aD iD nD)) (aD (tupD (aD sD nD)) (aD (opD oPow iD iD) (aD (opD oSub iD (opD oPow iD iD)) (aD sD nD)))))))))))))) trivial) (ssC (sFor (passes_of rfl) rfl (rg1D rfl b_range (aD (bD (cMax rfl) b_max bt_max (aD iD (aD (bD (cMin rfl) b_min bt_min (aD iD (aD (bD (cLen rfl) b_len bt_len (aD (vv 0) nD)) nD))) nD))) nD)) (gN nd rfl (by trivial) trivial (fun _ _ => trivial))
  (ssC (sSet nd (i := 3) rfl (by trivial) (callH H__law_source 0 rfl rfl hr (by decide) rfl tk (aD (vv 0) (aD (vv 2) nD)) kNil) trivial) (ssC (sAsg (callH H__law_model 0 rfl rfl hr (by decide) rfl tk (aD (vv 3) nD) kNil) (gT rfl rfl (gsC anyC_ok (gN nd rfl (by trivial) trivial (fun _ _ => trivial)) (gsC anyC_ok (gN nd rfl (by trivial) trivial (fun _ _ => trivial)) (gs0 anyC_ok))) (dgC_len (dgC_len dg0_len)))) (ssC (sAsg (tupD (aD (makeC C_Deque 0 rfl rfl hr (by decide) rfl tk (aD (vv 5) nD) (kCons (ixD (xIdx rfl (ru1 hr)) (vv 4) iD fun _ _ => rfl) kNil)) (aD (bD (cLen rfl) b_len bt_len (aD (ixD (xIdx rfl (ru1 hr)) (vv 4) iD fun _ _ => rfl) nD)) nD))) (gT rfl rfl (gsC anyC_ok (gN nd rfl (by trivial) trivial (fun _ _ => trivial)) (gsC anyC_ok (gN nd rfl (by trivial) trivial (fun _ _ => trivial)) (gs0 anyC_ok))) (dgC_len (dgC_len dg0_len)))) (ssC (sFor (passes_of rfl) rfl (srcD rfl (vv 1)) (gN nd rfl (by trivial) trivial (fun _ _ => trivial))
  (ssC (sIf (ptW (orD (notD (tstD (callHG H__law_items_refused hgd 0 rfl rfl hr (by decide) rfl tk (aD (vv 6) (aD (vv 8) nD)) kNil))) (orD (cmpXT (inX O_Deque_Deque_xcontains hr (by decide) rfl tk) (vv 8) (vv 6) rfl) (or1D (cmT (oNe rfl (ru hr)) (methD M_Deque_Deque_count 0 rfl rfl hr (by decide) rfl (fnn hN (by decide)) tk (vv 6) (aD (vv 8) nD) kNil) iD (nomark _))))))
  (ss1 (sRet bD0))
  ss0) (ssC (sIf (cmT (oNe rfl (ru hr)) (lamD (kb := 13) L__law_error (fun _ => hgd) rfl rfl tk TB rfl hmT hu hr (by decide) (by decide) (LamX.lamS_by (by rfl)) rfl (fun _ _ _ _ _ => rfl) (fun A2 o2 s2 H2 E2 f2 c2 hr tkL => (methD M_Deque_Deque_remove 0 rfl rfl hr (by decide) rfl (fnn hN (by decide)) tkL (vv 6) (aD (vv 8) nD) kNil))) (lstD (aD sD (aD bD0 (aD (bD (cRepr rfl hgd (ru5 hr)) b_repr bt_repr (aD (vv 8) nD)) nD)))) (nomark _))
  (ss1 (sRet bD0))
  ss0) (ss1 (sIf (cmT (oNe rfl (ru hr)) (lamD (kb := 11) L__law_error (fun _ => hgd) rfl rfl tk TB rfl hmT hu hr (by decide) (by decide) (LamX.lamS_by (by rfl)) rfl (fun _ _ _ _ _ => rfl) (fun A2 o2 s2 H2 E2 f2 c2 hr tkL => (methD M_Deque_Deque_index 0 rfl rfl hr (by decide) rfl (fnn hN (by decide)) tkL (vv 6) (aD (vv 8) nD) kNil))) (lstD (aD sD (aD bD0 (aD (bD (cRepr rfl hgd (ru5 hr)) b_repr bt_repr (aD (vv 8) nD)) nD)))) (nomark _))
  (ss1 (sRet bD0))
  ss0))))) (ssC (sFor (passes_of rfl) rfl (srcD rfl (lstD (aD nD0 (aD bD0 (aD sD (aD sD (aD (tupD nD) (aD (lstD (aD iD nD)) (aD (tupD (aD iD nD)) (aD (vv 7) (aD (opD oSub (opD oSub iD (vv 7)) iD) (aD (opD oPow iD iD) (aD (opD oSub iD (opD oPow iD iD)) nD))))))))))))) (gN nd rfl (by trivial) trivial (fun _ _ => trivial))
  (ssC (sIf (notD (tstD (callHG H__law_indexes_refused hgd 0 rfl rfl hr (by decide) rfl tk (aD (vv 6) (aD (vv 8) nD)) kNil)))
  (ss1 (sRet bD0))
  ss0) (ss1 (sIf (ptW (orD (notD (tstD (bD (cIsiE rfl hW) b_isinstance bt_isinstance (aD (vv 8) (aD (tyD b_int bt_int) nD))))) (or1D (tstD (bD (cIsiE rfl hW) b_isinstance bt_isinstance (aD (vv 8) (aD (tyD b_bool bt_bool) nD)))))))
  (ssC (sSet nd (i := 9) rfl (by trivial) (lstD (aD sD (aD bD0 (aD (bD (cRepr rfl hgd (ru5 hr)) b_repr bt_repr (aD (vv 8) nD)) nD)))) trivial) (ssC (sIf (cmT (oNe rfl (ru hr)) (lamD (kb := 5) L__law_error (fun _ => hgd) rfl rfl tk TB rfl hmT hu hr (by decide) (by decide) (LamX.lamS_by (by rfl)) rfl (fun _ _ _ _ _ => rfl) (fun A2 o2 s2 H2 E2 f2 c2 hr tkL => (methD M_Deque_Deque_rotate 0 rfl rfl hr (by decide) rfl (fnn hN (by decide)) tkL (vv 6) (aD (vv 8) nD) kNil))) (vv 9) (nomark _))
  (ss1 (sRet bD0))
  ss0) (ss1 (sIf (cmT (oNe rfl (ru hr)) (lamD (kb := 11) L__law_error (fun _ => hgd) rfl rfl tk TB rfl hmT hu hr (by decide) (by decide) (LamX.lamS_by (by rfl)) rfl (fun _ _ _ _ _ => rfl) (fun A2 o2 s2 H2 E2 f2 c2 hr tkL => (methD M_Deque_Deque_insert 0 rfl rfl hr (by decide) rfl (fnn hN (by decide)) tkL (vv 6) (aD (vv 8) (aD nD0 nD)) kNil))) (vv 9) (nomark _))
  (ss1 (sRet bD0))
  ss0))))
  ss0)))) (ssC (sFor (passes_of rfl) rfl (srcD rfl (lstD (aD (unD uNeg iD) (aD iD (aD bD0 (aD sD (aD sD (aD (tupD nD) (aD (lstD (aD iD nD)) (aD (opD oPow iD iD) nD)))))))))) (gN nd rfl (by trivial) trivial (fun _ _ => trivial))
  (ss1 (sIf (cmT (oNe rfl (ru hr)) (lamD (kb := 13) L__law_error (fun _ => hgd) rfl rfl tk TB rfl hmT hu hr (by decide) (by decide) (LamX.lamS_by (by rfl)) rfl (fun _ _ _ _ _ => rfl) (fun A2 o2 s2 H2 E2 f2 c2 hr tkL => (makeC C_Deque 0 rfl rfl hr (by decide) rfl tkL (aD (lstD (aD nD0 nD)) nD) (kCons (vv 8) kNil)))) (lstD (aD sD (aD bD0 (aD (bD (cRepr rfl hgd (ru5 hr)) b_repr bt_repr (aD (vv 8) nD)) nD)))) (nomark _))
  (ss1 (sRet bD0))
  ss0))) (ssC (sIf (ptW (andD (cmT (oEq rfl (ru hr)) (vv 7) (ixD (xIdx rfl (ru1 hr)) (vv 4) iD fun _ _ => rfl) (nomark _)) (and1D (cmT (oNe rfl (ru hr)) (lamD (kb := 11) L__law_error (fun _ => hgd) rfl rfl tk TB rfl hmT hu hr (by decide) (by decide) (LamX.lamS_by (by rfl)) rfl (fun _ _ _ _ _ => rfl) (fun A2 o2 s2 H2 E2 f2 c2 hr tkL => (methD M_Deque_Deque_insert 0 rfl rfl hr (by decide) rfl (fnn hN (by decide)) tkL (vv 6) (aD iD (aD iD nD)) kNil))) (lstD (aD sD (aD bD0 (aD sD nD)))) (nomark _)))))
  (ss1 (sRet bD0))
  ss0) (ssC (sIf (notD (tstD (callH H__law_fits 0 rfl rfl hr (by decide) rfl tk (aD (vv 6) (aD (vv 4) nD)) kNil)))
  (ss1 (sRet bD0))
  ss0) (ssC (sExpr (methD0 M_Deque_Deque_clear 0 rfl rfl hr (by decide) rfl (fnn hN (by decide)) tk (vv 6) kNil)) (ssC (sIf (cmT (oNe rfl (ru hr)) (lamD (kb := 7) L__law_error (fun _ => hgd) rfl rfl tk TB rfl hmT hu hr (by decide) (by decide) (LamX.lamS_by (by rfl)) rfl (fun _ _ _ _ _ => rfl) (fun A2 o2 s2 H2 E2 f2 c2 hr tkL => (methD0 M_Deque_Deque_pop 0 rfl rfl hr (by decide) rfl (fnn hN (by decide)) tkL (vv 6) kNil))) (lstD (aD sD (aD bD0 (aD sD nD)))) (nomark _))
  (ss1 (sRet bD0))
  ss0) (ss1 (sIf (cmT (oNe rfl (ru hr)) (lamD (kb := 7) L__law_error (fun _ => hgd) rfl rfl tk TB rfl hmT hu hr (by decide) (by decide) (LamX.lamS_by (by rfl)) rfl (fun _ _ _ _ _ => rfl) (fun A2 o2 s2 H2 E2 f2 c2 hr tkL => (methD0 M_Deque_Deque_pop_left 0 rfl rfl hr (by decide) rfl (fnn hN (by decide)) tkL (vv 6) kNil))) (lstD (aD sD (aD bD0 (aD sD nD)))) (nomark _))
  (ss1 (sRet bD0))
  ss0))))))))))))) (ss1 (sRet bD0))))
end
theorem facts : FactsP := by
  intro P w K h mg f X G hfa c hl
  obtain ⟨fd_I_BadItem, F_I_BadItem⟩ := c.def_ 49 (d := d_I_BadItem) rfl
  obtain ⟨fd_I_BadBound, F_I_BadBound⟩ := c.def_ 50 (d := d_I_BadBound) rfl
  obtain ⟨fd_I_BadIndex, F_I_BadIndex⟩ := c.def_ 51 (d := d_I_BadIndex) rfl
  obtain ⟨fd_I_NotFound, F_I_NotFound⟩ := c.def_ 52 (d := d_I_NotFound) rfl
  obtain ⟨fd__law_source, F__law_source⟩ := c.def_ 0 (d := d__law_source) rfl
  obtain ⟨fd__law_draw, F__law_draw⟩ := c.def_ 1 (d := d__law_draw) rfl
  obtain ⟨fd__law_choice, F__law_choice⟩ := c.def_ 2 (d := d__law_choice) rfl
  obtain ⟨fd__law_item, F__law_item⟩ := c.def_ 3 (d := d__law_item) rfl
  obtain ⟨fd__law_items, F__law_items⟩ := c.def_ 4 (d := d__law_items) rfl
  obtain ⟨fd__law_bound, F__law_bound⟩ := c.def_ 5 (d := d__law_bound) rfl
  obtain ⟨fd__law_added, F__law_added⟩ := c.def_ 6 (d := d__law_added) rfl
  obtain ⟨fd__law_model, F__law_model⟩ := c.def_ 7 (d := d__law_model) rfl
  obtain ⟨fd_is_integer, F_is_integer⟩ := c.def_ 8 (d := d_is_integer) rfl
  obtain ⟨fd_is_bound, F_is_bound⟩ := c.def_ 9 (d := d_is_bound) rfl
  obtain ⟨fd_is_word, F_is_word⟩ := c.def_ 10 (d := d_is_word) rfl
  obtain ⟨fd_is_short, F_is_short⟩ := c.def_ 11 (d := d_is_short) rfl
  obtain ⟨fd_is_item, F_is_item⟩ := c.def_ 12 (d := d_is_item) rfl
  obtain ⟨fd_need_item, F_need_item⟩ := c.def_ 13 (d := d_need_item) rfl
  obtain ⟨fd_checked, F_checked⟩ := c.def_ 14 (d := d_checked) rfl
  obtain ⟨fd_Deque_xinit, F_Deque_xinit⟩ := c.def_ 15 (d := d_Deque_xinit) rfl
  obtain ⟨fd_Deque_is_full, F_Deque_is_full⟩ := c.def_ 16 (d := d_Deque_is_full) rfl
  obtain ⟨fd_Deque_note, F_Deque_note⟩ := c.def_ 17 (d := d_Deque_note) rfl
  obtain ⟨fd_Deque_added, F_Deque_added⟩ := c.def_ 18 (d := d_Deque_added) rfl
  obtain ⟨fd_Deque_append, F_Deque_append⟩ := c.def_ 19 (d := d_Deque_append) rfl
  obtain ⟨fd_Deque_append_left, F_Deque_append_left⟩ := c.def_ 20 (d := d_Deque_append_left) rfl
  obtain ⟨fd_Deque_extend, F_Deque_extend⟩ := c.def_ 21 (d := d_Deque_extend) rfl
  obtain ⟨fd_Deque_extend_left, F_Deque_extend_left⟩ := c.def_ 22 (d := d_Deque_extend_left) rfl
  obtain ⟨fd_place_in, F_place_in⟩ := c.def_ 23 (d := d_place_in) rfl
  obtain ⟨fd_Deque_insert, F_Deque_insert⟩ := c.def_ 24 (d := d_Deque_insert) rfl
  obtain ⟨fd__law_error, F__law_error⟩ := c.def_ 25 (d := d__law_error) rfl
  obtain ⟨fd__law_items_refused, F__law_items_refused⟩ := c.def_ 26 (d := d__law_items_refused) rfl
  obtain ⟨fd_Deque_xcontains, F_Deque_xcontains⟩ := c.def_ 27 (d := d_Deque_xcontains) rfl
  obtain ⟨fd_Deque_count, F_Deque_count⟩ := c.def_ 28 (d := d_Deque_count) rfl
  obtain ⟨fd_Deque_index, F_Deque_index⟩ := c.def_ 29 (d := d_Deque_index) rfl
  obtain ⟨fd_Deque_removed, F_Deque_removed⟩ := c.def_ 30 (d := d_Deque_removed) rfl
  obtain ⟨fd_Deque_remove, F_Deque_remove⟩ := c.def_ 31 (d := d_Deque_remove) rfl
  obtain ⟨fd_Deque_place_of, F_Deque_place_of⟩ := c.def_ 32 (d := d_Deque_place_of) rfl
  obtain ⟨fd_Deque_put, F_Deque_put⟩ := c.def_ 33 (d := d_Deque_put) rfl
  obtain ⟨fd_Deque_delete, F_Deque_delete⟩ := c.def_ 34 (d := d_Deque_delete) rfl
  obtain ⟨fd_Deque_xgetitem, F_Deque_xgetitem⟩ := c.def_ 35 (d := d_Deque_xgetitem) rfl
  obtain ⟨fd__law_indexes_refused, F__law_indexes_refused⟩ := c.def_ 36 (d := d__law_indexes_refused) rfl
  obtain ⟨fd_Deque_rotate, F_Deque_rotate⟩ := c.def_ 37 (d := d_Deque_rotate) rfl
  obtain ⟨fd_Deque_listed, F_Deque_listed⟩ := c.def_ 38 (d := d_Deque_listed) rfl
  obtain ⟨fd_Deque_bound, F_Deque_bound⟩ := c.def_ 39 (d := d_Deque_bound) rfl
  obtain ⟨fd_Deque_moves, F_Deque_moves⟩ := c.def_ 40 (d := d_Deque_moves) rfl
  obtain ⟨fd_Deque_xlen, F_Deque_xlen⟩ := c.def_ 41 (d := d_Deque_xlen) rfl
  obtain ⟨fd_Deque_xrepr, F_Deque_xrepr⟩ := c.def_ 42 (d := d_Deque_xrepr) rfl
  obtain ⟨fd__law_fits, F__law_fits⟩ := c.def_ 43 (d := d__law_fits) rfl
  obtain ⟨fd_Deque_clear, F_Deque_clear⟩ := c.def_ 44 (d := d_Deque_clear) rfl
  obtain ⟨fd_Deque_removed_end, F_Deque_removed_end⟩ := c.def_ 45 (d := d_Deque_removed_end) rfl
  obtain ⟨fd_Deque_pop, F_Deque_pop⟩ := c.def_ 46 (d := d_Deque_pop) rfl
  obtain ⟨fd_Deque_pop_left, F_Deque_pop_left⟩ := c.def_ 47 (d := d_Deque_pop_left) rfl
  obtain ⟨fd_law, F_law⟩ := c.def_ 48 (d := d_law) rfl
  have e := hfa.symm.trans (He.glo_ok X G (c.fact 0 (f := .glo "law") rfl))
  cases e
  have bl := FunD.bindsA (ps := ["_law_script"]) F_law fun _ _ _ _ _ _ us hl => match us, hl with | [_], _ => rfl
  refine ⟨fd_law, fun s v => bl s [v] rfl, fun base _ _ hTB => ?_⟩
  obtain ⟨W, hWe⟩ : ∃ W : Wd, W = ({ (mkWX K cs0 xs0 fn0 subs0 (by decide) (c.x 2 (f := wdXB cs0 xs0 fn0 subs0) rfl) (cdB_ok (c.x 0 (f := cdB) rfl)) (ckB_ok (c.x 1 (f := ckB) rfl))) with T := [(tabF K (codF K ((pDef "_law_items_refused") K)), (("_law_items_refused" : Str) ++ (".<locals>." : Str) ++ ("<lambda>" : Str))), (tabF K (codF K ((pDef "_law_indexes_refused") K)), (("_law_indexes_refused" : Str) ++ (".<locals>." : Str) ++ ("<lambda>" : Str))), (tabF K (codF K ((pDef "law") K)), (("law" : Str) ++ (".<locals>." : Str) ++ ("<lambda>" : Str)))] } : Wd) := ⟨_, rfl⟩
  have hW : W.ct = ct0 := by rw [hWe] <;> rfl
  have hN : W.fn = fn0 := by rw [hWe] <;> rfl
  have hKW : W.K = K := by rw [hWe] <;> rfl
  have hWT : W.T = [(tabF K (codF K ((pDef "_law_items_refused") K)), (("_law_items_refused" : Str) ++ (".<locals>." : Str) ++ ("<lambda>" : Str))), (tabF K (codF K ((pDef "_law_indexes_refused") K)), (("_law_indexes_refused" : Str) ++ (".<locals>." : Str) ++ ("<lambda>" : Str))), (tabF K (codF K ((pDef "law") K)), (("law" : Str) ++ (".<locals>." : Str) ++ ("<lambda>" : Str)))] := by rw [hWe] <;> rfl
  have hc_Deque : W.cl 0 = He.ga K "Deque" := by rw [hWe] <;> rfl
  have hc_BadItem : W.cl 1 = He.ga K "BadItem" := by rw [hWe] <;> rfl
  have hc_BadBound : W.cl 2 = He.ga K "BadBound" := by rw [hWe] <;> rfl
  have hc_BadIndex : W.cl 3 = He.ga K "BadIndex" := by rw [hWe] <;> rfl
  have hc_NotFound : W.cl 4 = He.ga K "NotFound" := by rw [hWe] <;> rfl
  have hc_Empty : W.cl 5 = He.ga K "Empty" := by rw [hWe] <;> rfl
  have hc_Full : W.cl 6 = He.ga K "Full" := by rw [hWe] <;> rfl
  have hc_CountError : W.cl 7 = He.ga K "CountError" := by rw [hWe] <;> rfl
  have hcl : W.cl = clOf K (cs0 ++ xs0) := by rw [hWe] <;> rfl
  clear hWe
  subst hKW
  have ndT : ([(tabF W.K (codF W.K ((pDef "_law_items_refused") W.K)), (("_law_items_refused" : Str) ++ (".<locals>." : Str) ++ ("<lambda>" : Str))), (tabF W.K (codF W.K ((pDef "_law_indexes_refused") W.K)), (("_law_indexes_refused" : Str) ++ (".<locals>." : Str) ++ ("<lambda>" : Str))), (tabF W.K (codF W.K ((pDef "law") W.K)), (("law" : Str) ++ (".<locals>." : Str) ++ ("<lambda>" : Str)))].map (·.1)).Nodup := of_decide_eq_true (show decide _ = true from (c.x 3 (f := fun K => decide (([(tabF K (codF K ((pDef "_law_items_refused") K)), (("_law_items_refused" : Str) ++ (".<locals>." : Str) ++ ("<lambda>" : Str))), (tabF K (codF K ((pDef "_law_indexes_refused") K)), (("_law_indexes_refused" : Str) ++ (".<locals>." : Str) ++ ("<lambda>" : Str))), (tabF K (codF K ((pDef "law") K)), (("law" : Str) ++ (".<locals>." : Str) ++ ("<lambda>" : Str)))].map (·.1)).Nodup)) rfl))
  have XW : XWd W xt0 := xwB_ok hcl (by rw [hN]; exact (c.x 4 (f := xwB (cs0 ++ xs0) fn0 xt0) rfl))
  have X0_Full : HasX0 mg W 6 "Full" := x0B_ok PySem.F.excBase_IndexError hc_Full (He.glo_ok X G (c.fact 1 (f := .glo "Full") rfl)) (c.x 5 (f := x0B "Full" [.type "IndexError", .type "LookupError", .type "Exception", .type "BaseException", .type "object"] "IndexError.__new__") rfl)
  have X0_Empty : HasX0 mg W 5 "Empty" := x0B_ok PySem.F.excBase_IndexError hc_Empty (He.glo_ok X G (c.fact 2 (f := .glo "Empty") rfl)) (c.x 6 (f := x0B "Empty" [.type "IndexError", .type "LookupError", .type "Exception", .type "BaseException", .type "object"] "IndexError.__new__") rfl)
  have XI_BadItem : HasXI P w mg base W 1 4 "BadItem" := xiB_ok PySem.DX.newF_ValueError hc_BadItem (He.glo_ok X G (c.fact 3 (f := .glo "BadItem") rfl)) (fnx hN rfl) (c.x 7 (f := xiB "BadItem" "given" (pMeth "BadItem" "__init__") [.type "ValueError", .type "Exception", .type "BaseException", .type "object"] "ValueError.__new__") rfl) (xi_init PySem.F.store_ValueError F_I_BadItem sc_I_BadItem (fun cdv A outer s H E => ps_xiS PySem.F.store_ValueError (vt 0) (vt 1))) (FunD.bindsA (ps := ["self", "given"]) F_I_BadItem fun _ _ _ _ _ _ us hl => match us, hl with | [_, _], _ => rfl)
  have XI_BadBound : HasXI P w mg base W 2 4 "BadBound" := xiB_ok PySem.DX.newF_ValueError hc_BadBound (He.glo_ok X G (c.fact 4 (f := .glo "BadBound") rfl)) (fnx hN rfl) (c.x 8 (f := xiB "BadBound" "given" (pMeth "BadBound" "__init__") [.type "ValueError", .type "Exception", .type "BaseException", .type "object"] "ValueError.__new__") rfl) (xi_init PySem.F.store_ValueError F_I_BadBound sc_I_BadBound (fun cdv A outer s H E => ps_xiS PySem.F.store_ValueError (vt 0) (vt 1))) (FunD.bindsA (ps := ["self", "given"]) F_I_BadBound fun _ _ _ _ _ _ us hl => match us, hl with | [_, _], _ => rfl)
  have XI_BadIndex : HasXI P w mg base W 3 4 "BadIndex" := xiB_ok PySem.DX.newF_IndexError hc_BadIndex (He.glo_ok X G (c.fact 5 (f := .glo "BadIndex") rfl)) (fnx hN rfl) (c.x 9 (f := xiB "BadIndex" "given" (pMeth "BadIndex" "__init__") [.type "IndexError", .type "LookupError", .type "Exception", .type "BaseException", .type "object"] "IndexError.__new__") rfl) (xi_init PySem.F.store_IndexError F_I_BadIndex sc_I_BadIndex (fun cdv A outer s H E => ps_xiS PySem.F.store_IndexError (vt 0) (vt 1))) (FunD.bindsA (ps := ["self", "given"]) F_I_BadIndex fun _ _ _ _ _ _ us hl => match us, hl with | [_, _], _ => rfl)
  have XI_NotFound : HasXI P w mg base W 4 4 "NotFound" := xiB_ok PySem.DX.newF_LookupError hc_NotFound (He.glo_ok X G (c.fact 6 (f := .glo "NotFound") rfl)) (fnx hN rfl) (c.x 10 (f := xiB "NotFound" "given" (pMeth "NotFound" "__init__") [.type "LookupError", .type "Exception", .type "BaseException", .type "object"] "LookupError.__new__") rfl) (xi_init PySem.F.store_LookupError F_I_NotFound sc_I_NotFound (fun cdv A outer s H E => ps_xiS PySem.F.store_LookupError (vt 0) (vt 1))) (FunD.bindsA (ps := ["self", "given"]) F_I_NotFound fun _ _ _ _ _ _ us hl => match us, hl with | [_, _], _ => rfl)
  have B__law_source := @ok__law_source P w mg base W _ _ hW hN F__law_source (He.free_ok X G (c.fact 7 (f := .free "len") rfl)) (He.free_ok X G (c.fact 8 (f := .free "abs") rfl))
  have B__law_draw := @ok__law_draw P w mg base W _ _ hW hN F__law_draw 
  have H__law_draw : Has P w mg base W 2 "_law_draw" ["_law_source_here", "_law_often"] 2 f__law_draw [(2, [], [0, 1], [])] := B__law_draw.has (He.glo_ok X G (c.fact 9 (f := .glo "_law_draw") rfl))
  have B__law_choice := @ok__law_choice P w mg base W _ _ hW hN F__law_choice (He.free_ok X G (c.fact 7 (f := .free "len") rfl)) H__law_draw
  have H__law_choice : Has P w mg base W 4 "_law_choice" ["_law_source_here", "_law_some"] 2 f__law_choice [(2, [], [0, 1], [])] := B__law_choice.has (He.glo_ok X G (c.fact 10 (f := .glo "_law_choice") rfl))
  have B__law_item := @ok__law_item P w mg base W _ _ hW hN F__law_item H__law_choice
  have H__law_item : Has P w mg base W 6 "_law_item" ["_law_source_here"] 1 f__law_item [(1, [], [0], [])] := B__law_item.has (He.glo_ok X G (c.fact 12 (f := .glo "_law_item") rfl))
  have B__law_items := @ok__law_items P w mg base W _ _ hW hN F__law_items (He.free_ok X G (c.fact 11 (f := .free "range") rfl)) H__law_draw H__law_item
  have B__law_bound := @ok__law_bound P w mg base W _ _ hW hN F__law_bound H__law_choice
  have B__law_added := @ok__law_added P w mg base W _ _ hW hN F__law_added (He.free_ok X G (c.fact 7 (f := .free "len") rfl))
  have H__law_items : Has P w mg base W 8 "_law_items" ["_law_source_here", "_law_most"] 2 f__law_items [(2, [], [0, 1], [])] := B__law_items.has (He.glo_ok X G (c.fact 13 (f := .glo "_law_items") rfl))
  have H__law_bound : Has P w mg base W 6 "_law_bound" ["_law_source_here"] 1 f__law_bound [(1, [], [0], [])] := B__law_bound.has (He.glo_ok X G (c.fact 14 (f := .glo "_law_bound") rfl))
  have H__law_added : Has P w mg base W 2 "_law_added" ["_law_row", "_law_limit", "_law_item_here", "_law_is_left"] 4 f__law_added [(4, [], [0, 1, 2, 3], [])] := B__law_added.has (He.glo_ok X G (c.fact 15 (f := .glo "_law_added") rfl))
  have B__law_model := @ok__law_model P w mg base W _ _ hW hN F__law_model H__law_items H__law_bound H__law_added
  have B_is_integer := @ok_is_integer P w mg base W _ _ hW hN F_is_integer (He.free_ok X G (c.fact 16 (f := .free "isinstance") rfl)) (He.free_ok X G (c.fact 17 (f := .free "int") rfl)) (He.free_ok X G (c.fact 18 (f := .free "bool") rfl))
  have H_is_integer : Has P w mg base W 2 "is_integer" ["thing"] 1 f_is_integer [(1, [], [0], [])] := B_is_integer.has (He.glo_ok X G (c.fact 20 (f := .glo "is_integer") rfl))
  have B_is_bound := @ok_is_bound P w mg base W _ _ hW hN F_is_bound (He.int_ok X G (c.fact 19 (f := .int "MOST_BOUND" 1000) rfl)) H_is_integer
  have B_is_word := @ok_is_word P w mg base W _ _ hW hN F_is_word (He.free_ok X G (c.fact 16 (f := .free "isinstance") rfl)) (He.free_ok X G (c.fact 21 (f := .free "str") rfl)) (He.free_ok X G (c.fact 7 (f := .free "len") rfl)) (He.int_ok X G (c.fact 22 (f := .int "MOST_LETTERS" 6) rfl)) (He.free_ok X G (c.fact 23 (f := .free "all") rfl)) (He.str_ok X G (c.fact 24 (f := .str "LETTERS" "abcdefghijklmnopqrstuvwxyz") rfl))
  have B_is_short := @ok_is_short P w mg base W _ _ hW hN F_is_short (He.free_ok X G (c.fact 8 (f := .free "abs") rfl)) H_is_integer
  have H_is_word : Has P w mg base W 2 "is_word" ["thing"] 1 f_is_word [(1, [], [0], [])] := B_is_word.has (He.glo_ok X G (c.fact 25 (f := .glo "is_word") rfl))
  have H_is_short : Has P w mg base W 4 "is_short" ["thing"] 1 f_is_short [(1, [], [0], [])] := B_is_short.has (He.glo_ok X G (c.fact 26 (f := .glo "is_short") rfl))
  have B_is_item := @ok_is_item P w mg base W _ _ hW hN F_is_item H_is_word H_is_short
  have H_is_item : Has P w mg base W 6 "is_item" ["thing"] 1 f_is_item [(1, [], [0], [])] := B_is_item.has (He.glo_ok X G (c.fact 27 (f := .glo "is_item") rfl))
  have B_need_item := @ok_need_item P w mg base W _ _ hW hN F_need_item H_is_item XI_BadItem
  have H_need_item : Has P w mg base W 8 "need_item" ["thing"] 1 f_need_item [(1, [], [0], [])] := B_need_item.has (He.glo_ok X G (c.fact 30 (f := .glo "need_item") rfl))
  have B_checked := @ok_checked P w mg base W _ _ hW hN F_checked (He.free_ok X G (c.fact 16 (f := .free "isinstance") rfl)) (by rw [hc_Deque]; exact (He.glo_ok X G (c.fact 28 (f := .glo "Deque") rfl))) (He.free_ok X G (c.fact 29 (f := .free "list") rfl)) H_need_item
  have H_is_bound : Has P w mg base W 4 "is_bound" ["thing"] 1 f_is_bound [(1, [], [0], [])] := B_is_bound.has (He.glo_ok X G (c.fact 32 (f := .glo "is_bound") rfl))
  have H_checked : Has P w mg base W 10 "checked" ["items"] 1 f_checked [(1, [], [0], [])] := B_checked.has (He.glo_ok X G (c.fact 33 (f := .glo "checked") rfl))
  have B_Deque_xinit := ok_Deque_xinit (P := P) (w := w) (mg := mg) (base := base) (W := W) (e0 := He.dflAt ("Deque", some "__init__") 0 W.K) (etB_ok (p := He.dflAt ("Deque", some "__init__") 0) (c.x 11 (f := etB (He.dflAt ("Deque", some "__init__") 0)) rfl)) hW hN F_Deque_xinit (He.free_ok X G (c.fact 31 (f := .free "max") rfl)) (He.free_ok X G (c.fact 17 (f := .free "int") rfl)) (He.free_ok X G (c.fact 7 (f := .free "len") rfl)) H_is_bound XI_BadBound H_checked
  have B_Deque_is_full := @ok_Deque_is_full P w mg base W _ _ hW hN F_Deque_is_full (He.free_ok X G (c.fact 7 (f := .free "len") rfl))
  have B_Deque_note := @ok_Deque_note P w mg base W _ _ hW hN F_Deque_note 
  have M_Deque_Deque_is_full : HasM P w mg base W 2 0 "is_full" ["self"] 1 f_Deque_is_full [(1, [], [0], [])] := B_Deque_is_full.meth (by rw [hc_Deque]; exact methB_ok (c.x 12 (f := methB "Deque" "is_full" (pMeth "Deque" "is_full")) rfl))
  have M_Deque_Deque_note : HasM P w mg base W 2 0 "note" ["self", "moves"] 2 f_Deque_note [(2, [], [0, 1], [])] := B_Deque_note.meth (by rw [hc_Deque]; exact methB_ok (c.x 13 (f := methB "Deque" "note" (pMeth "Deque" "note")) rfl))
  have B_Deque_added := @ok_Deque_added P w mg base W _ _ hW hN F_Deque_added (He.free_ok X G (c.fact 7 (f := .free "len") rfl)) M_Deque_Deque_is_full M_Deque_Deque_note
  have M_Deque_Deque_added : HasM P w mg base W 4 0 "added" ["self", "item", "place", "out"] 4 f_Deque_added [(4, [], [0, 1, 2, 3], [])] := B_Deque_added.meth (by rw [hc_Deque]; exact methB_ok (c.x 14 (f := methB "Deque" "added" (pMeth "Deque" "added")) rfl))
  have B_Deque_append := @ok_Deque_append P w mg base W _ _ hW hN F_Deque_append (He.free_ok X G (c.fact 7 (f := .free "len") rfl)) H_need_item M_Deque_Deque_added
  have B_Deque_append_left := @ok_Deque_append_left P w mg base W _ _ hW hN F_Deque_append_left H_need_item M_Deque_Deque_added
  have M_Deque_Deque_append : HasM P w mg base W 10 0 "append" ["self", "item"] 2 f_Deque_append [(2, [], [0, 1], [])] := B_Deque_append.meth (by rw [hc_Deque]; exact methB_ok (c.x 15 (f := methB "Deque" "append" (pMeth "Deque" "append")) rfl))
  have B_Deque_extend := @ok_Deque_extend P w mg base W _ _ hW hN F_Deque_extend H_checked M_Deque_Deque_append
  have M_Deque_Deque_append_left : HasM P w mg base W 10 0 "append_left" ["self", "item"] 2 f_Deque_append_left [(2, [], [0, 1], [])] := B_Deque_append_left.meth (by rw [hc_Deque]; exact methB_ok (c.x 16 (f := methB "Deque" "append_left" (pMeth "Deque" "append_left")) rfl))
  have B_Deque_extend_left := @ok_Deque_extend_left P w mg base W _ _ hW hN F_Deque_extend_left H_checked M_Deque_Deque_append_left
  have B_place_in := @ok_place_in P w mg base W _ _ hW hN F_place_in (He.free_ok X G (c.fact 31 (f := .free "max") rfl)) (He.free_ok X G (c.fact 17 (f := .free "int") rfl)) (He.free_ok X G (c.fact 34 (f := .free "min") rfl))
  have H_place_in : Has P w mg base W 2 "place_in" ["index", "size"] 2 f_place_in [(2, [], [0, 1], [])] := B_place_in.has (He.glo_ok X G (c.fact 35 (f := .glo "place_in") rfl))
  have B_Deque_insert := @ok_Deque_insert P w mg base W _ _ hW hN F_Deque_insert (He.free_ok X G (c.fact 7 (f := .free "len") rfl)) (He.free_ok X G (c.fact 34 (f := .free "min") rfl)) (He.free_ok X G (c.fact 17 (f := .free "int") rfl)) H_is_integer XI_BadIndex H_need_item M_Deque_Deque_is_full X0_Full H_place_in M_Deque_Deque_note
  have XO_CountError : XOk W xt0 7 := xoB_ok hcl (c.x 17 (f := xoB (cs0 ++ xs0) xt0 7) rfl)
  have L__law_error := ok__law_error (P := P) (w := w) (mg := mg) (base := base) (W := W) hW hN F__law_error (He.glo_ok X G (c.fact 41 (f := .glo "_law_error") rfl)) (by rw [hc_Full]; exact (He.glo_ok X G (c.fact 1 (f := .glo "Full") rfl))) (He.free_ok X G (c.fact 16 (f := .free "isinstance") rfl)) (He.free_ok X G (c.fact 36 (f := .free "IndexError") rfl)) (by rw [hc_Empty]; exact (He.glo_ok X G (c.fact 2 (f := .glo "Empty") rfl))) (by rw [hc_NotFound]; exact (He.glo_ok X G (c.fact 6 (f := .glo "NotFound") rfl))) (He.free_ok X G (c.fact 37 (f := .free "repr") rfl)) (He.free_ok X G (c.fact 38 (f := .free "LookupError") rfl)) (by rw [hc_BadIndex]; exact (He.glo_ok X G (c.fact 5 (f := .glo "BadIndex") rfl))) (by rw [hc_BadBound]; exact (He.glo_ok X G (c.fact 4 (f := .glo "BadBound") rfl))) (by rw [hc_CountError]; exact (He.glo_ok X G (c.fact 39 (f := .glo "CountError") rfl))) (by rw [hc_BadItem]; exact (He.glo_ok X G (c.fact 3 (f := .glo "BadItem") rfl))) (He.free_ok X G (c.fact 40 (f := .free "ValueError") rfl)) XW XO_CountError
  have M_Deque_Deque_extend : HasM P w mg base W 12 0 "extend" ["self", "items"] 2 f_Deque_extend [(2, [], [0, 1], [])] := B_Deque_extend.meth (by rw [hc_Deque]; exact methB_ok (c.x 18 (f := methB "Deque" "extend" (pMeth "Deque" "extend")) rfl))
  have M_Deque_Deque_extend_left : HasM P w mg base W 12 0 "extend_left" ["self", "items"] 2 f_Deque_extend_left [(2, [], [0, 1], [])] := B_Deque_extend_left.meth (by rw [hc_Deque]; exact methB_ok (c.x 19 (f := methB "Deque" "extend_left" (pMeth "Deque" "extend_left")) rfl))
  have M_Deque_Deque_insert : HasM P w mg base W 10 0 "insert" ["self", "index", "item"] 3 f_Deque_insert [(3, [], [0, 1, 2], [])] := B_Deque_insert.meth (by rw [hc_Deque]; exact methB_ok (c.x 20 (f := methB "Deque" "insert" (pMeth "Deque" "insert")) rfl))
  have C_Deque : HasC P w mg base W 12 0 "Deque" ["self", "items", "bound"] 3 f_Deque_xinit [(2, ["bound"], [0, 1, 3], [(.tup [])]), (2, [], [0, 1, 3], [(.tup []), .non])] := B_Deque_xinit.cls (by rw [hc_Deque]; exact mkB_ok (c.x 21 (f := mkB "Deque" (pMeth "Deque" "__init__")) rfl)) (by rw [hc_Deque]; exact (He.glo_ok X G (c.fact 28 (f := .glo "Deque") rfl))) (by rw [hW] <;> rfl)
  have B__law_items_refused := ok__law_items_refused (P := P) (w := w) (mg := mg) (base := base) (W := W) (cL := codF W.K ((pDef "_law_items_refused") W.K)) (pL := tabF W.K (codF W.K ((pDef "_law_items_refused") W.K))) (hTB (codF W.K ((pDef "_law_items_refused") W.K), tabF W.K (codF W.K ((pDef "_law_items_refused") W.K))) (List.mem_of_getElem? (i := 0) rfl)) (FunD.codeF F__law_items_refused (hl _ (List.mem_of_getElem? (i := 0) rfl))) (by rw [hWT]; exact List.mem_of_getElem? (i := 0) rfl) (by rw [hWT]; exact tab_u ndT (List.mem_of_getElem? (i := 0) rfl)) hW hN F__law_items_refused (He.free_ok X G (c.fact 37 (f := .free "repr") rfl)) M_Deque_Deque_append M_Deque_Deque_append_left M_Deque_Deque_extend M_Deque_Deque_extend_left M_Deque_Deque_insert C_Deque L__law_error
  have B_Deque_xcontains := @ok_Deque_xcontains P w mg base W _ _ hW hN F_Deque_xcontains H_is_item
  have B_Deque_count := @ok_Deque_count P w mg base W _ _ hW hN F_Deque_count H_is_item
  have O_Deque_Deque_xcontains : HasO P w mg base W 8 0 "__contains__" ["self", "item"] 2 f_Deque_xcontains := B_Deque_xcontains.own (by rw [hc_Deque]; exact methB_ok (c.x 22 (f := methB "Deque" "__contains__" (pMeth "Deque" "__contains__")) rfl)) (HasM.fnIn0 F_Deque_xcontains) 0 rfl
  have B_Deque_index := @ok_Deque_index P w mg base W _ _ hW hN F_Deque_index (He.free_ok X G (c.fact 7 (f := .free "len") rfl)) H_place_in O_Deque_Deque_xcontains XI_NotFound
  have B_Deque_removed := @ok_Deque_removed P w mg base W _ _ hW hN F_Deque_removed (He.free_ok X G (c.fact 7 (f := .free "len") rfl)) (He.free_ok X G (c.fact 34 (f := .free "min") rfl)) (He.free_ok X G (c.fact 17 (f := .free "int") rfl)) M_Deque_Deque_note
  have M_Deque_Deque_index : HasM P w mg base W 10 0 "index" ["self", "item", "begin", "end"] 4 f_Deque_index [(2, [], [0, 1, 2, 3], [(.int 0), .non])] := B_Deque_index.meth (by rw [hc_Deque]; exact methB_ok (c.x 23 (f := methB "Deque" "index" (pMeth "Deque" "index")) rfl))
  have M_Deque_Deque_removed : HasM P w mg base W 4 0 "removed" ["self", "place"] 2 f_Deque_removed [(2, [], [0, 1], [])] := B_Deque_removed.meth (by rw [hc_Deque]; exact methB_ok (c.x 24 (f := methB "Deque" "removed" (pMeth "Deque" "removed")) rfl))
  have B_Deque_remove := @ok_Deque_remove P w mg base W _ _ hW hN F_Deque_remove M_Deque_Deque_index M_Deque_Deque_removed
  have B_Deque_place_of := @ok_Deque_place_of P w mg base W _ _ hW hN F_Deque_place_of (He.free_ok X G (c.fact 7 (f := .free "len") rfl)) H_is_integer XI_BadIndex
  have M_Deque_Deque_place_of : HasM P w mg base W 4 0 "place_of" ["self", "index"] 2 f_Deque_place_of [(2, [], [0, 1], [])] := B_Deque_place_of.meth (by rw [hc_Deque]; exact methB_ok (c.x 25 (f := methB "Deque" "place_of" (pMeth "Deque" "place_of")) rfl))
  have B_Deque_put := @ok_Deque_put P w mg base W _ _ hW hN F_Deque_put M_Deque_Deque_place_of H_need_item
  have B_Deque_delete := @ok_Deque_delete P w mg base W _ _ hW hN F_Deque_delete M_Deque_Deque_place_of M_Deque_Deque_removed
  have B_Deque_xgetitem := @ok_Deque_xgetitem P w mg base W _ _ hW hN F_Deque_xgetitem M_Deque_Deque_place_of
  have M_Deque_Deque_put : HasM P w mg base W 10 0 "put" ["self", "index", "item"] 3 f_Deque_put [(3, [], [0, 1, 2], [])] := B_Deque_put.meth (by rw [hc_Deque]; exact methB_ok (c.x 26 (f := methB "Deque" "put" (pMeth "Deque" "put")) rfl))
  have M_Deque_Deque_delete : HasM P w mg base W 6 0 "delete" ["self", "index"] 2 f_Deque_delete [(2, [], [0, 1], [])] := B_Deque_delete.meth (by rw [hc_Deque]; exact methB_ok (c.x 27 (f := methB "Deque" "delete" (pMeth "Deque" "delete")) rfl))
  have O_Deque_Deque_xgetitem : HasO P w mg base W 6 0 "__getitem__" ["self", "index"] 2 f_Deque_xgetitem := B_Deque_xgetitem.own (by rw [hc_Deque]; exact methB_ok (c.x 28 (f := methB "Deque" "__getitem__" (pMeth "Deque" "__getitem__")) rfl)) (HasM.fnIn0 F_Deque_xgetitem) 0 rfl
  have B__law_indexes_refused := ok__law_indexes_refused (P := P) (w := w) (mg := mg) (base := base) (W := W) (cL := codF W.K ((pDef "_law_indexes_refused") W.K)) (pL := tabF W.K (codF W.K ((pDef "_law_indexes_refused") W.K))) (hTB (codF W.K ((pDef "_law_indexes_refused") W.K), tabF W.K (codF W.K ((pDef "_law_indexes_refused") W.K))) (List.mem_of_getElem? (i := 1) rfl)) (FunD.codeF F__law_indexes_refused (hl _ (List.mem_of_getElem? (i := 1) rfl))) (by rw [hWT]; exact List.mem_of_getElem? (i := 1) rfl) (by rw [hWT]; exact tab_u ndT (List.mem_of_getElem? (i := 1) rfl)) hW hN F__law_indexes_refused (He.free_ok X G (c.fact 37 (f := .free "repr") rfl)) M_Deque_Deque_put M_Deque_Deque_delete O_Deque_Deque_xgetitem L__law_error
  have B_Deque_rotate := @ok_Deque_rotate P w mg base W _ _ hW hN F_Deque_rotate (He.free_ok X G (c.fact 7 (f := .free "len") rfl)) (He.free_ok X G (c.fact 34 (f := .free "min") rfl)) (He.free_ok X G (c.fact 17 (f := .free "int") rfl)) H_is_integer XI_BadIndex M_Deque_Deque_note
  have B_Deque_listed := @ok_Deque_listed P w mg base W _ _ hW hN F_Deque_listed (He.free_ok X G (c.fact 29 (f := .free "list") rfl))
  have B_Deque_bound := @ok_Deque_bound P w mg base W _ _ hW hN F_Deque_bound 
  have B_Deque_moves := @ok_Deque_moves P w mg base W _ _ hW hN F_Deque_moves 
  have B_Deque_xlen := @ok_Deque_xlen P w mg base W _ _ hW hN F_Deque_xlen (He.free_ok X G (c.fact 7 (f := .free "len") rfl))
  have B_Deque_xrepr := @ok_Deque_xrepr P w mg base W _ _ hW hN F_Deque_xrepr (He.free_ok X G (c.fact 7 (f := .free "len") rfl))
  have M_Deque_Deque_listed : HasM P w mg base W 2 0 "listed" ["self"] 1 f_Deque_listed [(1, [], [0], [])] := B_Deque_listed.meth (by rw [hc_Deque]; exact methB_ok (c.x 29 (f := methB "Deque" "listed" (pMeth "Deque" "listed")) rfl))
  have P_Deque_Deque_bound : HasP P w mg base W 2 0 "bound" ["self"] f_Deque_bound := B_Deque_bound.prop (pa := He.ma W.K (He.ga W.K "Deque") "bound") (by rw [hc_Deque]; exact propB_ok (c.x 30 (f := propB "Deque" "bound" (pProp "Deque" "bound")) rfl)) 0 rfl
  have P_Deque_Deque_moves : HasP P w mg base W 2 0 "moves" ["self"] f_Deque_moves := B_Deque_moves.prop (pa := He.ma W.K (He.ga W.K "Deque") "moves") (by rw [hc_Deque]; exact propB_ok (c.x 31 (f := propB "Deque" "moves" (pProp "Deque" "moves")) rfl)) 0 rfl
  have O_Deque_Deque_xlen : HasO P w mg base W 2 0 "__len__" ["self"] 1 f_Deque_xlen := B_Deque_xlen.own (by rw [hc_Deque]; exact methB_ok (c.x 32 (f := methB "Deque" "__len__" (pMeth "Deque" "__len__")) rfl)) (HasM.fnIn0 F_Deque_xlen) 0 rfl
  have O_Deque_Deque_xrepr : HasO P w mg base W 2 0 "__repr__" ["self"] 1 f_Deque_xrepr := B_Deque_xrepr.own (by rw [hc_Deque]; exact methB_ok (c.x 33 (f := methB "Deque" "__repr__" (pMeth "Deque" "__repr__")) rfl)) (HasM.fnIn0 F_Deque_xrepr) 0 rfl
  have B__law_fits := @ok__law_fits P w mg base W _ _ hW hN F__law_fits (He.free_ok X G (c.fact 21 (f := .free "str") rfl)) (He.free_ok X G (c.fact 7 (f := .free "len") rfl)) (He.free_ok X G (c.fact 37 (f := .free "repr") rfl)) M_Deque_Deque_listed P_Deque_Deque_bound P_Deque_Deque_moves O_Deque_Deque_xlen O_Deque_Deque_xrepr
  have B_Deque_clear := @ok_Deque_clear P w mg base W _ _ hW hN F_Deque_clear (He.free_ok X G (c.fact 7 (f := .free "len") rfl)) M_Deque_Deque_note
  have B_Deque_removed_end := @ok_Deque_removed_end P w mg base W _ _ hW hN F_Deque_removed_end X0_Empty M_Deque_Deque_note
  have M_Deque_Deque_removed_end : HasM P w mg base W 4 0 "removed_end" ["self", "place"] 2 f_Deque_removed_end [(2, [], [0, 1], [])] := B_Deque_removed_end.meth (by rw [hc_Deque]; exact methB_ok (c.x 34 (f := methB "Deque" "removed_end" (pMeth "Deque" "removed_end")) rfl))
  have B_Deque_pop := @ok_Deque_pop P w mg base W _ _ hW hN F_Deque_pop M_Deque_Deque_removed_end
  have B_Deque_pop_left := @ok_Deque_pop_left P w mg base W _ _ hW hN F_Deque_pop_left M_Deque_Deque_removed_end
  have H__law_source : Has P w mg base W 2 "_law_source" ["_law_script", "_law_place"] 2 f__law_source [(2, [], [0, 1], [])] := B__law_source.has (He.glo_ok X G (c.fact 42 (f := .glo "_law_source") rfl))
  have H__law_model : Has P w mg base W 10 "_law_model" ["_law_source_here"] 1 f__law_model [(1, [], [0], [])] := B__law_model.has (He.glo_ok X G (c.fact 43 (f := .glo "_law_model") rfl))
  have H__law_items_refused : HasG P w mg base W 17 "_law_items_refused" ["_law_deque", "_law_odd"] 2 f__law_items_refused [(2, [], [0, 1], [])] := B__law_items_refused.has (He.glo_ok X G (c.fact 44 (f := .glo "_law_items_refused") rfl))
  have M_Deque_Deque_count : HasM P w mg base W 8 0 "count" ["self", "item"] 2 f_Deque_count [(2, [], [0, 1], [])] := B_Deque_count.meth (by rw [hc_Deque]; exact methB_ok (c.x 35 (f := methB "Deque" "count" (pMeth "Deque" "count")) rfl))
  have M_Deque_Deque_remove : HasM P w mg base W 12 0 "remove" ["self", "item"] 2 f_Deque_remove [(2, [], [0, 1], [])] := B_Deque_remove.meth (by rw [hc_Deque]; exact methB_ok (c.x 36 (f := methB "Deque" "remove" (pMeth "Deque" "remove")) rfl))
  have H__law_indexes_refused : HasG P w mg base W 15 "_law_indexes_refused" ["_law_deque", "_law_odd"] 2 f__law_indexes_refused [(2, [], [0, 1], [])] := B__law_indexes_refused.has (He.glo_ok X G (c.fact 45 (f := .glo "_law_indexes_refused") rfl))
  have M_Deque_Deque_rotate : HasM P w mg base W 4 0 "rotate" ["self", "steps"] 2 f_Deque_rotate [(2, [], [0, 1], [(.int 1)])] := B_Deque_rotate.meth (by rw [hc_Deque]; exact methB_ok (c.x 37 (f := methB "Deque" "rotate" (pMeth "Deque" "rotate")) rfl))
  have H__law_fits : Has P w mg base W 4 "_law_fits" ["_law_deque", "_law_model_here"] 2 f__law_fits [(2, [], [0, 1], [])] := B__law_fits.has (He.glo_ok X G (c.fact 46 (f := .glo "_law_fits") rfl))
  have M_Deque_Deque_clear : HasM P w mg base W 4 0 "clear" ["self"] 1 f_Deque_clear [(1, [], [0], [])] := B_Deque_clear.meth (by rw [hc_Deque]; exact methB_ok (c.x 38 (f := methB "Deque" "clear" (pMeth "Deque" "clear")) rfl))
  have M_Deque_Deque_pop : HasM P w mg base W 6 0 "pop" ["self"] 1 f_Deque_pop [(1, [], [0], [])] := B_Deque_pop.meth (by rw [hc_Deque]; exact methB_ok (c.x 39 (f := methB "Deque" "pop" (pMeth "Deque" "pop")) rfl))
  have M_Deque_Deque_pop_left : HasM P w mg base W 6 0 "pop_left" ["self"] 1 f_Deque_pop_left [(1, [], [0], [])] := B_Deque_pop_left.meth (by rw [hc_Deque]; exact methB_ok (c.x 40 (f := methB "Deque" "pop_left" (pMeth "Deque" "pop_left")) rfl))
  have B_law := ok_law (P := P) (w := w) (mg := mg) (base := base) (W := W) (cL := codF W.K ((pDef "law") W.K)) (pL := tabF W.K (codF W.K ((pDef "law") W.K))) (hTB (codF W.K ((pDef "law") W.K), tabF W.K (codF W.K ((pDef "law") W.K))) (List.mem_of_getElem? (i := 2) rfl)) (FunD.codeF F_law (hl _ (List.mem_of_getElem? (i := 2) rfl))) (by rw [hWT]; exact List.mem_of_getElem? (i := 2) rfl) (by rw [hWT]; exact tab_u ndT (List.mem_of_getElem? (i := 2) rfl)) hW hN F_law (He.free_ok X G (c.fact 11 (f := .free "range") rfl)) (He.free_ok X G (c.fact 31 (f := .free "max") rfl)) (He.free_ok X G (c.fact 34 (f := .free "min") rfl)) (He.free_ok X G (c.fact 7 (f := .free "len") rfl)) (He.free_ok X G (c.fact 37 (f := .free "repr") rfl)) (He.free_ok X G (c.fact 16 (f := .free "isinstance") rfl)) (He.free_ok X G (c.fact 17 (f := .free "int") rfl)) (He.free_ok X G (c.fact 18 (f := .free "bool") rfl)) H__law_source H__law_model C_Deque H__law_items_refused O_Deque_Deque_xcontains M_Deque_Deque_count L__law_error M_Deque_Deque_remove M_Deque_Deque_index H__law_indexes_refused M_Deque_Deque_rotate M_Deque_Deque_insert H__law_fits M_Deque_Deque_clear M_Deque_Deque_pop M_Deque_Deque_pop_left
  exact law_spT (by rw [hWT]; rfl) B_law law_true
end Q
theorem PySem.Challenge.cw_dequecounts_k27_deques_refuse_holds : PySem.Challenge.rw_dequecounts_k27_deques_refuse.Holds :=
  Q.fin_ Q.facts
