import PyProof.Rows.All
import Wide.All
import OpenK.AllK
import Wide.FinOn
import HandS.Base
import HandS.Call
import HandS.List
import HandS.Comp
import HandS.Ends
import HandS.Dict
import HandS.Iter
import HandS.Text
import HandS.Words
import HandS.WordsList
import HandS.Exc
import HandS.TryOnly
import HandS.ExcOwn
import HandS.WordsExc
import HandS.TupAny
import HandS.Wide
import HandS.Deep
import HandS.IsInst
import HandS.More
import HandS.Style
import HandS.Conv
import HandS.WordsDict
import HandS.Defaults
import HandS.MakeKw
import HandS.MakeKwOnly
import KE.KStar
import HandS.SortInts
import HandS.SetFor
import KE.GoesEnum
import PyProof.CollectIter
import KE.KUnpackStar
import HandS.HeadEnd
import HandS.HeadHook1
import HandS.HeadHook2
import HandS.Small
import Lean
import HandS.Head0
import HandS.Head1
import HandS.Head2
import PySem.Challenge.RW_dequecounts_k66_whole_long_deques_are_un
set_option Elab.async false
set_option linter.all false
set_option maxRecDepth 100000
set_option maxHeartbeats 4000000
/-! A layer of plain values over the hand layer: tuples are values, lists and objects stand at numbered places. -/
namespace Dn
open PySem PySem.Spec PyProof.Rows L2

/-- a plain value: a tuple is its items; rol: a list that nobody writes; ref: the n-th object of the plain heap; adr: a class or a def of the text -/
inductive AV where
  | non
  | bl (b : Bool)
  | int (i : Int)
  | str (x : Str)
  | tup (xs : List AV)
  | rol (xs : List AV)
  | ref (n : Nat)
  | adr (a : Addr)
  | ty (n : String)
  | cls (t : Nat)
  | exn (t : Nat) (fs : List (Nat × AV))

/-- a plain object -/
inductive AO where
  | lst (xs : List AV)
  | dK (kvs : List (Key × AV))
  | dT (kvs : List (List Key × AV))
  | ins (t : Nat) (fs : List (Nat × AV))
  | frz (o : AO)

abbrev Hep := List AO
abbrev Sl := List (Option AV)

/-- the classes of a text: which numbers are classes whose instances are made, which of them lie under which -/
structure CT where
  kit : Nat → Bool
  sub : Nat → Nat → Bool
abbrev tyNames : List String := ["NoneType", "bool", "int", "str", "list", "tuple", "dict"]
/-- the written part, the classes by number, the attributes' names by number -/
structure Wd where
  K : PySem.W.Frag
  cl : Nat → Addr
  fn : List Str
  fnd : fn.Nodup
  ct : CT
  cg : ∀ t, ct.kit t = true → Cls K (cl t) ∧ PySem.W.findIn K (.ref (cl t)) "__class__" = some (some (.builtin "object.__class__")) ∧ PySem.W.mroIn K (cl t) (.type "object") = some true
  cd : PySem.W.specialIn K (.builtin "object.__class__") "__get__" = some (some (.builtin "getset_descriptor.__get__"))
  ck : PySem.W.takesIn K (.builtin "object.__class__") = some true
  ctf : ∀ n t, n ∈ tyNames → ct.kit t = true → PySem.W.kitOne K (.type n) (.ref (cl t)) = some false
  cty : ∀ n t, n ∈ tyNames → ct.kit t = true → PySem.W.kitOne K (.ref (cl t)) (.type n) = some false
  csf : ∀ s t, ct.kit s = true → ct.kit t = true → PySem.W.kitOne K (.ref (cl s)) (.ref (cl t)) = some (ct.sub s t)

def RoL (K : PySem.W.Frag) (H : Hp) (a : Addr) (xs : List V) : Prop := (∃ o, H a = some (.frz o (.lst xs))) ∨ SqL K (fun _ => none) a xs

mutual
inductive RV (W : Wd) (io : List Addr) (H : Hp) : AV → V → Prop
  | non : RV W io H .non .non
  | bl (b : Bool) : RV W io H (.bl b) (.bl b)
  | int (i : Int) : RV W io H (.int i) (.int i)
  | str (x : Str) : RV W io H (.str x) (.str x)
  | tup {a : Addr} {vs : List V} {xs : List AV} : SqT W.K H a vs → RVs W io H xs vs → RV W io H (.tup xs) (.ref a)
  | rol {a : Addr} {vs : List V} {xs : List AV} : RoL W.K H a vs → RVs W io H xs vs → RV W io H (.rol xs) (.ref a)
  | ref {n : Nat} {a : Addr} : io[n]? = some a → RV W io H (.ref n) (.ref a)
  | adr (a : Addr) : RV W io H (.adr a) (.ref a)
  | ty (n : String) : RV W io H (.ty n) (.ty n)
  | cls (t : Nat) : RV W io H (.cls t) (.ref (W.cl t))
inductive RVs (W : Wd) (io : List Addr) (H : Hp) : List AV → List V → Prop
  | nil : RVs W io H [] []
  | cons {x : AV} {v : V} {xs : List AV} {vs : List V} : RV W io H x v → RVs W io H xs vs → RVs W io H (x :: xs) (v :: vs)
end

/-- pairs with equal keys -/
inductive RKs {k : Type} (W : Wd) (io : List Addr) (H : Hp) : List (k × AV) → List (k × V) → Prop
  | nil : RKs W io H [] []
  | cons {q : k} {x : AV} {v : V} {xs : List (k × AV)} {vs : List (k × V)} : RV W io H x v → RKs W io H xs vs → RKs W io H ((q, x) :: xs) ((q, v) :: vs)
/-- attributes: by number, by name -/
inductive RFs (W : Wd) (io : List Addr) (H : Hp) : List (Nat × AV) → List (Str × V) → Prop
  | nil : RFs W io H [] []
  | cons {q : Nat} {s : Str} {x : AV} {v : V} {xs : List (Nat × AV)} {vs : List (Str × V)} : W.fn[q]? = some s → RV W io H x v → RFs W io H xs vs → RFs W io H ((q, x) :: xs) ((s, v) :: vs)

/-- what stands at a place: as HO -/
inductive RO (W : Wd) (io : List Addr) (H : Hp) : AO → HO → Prop
  | lst {xs : List AV} {vs : List V} : RVs W io H xs vs → RO W io H (.lst xs) (.lst vs)
  | dK {xs : List (Key × AV)} {vs : List (Key × V)} : RKs W io H xs vs → RO W io H (.dK xs) (.dK vs)
  | dT {xs : List (List Key × AV)} {vs : List (List Key × V)} : RKs W io H xs vs → RO W io H (.dT xs) (.dT vs)
  | ins {t : Nat} {dx : Addr} {fs : List (Nat × AV)} {vs : List (Str × V)} : RFs W io H fs vs → RO W io H (.ins t fs) (.ins (W.cl t) dx vs)
  | frz {o : AO} {u : HO} {b : Obj} : RO W io H o u → RO W io H (.frz o) (.frz b u)

structure Rl (W : Wd) (io : List Addr) (hp : Hep) (H : Hp) : Prop where
  len : io.length = hp.length
  nd : io.Nodup
  ob : ∀ (i : Nat) (a : Addr) (o : AO), io[i]? = some a → hp[i]? = some o → ∃ u, H a = some u ∧ RO W io H o u

/-- how the heap goes on -/
structure Ext (W : Wd) (io : List Addr) (H : Hp) (io' : List Addr) (H' : Hp) : Prop where
  pre : ∃ l, io' = io ++ l
  tup : ∀ a xs, SqT W.K H a xs → SqT W.K H' a xs
  rol : ∀ a xs, RoL W.K H a xs → RoL W.K H' a xs
  xd : ∀ a fs, H a = some (.xd fs) → H' a = some (.xd fs)

section
variable {W : Wd} {io io' io'' : List Addr} {H H' H'' : Hp}
theorem Ext.refl : Ext W io H io H := ⟨⟨[], by simp⟩, fun _ _ h => h, fun _ _ h => h, fun _ _ h => h⟩
theorem Ext.trans (e : Ext W io H io' H') (f : Ext W io' H' io'' H'') : Ext W io H io'' H'' := by
  obtain ⟨l, rfl⟩ := e.pre
  obtain ⟨m, rfl⟩ := f.pre
  exact ⟨⟨l ++ m, by simp⟩, fun a xs h => f.tup a xs (e.tup a xs h), fun a xs h => f.rol a xs (e.rol a xs h), fun a xs h => f.xd a xs (e.xd a xs h)⟩
theorem Ext.at (e : Ext W io H io' H') {n : Nat} {a : Addr} (h : io[n]? = some a) : io'[n]? = some a := by
  obtain ⟨l, rfl⟩ := e.pre
  obtain ⟨hl, _⟩ := List.getElem?_eq_some_iff.mp h
  rw [List.getElem?_append_left hl]
  exact h
mutual
theorem RV.mono (e : Ext W io H io' H') : ∀ {x : AV} {v : V}, RV W io H x v → RV W io' H' x v
  | _, _, .non => .non
  | _, _, .bl b => .bl b
  | _, _, .int i => .int i
  | _, _, .str x => .str x
  | _, _, .tup h r => .tup (e.tup _ _ h) (RVs.mono e r)
  | _, _, .rol h r => .rol (e.rol _ _ h) (RVs.mono e r)
  | _, _, .ref h => .ref (e.at h)
  | _, _, .adr a => .adr a
  | _, _, .ty n => .ty n
  | _, _, .cls t => .cls t
theorem RVs.mono (e : Ext W io H io' H') : ∀ {xs : List AV} {vs : List V}, RVs W io H xs vs → RVs W io' H' xs vs
  | _, _, .nil => .nil
  | _, _, .cons r q => .cons (RV.mono e r) (RVs.mono e q)
end
theorem RKs.mono {k : Type} (e : Ext W io H io' H') : ∀ {xs : List (k × AV)} {vs : List (k × V)}, RKs W io H xs vs → RKs W io' H' xs vs
  | _, _, .nil => .nil
  | _, _, .cons r q => .cons (RV.mono e r) (RKs.mono e q)
theorem RFs.mono (e : Ext W io H io' H') : ∀ {xs : List (Nat × AV)} {vs : List (Str × V)}, RFs W io H xs vs → RFs W io' H' xs vs
  | _, _, .nil => .nil
  | _, _, .cons f r q => .cons f (RV.mono e r) (RFs.mono e q)
theorem RO.mono (e : Ext W io H io' H') {o : AO} {u : HO} (h : RO W io H o u) : RO W io' H' o u := by
  induction h with
  | lst r => exact .lst (r.mono e)
  | dK r => exact .dK (r.mono e)
  | dT r => exact .dT (r.mono e)
  | ins r => exact .ins (r.mono e)
  | frz _ ih => exact .frz ih

/-! ### lists of values -/
theorem RVs.len : ∀ {xs : List AV} {vs : List V}, RVs W io H xs vs → xs.length = vs.length
  | _, _, .nil => rfl
  | _, _, .cons _ q => by simp [RVs.len q]
theorem RVs.get : ∀ {xs : List AV} {vs : List V} {i : Nat} {x : AV}, RVs W io H xs vs → xs[i]? = some x → ∃ v, vs[i]? = some v ∧ RV W io H x v
  | _, _, _, _, .nil, h => by simp at h
  | _, _, 0, _, .cons r _, h => by simp at h; subst h; exact ⟨_, rfl, r⟩
  | _, _, i + 1, x, .cons _ q, h => by
    obtain ⟨v, a, b⟩ := RVs.get (i := i) (x := x) q (by simpa using h)
    exact ⟨v, by simpa using a, b⟩
theorem RVs.app : ∀ {xs ys : List AV} {vs ws : List V}, RVs W io H xs vs → RVs W io H ys ws → RVs W io H (xs ++ ys) (vs ++ ws)
  | _, _, _, _, .nil, q => q
  | _, _, _, _, .cons r t, q => .cons r (RVs.app t q)
theorem RVs.take : ∀ {xs : List AV} {vs : List V} (n : Nat), RVs W io H xs vs → RVs W io H (xs.take n) (vs.take n)
  | _, _, 0, _ => .nil
  | _, _, n + 1, .nil => .nil
  | _, _, n + 1, .cons r t => .cons r (RVs.take n t)
theorem RVs.drop : ∀ {xs : List AV} {vs : List V} (n : Nat), RVs W io H xs vs → RVs W io H (xs.drop n) (vs.drop n)
  | _, _, 0, q => q
  | _, _, n + 1, .nil => .nil
  | _, _, n + 1, .cons r t => RVs.drop n t
theorem RVs.set : ∀ {xs : List AV} {vs : List V} (n : Nat) {x : AV} {v : V}, RV W io H x v → RVs W io H xs vs → RVs W io H (xs.set n x) (vs.set n v)
  | _, _, _, _, _, _, .nil => .nil
  | _, _, 0, _, _, r, .cons _ t => .cons r t
  | _, _, n + 1, _, _, r, .cons q t => .cons q (RVs.set n r t)
theorem RVs.rev : ∀ {xs : List AV} {vs : List V}, RVs W io H xs vs → RVs W io H xs.reverse vs.reverse
  | _, _, .nil => .nil
  | _, _, .cons r t => by
    rw [List.reverse_cons, List.reverse_cons]
    exact RVs.app (RVs.rev t) (.cons r .nil)
theorem RVs.erase : ∀ {xs : List AV} {vs : List V} (n : Nat), RVs W io H xs vs → RVs W io H (xs.eraseIdx n) (vs.eraseIdx n)
  | _, _, _, .nil => .nil
  | _, _, 0, .cons _ t => t
  | _, _, n + 1, .cons r t => .cons r (RVs.erase n t)
theorem RVs.rep {xs : List AV} {vs : List V} (h : RVs W io H xs vs) : ∀ n : Nat, RVs W io H (List.replicate n xs).flatten (List.replicate n vs).flatten
  | 0 => .nil
  | n + 1 => by
    rw [List.replicate_succ, List.replicate_succ, List.flatten_cons, List.flatten_cons]
    exact h.app (RVs.rep h n)
theorem RVs.dropLast : ∀ {xs : List AV} {vs : List V}, RVs W io H xs vs → RVs W io H xs.dropLast vs.dropLast := fun {xs vs} h => by
  rw [List.dropLast_eq_take, List.dropLast_eq_take, h.len]
  exact h.take _
/-- values that are the same in every heap -/
theorem RVs.ints : ∀ ns : List Int, RVs W io H (ns.map .int) (ns.map .int)
  | [] => .nil
  | n :: r => .cons (.int n) (RVs.ints r)
theorem RVs.ints_inv : ∀ {ns : List Int} {vs : List V}, RVs W io H (ns.map .int) vs → vs = ns.map .int
  | [], _, .nil => rfl
  | n :: r, _, .cons (.int _) q => by rw [RVs.ints_inv q]; rfl
theorem RVs.bls_inv : ∀ {ns : List Bool} {vs : List V}, RVs W io H (ns.map .bl) vs → vs = ns.map .bl
  | [], _, .nil => rfl
  | n :: r, _, .cons (.bl _) q => by rw [RVs.bls_inv q]; rfl

/-! ### the heap's steps -/
theorem Rl.at (R : Rl W io hp H) {n : Nat} {a : Addr} {o : AO} (hi : io[n]? = some a) (ho : hp[n]? = some o) : ∃ u, H a = some u ∧ RO W io H o u := R.ob n a o hi ho
theorem Rl.lst (R : Rl W io hp H) {n : Nat} {a : Addr} {xs : List AV} (hi : io[n]? = some a) (ho : hp[n]? = some (.lst xs)) : ∃ vs, H a = some (.lst vs) ∧ RVs W io H xs vs := by
  obtain ⟨u, e, r⟩ := R.at hi ho
  cases r with
  | lst q => exact ⟨_, e, q⟩
theorem Rl.dK (R : Rl W io hp H) {n : Nat} {a : Addr} {xs : List (Key × AV)} (hi : io[n]? = some a) (ho : hp[n]? = some (.dK xs)) : ∃ vs, H a = some (.dK vs) ∧ RKs W io H xs vs := by
  obtain ⟨u, e, r⟩ := R.at hi ho
  cases r with
  | dK q => exact ⟨_, e, q⟩
theorem Rl.dT (R : Rl W io hp H) {n : Nat} {a : Addr} {xs : List (List Key × AV)} (hi : io[n]? = some a) (ho : hp[n]? = some (.dT xs)) : ∃ vs, H a = some (.dT vs) ∧ RKs W io H xs vs := by
  obtain ⟨u, e, r⟩ := R.at hi ho
  cases r with
  | dT q => exact ⟨_, e, q⟩
theorem Rl.ins (R : Rl W io hp H) {n t : Nat} {a : Addr} {xs : List (Nat × AV)} (hi : io[n]? = some a) (ho : hp[n]? = some (.ins t xs)) : ∃ dx vs, H a = some (.ins (W.cl t) dx vs) ∧ RFs W io H xs vs := by
  obtain ⟨u, e, r⟩ := R.at hi ho
  cases r with
  | ins q => exact ⟨_, _, e, q⟩
theorem Rl.has (R : Rl W io hp H) {n : Nat} {a : Addr} (hi : io[n]? = some a) : ∃ o u, hp[n]? = some o ∧ H a = some u ∧ RO W io H o u := by
  obtain ⟨hl, _⟩ := List.getElem?_eq_some_iff.mp hi
  have h2 : hp[n]? = some (hp[n]'(by rw [← R.len]; exact hl)) := List.getElem?_eq_getElem _
  obtain ⟨u, e, r⟩ := R.at hi h2
  exact ⟨_, u, h2, e, r⟩
/-- an address of ours is tracked -/
theorem Rl.mem (R : Rl W io hp H) {a : Addr} (h : a ∈ io) : ∃ u, H a = some u := by
  obtain ⟨n, hn⟩ := List.mem_iff_getElem?.mp h
  obtain ⟨_, u, _, e, _⟩ := R.has hn
  exact ⟨u, e⟩
theorem sqT_new {K : PySem.W.Frag} {p : Addr} {ho : HO} (hp : H p = none) {a : Addr} {xs : List V} (h : SqT K H a xs) : SqT K (upd H p ho) a xs := by
  rcases h with (h | ⟨o, h⟩) | h
  · exact .inl (.inl (by rw [upd_ne (ne_of_none h hp)]; exact h))
  · exact .inl (.inr ⟨o, by rw [upd_ne (ne_of_none h hp)]; exact h⟩)
  · exact .inr h
theorem roL_new {K : PySem.W.Frag} {p : Addr} {ho : HO} (hp : H p = none) {a : Addr} {xs : List V} (h : RoL K H a xs) : RoL K (upd H p ho) a xs := by
  rcases h with ⟨o, h⟩ | h
  · exact .inl ⟨o, by rw [upd_ne (ne_of_none h hp)]; exact h⟩
  · exact .inr h
theorem Ext.new (io : List Addr) {p : Addr} (ho : HO) (hp : H p = none) (l : List Addr) : Ext W io H (io ++ l) (upd H p ho) :=
  ⟨⟨l, rfl⟩, fun _ _ h => sqT_new hp h, fun _ _ h => roL_new hp h, fun a fs h => by rw [upd_ne (ne_of_none h hp)]; exact h⟩
theorem Ext.new0 {p : Addr} {ho : HO} (hp : H p = none) : Ext W io H io (upd H p ho) := by
  have e := Ext.new (W := W) io ho hp []
  rwa [List.append_nil] at e
/-- a new thing that is none of ours (a tuple, an exception's dict) -/
theorem Rl.other (R : Rl W io hp H) {p : Addr} {ho : HO} (hn : H p = none) : Rl W io hp (upd H p ho) := by
  refine ⟨R.len, R.nd, fun i a o hi h => ?_⟩
  obtain ⟨u, e, r⟩ := R.at hi h
  exact ⟨u, by rw [upd_ne (ne_of_none e hn)]; exact e, r.mono (Ext.new0 hn)⟩
/-- a new object -/
theorem Rl.new (R : Rl W io hp H) {p : Addr} {ho : HO} {o : AO} (hn : H p = none) (r : RO W (io ++ [p]) (upd H p ho) o ho) : Rl W (io ++ [p]) (hp ++ [o]) (upd H p ho) := by
  have hp' : p ∉ io := fun h => by
    obtain ⟨u, e⟩ := R.mem h
    rw [hn] at e
    cases e
  refine ⟨by simp [R.len], ?_, fun i a q hi h => ?_⟩
  · refine List.nodup_append.mpr ⟨R.nd, by simp, fun a ha b hb => ?_⟩
    rw [List.mem_singleton] at hb
    subst hb
    rintro rfl
    exact hp' ha
  · by_cases hl : i < io.length
    · rw [List.getElem?_append_left hl] at hi
      rw [List.getElem?_append_left (by rw [← R.len]; exact hl)] at h
      obtain ⟨u, e, r'⟩ := R.at hi h
      exact ⟨u, by rw [upd_ne (ne_of_none e hn)]; exact e, r'.mono (Ext.new io ho hn [p])⟩
    · rw [List.getElem?_append_right (by omega)] at hi
      rw [List.getElem?_append_right (by rw [← R.len]; omega)] at h
      rw [R.len] at hi
      have z : i - hp.length = 0 := by
        obtain ⟨hh, _⟩ := List.getElem?_eq_some_iff.mp hi
        simp at hh
        omega
      rw [z] at hi h
      simp at hi h
      subst hi
      subst h
      exact ⟨ho, upd_same, r⟩
/-- the objects that may be written -/
def Wr : HO → Prop
  | .lst _ => True
  | .dK _ => True
  | .dT _ => True
  | .ins _ _ _ => True
  | _ => False
theorem sqT_set {K : PySem.W.Frag} {p : Addr} {u ho : HO} (hp : H p = some u) (w : Wr u) {a : Addr} {xs : List V} (h : SqT K H a xs) : SqT K (upd H p ho) a xs := by
  rcases h with (h | ⟨o, h⟩) | h
  · exact .inl (.inl (by rw [upd_ne (ne_of h hp (by rintro rfl; exact w))]; exact h))
  · exact .inl (.inr ⟨o, by rw [upd_ne (ne_of h hp (by rintro rfl; exact w))]; exact h⟩)
  · exact .inr h
theorem roL_set {K : PySem.W.Frag} {p : Addr} {u ho : HO} (hp : H p = some u) (w : Wr u) {a : Addr} {xs : List V} (h : RoL K H a xs) : RoL K (upd H p ho) a xs := by
  rcases h with ⟨o, h⟩ | h
  · exact .inl ⟨o, by rw [upd_ne (ne_of h hp (by rintro rfl; exact w))]; exact h⟩
  · exact .inr h
theorem Ext.set {p : Addr} {u : HO} (ho : HO) (hp : H p = some u) (w : Wr u) : Ext W io H io (upd H p ho) :=
  ⟨⟨[], by simp⟩, fun _ _ h => sqT_set hp w h, fun _ _ h => roL_set hp w h, fun a fs h => by rw [upd_ne (ne_of h hp (by rintro rfl; exact w))]; exact h⟩
theorem Rl.set (R : Rl W io hp H) {n : Nat} {p : Addr} {u ho : HO} {o : AO} (hi : io[n]? = some p) (hu : H p = some u) (w : Wr u) (r : RO W io (upd H p ho) o ho) : Rl W io (hp.set n o) (upd H p ho) := by
  refine ⟨by simp [R.len], R.nd, fun i a q hi' h => ?_⟩
  by_cases e : i = n
  · subst e
    rw [hi] at hi'
    cases hi'
    obtain ⟨hl, _⟩ := List.getElem?_eq_some_iff.mp h
    rw [List.length_set] at hl
    rw [List.getElem?_set_self hl] at h
    cases h
    exact ⟨ho, upd_same, r⟩
  · rw [List.getElem?_set_ne (Ne.symm e)] at h
    obtain ⟨v, ev, rv⟩ := R.at hi' h
    have ne : a ≠ p := fun z => by
      subst z
      obtain ⟨l1, e1⟩ := List.getElem?_eq_some_iff.mp hi
      obtain ⟨l2, e2⟩ := List.getElem?_eq_some_iff.mp hi'
      exact e ((List.getElem_inj R.nd).mp (e2.trans e1.symm))
    exact ⟨v, by rw [upd_ne ne]; exact ev, rv.mono (Ext.set ho hu w)⟩
/-- the heap grows by things that are none of ours -/
theorem Rl.grow (R : Rl W io hp H) (k : ∀ a o, H a = some o → H' a = some o) : Rl W io hp H' ∧ Ext W io H io H' := by
  have e : Ext W io H io H' := ⟨⟨[], by simp⟩, fun a xs h => by
      rcases h with (h | ⟨o, h⟩) | h
      · exact .inl (.inl (k _ _ h))
      · exact .inl (.inr ⟨o, k _ _ h⟩)
      · exact .inr h, fun a xs h => by
      rcases h with ⟨o, h⟩ | h
      · exact .inl ⟨o, k _ _ h⟩
      · exact .inr h, fun a fs h => k _ _ h⟩
  refine ⟨⟨R.len, R.nd, fun i a o hi h => ?_⟩, e⟩
  obtain ⟨u, eu, r⟩ := R.at hi h
  exact ⟨u, k _ _ eu, r.mono e⟩
end
end Dn
namespace Dn
open PySem PySem.Spec PyProof.Rows L2

/-- what an expression comes to -/
inductive R (T : Type) where
  | ok (a : T) (h : Hep)
  | exc (t : Nat) (fs : List (Nat × AV)) (h : Hep)
  | stuck
def R.bind {T U : Type} (r : R T) (k : T → Hep → R U) : R U := match r with
  | .ok a h => k a h
  | .exc t fs h => .exc t fs h
  | .stuck => .stuck
abbrev Op (T : Type) := Option (T × Hep)
def R.of {T : Type} : Op T → R T
  | some (a, h) => .ok a h
  | none => .stuck
abbrev DE := Sl → Hep → R AV
abbrev DT := Sl → Hep → R Bool
abbrev DA := Sl → Hep → R (List AV)
/-- what a statement comes to -/
inductive SR where
  | nx (s : Sl) (h : Hep)
  | rt (v : AV) (h : Hep)
  | bk (s : Sl) (h : Hep)
  | ct (s : Sl) (h : Hep)
  | exc (t : Nat) (fs : List (Nat × AV)) (s : Sl) (h : Hep)
  | stuck
abbrev DS := Sl → Hep → SR
def R.st {T : Type} (r : R T) (s : Sl) (k : T → Hep → SR) : SR := match r with
  | .ok a h => k a h
  | .exc t fs h => .exc t fs s h
  | .stuck => .stuck
def SR.then (r : SR) (k : Sl → Hep → SR) : SR := match r with
  | .nx s h => k s h
  | r => r

/-- an exception: its class, its fields -/
def RX (W : Wd) (io : List Addr) (H : Hp) (t : Nat) (fs : List (Nat × AV)) (cls : Value) (d : Option Addr) : Prop :=
  cls = .ref (W.cl t) ∧ (fs = [] ∨ ∃ dd vs, d = some dd ∧ H dd = some (.xd vs) ∧ RFs W io H fs vs)

/-- how the slots are held -/
structure Md (W : Wd) where
  rel : List Addr → Hp → Sl → L2.St → Prop
  mono : ∀ {io io' H H' as σ}, Ext W io H io' H' → rel io H as σ → rel io' H' as σ
  var : ∀ {io H as σ} {i : Nat} {v : AV}, rel io H as σ → as[i]? = some (some v) → (∀ t fs, v ≠ .exn t fs) → ∃ x, σ[i]? = some (some x) ∧ RV W io H v x
  ok : Nat → Prop
  set : ∀ {io H as σ} {i : Nat} {v : AV} {x : V}, rel io H as σ → RV W io H v x → ok i → rel io H (as.set i (some v)) (σ.set i (some x))
  wipe : ∀ {io H as σ} {i : Nat}, rel io H as σ → ok i → rel io H (as.set i none) (σ.set i none)

/-- the slots of a def -/
def std (W : Wd) : Md W where
  rel := fun io H as σ => as.length = σ.length ∧ ∀ (i : Nat) (v : AV), as[i]? = some (some v) → ∃ x, σ[i]? = some (some x) ∧ RV W io H v x
  mono := fun e h => ⟨h.1, fun i v a => by
    obtain ⟨x, b, r⟩ := h.2 i v a
    exact ⟨x, b, r.mono e⟩⟩
  var := fun h a _ => h.2 _ _ a
  ok := fun _ => True
  set := fun {io H as σ i v x} h r _ => ⟨by simp [h.1], fun j w a => by
    by_cases e : j = i
    · subst e
      obtain ⟨hl, _⟩ := List.getElem?_eq_some_iff.mp a
      rw [List.length_set] at hl
      rw [List.getElem?_set_self hl] at a
      cases a
      exact ⟨x, List.getElem?_set_self (by rw [← h.1]; exact hl), r⟩
    · rw [List.getElem?_set_ne (Ne.symm e)] at a ⊢
      exact h.2 j w a⟩
  wipe := fun {io H as σ i} h _ => ⟨by simp [h.1], fun j w a => by
    by_cases e : j = i
    · subst e
      obtain ⟨hl, _⟩ := List.getElem?_eq_some_iff.mp a
      rw [List.length_set] at hl
      rw [List.getElem?_set_self hl] at a
      cases a
    · rw [List.getElem?_set_ne (Ne.symm e)] at a ⊢
      exact h.2 j w a⟩

section
variable {W : Wd} {M : Md W} {T T' U U' : Type}
abbrev Rel (T U : Type) := List Addr → Hp → T → U → Prop
def Pop (W : Wd) (rh : Rel T U) (Q : U → Hp → Prop) (io : List Addr) (H : Hp) : Op T → Prop
  | some (v, hp) => ∀ io' H' x, Ext W io H io' H' → Rl W io' hp H' → rh io' H' v x → Q x H'
  | none => False
def Pst (W : Wd) (rh : Rel T U) (E : WX) (σ : L2.St) (Q : U → Hp → Prop) (io : List Addr) (H : Hp) : R T → Prop
  | .ok v hp => ∀ io' H' x, Ext W io H io' H' → Rl W io' hp H' → rh io' H' v x → Q x H'
  | .exc t fs hp => ∀ io' H' cls d, Ext W io H io' H' → Rl W io' hp H' → RX W io' H' t fs cls d → E cls d σ H'
  | .stuck => False
def Pss (W : Wd) (M : Md W) (E : WX) (D : Ends) (io : List Addr) (H : Hp) : SR → Prop
  | .nx s hp => ∀ io' H' σ', Ext W io H io' H' → Rl W io' hp H' → M.rel io' H' s σ' → D.nx σ' H'
  | .rt v hp => ∀ io' H' x, Ext W io H io' H' → Rl W io' hp H' → RV W io' H' v x → D.rt x H'
  | .bk s hp => ∀ io' H' σ', Ext W io H io' H' → Rl W io' hp H' → M.rel io' H' s σ' → D.bk σ' H'
  | .ct s hp => ∀ io' H' σ', Ext W io H io' H' → Rl W io' hp H' → M.rel io' H' s σ' → D.ct σ' H'
  | .exc t fs s hp => ∀ io' H' σ' cls d, Ext W io H io' H' → Rl W io' hp H' → M.rel io' H' s σ' → RX W io' H' t fs cls d → E cls d σ' H'
  | .stuck => False
def tG (W : Wd) (M : Md W) (rh : Rel T U) (E : WX) (f : Sl → Hep → R T) : L2.St → Hp → (U → Hp → Prop) → Prop :=
  fun σ H Q => ∃ io hp as, Rl W io hp H ∧ M.rel io H as σ ∧ Pst W rh E σ Q io H (f as hp)
def tS (W : Wd) (M : Md W) (E : WX) (f : DS) : TS :=
  fun D σ H => ∃ io hp as, Rl W io hp H ∧ M.rel io H as σ ∧ Pss W M E D io H (f as hp)
abbrev tD (W : Wd) (M : Md W) (E : WX) (f : DE) : TE := tG W M (RV W) E f
abbrev tDA (W : Wd) (M : Md W) (E : WX) (f : DA) : TA := tG W M (RVs W) E f
abbrev tDT (W : Wd) (M : Md W) (E : WX) (f : DT) : TT := tG W M (fun _ _ b c => b = c) E f

section
variable {rh : Rel T U} {rh' : Rel T' U'} {E : WX} {D : Ends} {σ : L2.St} {H H1 : Hp} {io io1 : List Addr} {hp : Hep} {as : Sl}
theorem Pop.later {Q : U → Hp → Prop} {r : Op T} (h : Pop W rh Q io H r) (e : Ext W io H io1 H1) : Pop W rh Q io1 H1 r := by
  match r, h with
  | some (v, hp), h => exact fun io' H' x e' => h io' H' x (e.trans e')
theorem Pst.later {Q : U → Hp → Prop} {r : R T} (h : Pst W rh E σ Q io H r) (e : Ext W io H io1 H1) : Pst W rh E σ Q io1 H1 r := by
  cases r with
  | ok v hp => exact fun io' H' x e' => h io' H' x (e.trans e')
  | exc t fs hp => exact fun io' H' c d e' => h io' H' c d (e.trans e')
  | stuck => exact h
theorem Pss.later {r : SR} (h : Pss W M E D io H r) (e : Ext W io H io1 H1) : Pss W M E D io1 H1 r := by
  cases r with
  | nx s hp => exact fun io' H' x e' => h io' H' x (e.trans e')
  | rt s hp => exact fun io' H' x e' => h io' H' x (e.trans e')
  | bk s hp => exact fun io' H' x e' => h io' H' x (e.trans e')
  | ct s hp => exact fun io' H' x e' => h io' H' x (e.trans e')
  | exc t fs s hp => exact fun io' H' x c d e' => h io' H' x c d (e.trans e')
  | stuck => exact h
theorem Pst.of {Q : U → Hp → Prop} {r : Op T} (h : Pst W rh E σ Q io H (R.of r)) : Pop W rh Q io H r := by
  match r, h with
  | some (v, hp), h => exact h
  | none, h => exact h
theorem tG.imp {f : Sl → Hep → R T} {Q Q' : U → Hp → Prop} (h : tG W M rh E f σ H Q) (k : ∀ x H1, Q x H1 → Q' x H1) : tG W M rh E f σ H Q' := by
  obtain ⟨io, hp, as, rl, S, P⟩ := h
  refine ⟨io, hp, as, rl, S, ?_⟩
  cases z : f as hp with
  | ok a hp1 =>
    rw [z] at P
    exact fun io' H' x e r q => k _ _ (P io' H' x e r q)
  | exc t fs hp1 =>
    rw [z] at P
    exact P
  | stuck =>
    rw [z] at P
    exact P
/-- a part of an expression, then the rest -/
theorem step {f : Sl → Hep → R T} {k : T → Hep → R T'} {Q : U' → Hp → Prop} (rl : Rl W io hp H) (S : M.rel io H as σ) (P : Pst W rh' E σ Q io H ((f as hp).bind k)) :
    tG W M rh E f σ H (fun x H1 => ∃ io1 hp1 a, Ext W io H io1 H1 ∧ Rl W io1 hp1 H1 ∧ rh io1 H1 a x ∧ Pst W rh' E σ Q io1 H1 (k a hp1)) := by
  refine ⟨io, hp, as, rl, S, ?_⟩
  cases e : f as hp with
  | ok a hp1 =>
    rw [e] at P
    exact fun io' H' x e' r' q => ⟨io', hp1, a, e', r', q, Pst.later P e'⟩
  | exc t fs hp1 =>
    rw [e] at P
    exact P
  | stuck =>
    rw [e] at P
    exact P
/-- a part of a statement, then the rest -/
theorem stepS {f : Sl → Hep → R T} {k : T → Hep → SR} (rl : Rl W io hp H) (S : M.rel io H as σ) (P : Pss W M E D io H ((f as hp).st as k)) :
    tG W M rh E f σ H (fun x H1 => ∃ io1 hp1 a, Ext W io H io1 H1 ∧ Rl W io1 hp1 H1 ∧ rh io1 H1 a x ∧ Pss W M E D io1 H1 (k a hp1)) := by
  refine ⟨io, hp, as, rl, S, ?_⟩
  cases e : f as hp with
  | ok a hp1 =>
    rw [e] at P
    exact fun io' H' x e' r' q => ⟨io', hp1, a, e', r', q, Pss.later P e'⟩
  | exc t fs hp1 =>
    rw [e] at P
    exact fun io' H' c d e' r' q => P io' H' σ c d e' r' (M.mono e' S) q
  | stuck =>
    rw [e] at P
    exact P
theorem Pst.ok {Q : U → Hp → Prop} {v : T} {x : U} (P : Pst W rh E σ Q io H (.ok v hp)) (rl : Rl W io hp H) (r : rh io H v x) : Q x H := P io H x Ext.refl rl r
end
end

section
variable {X : Cx}
theorem peI {e : Expr} {t t' : TE} (h : PE X e t) (i : ∀ σ H Q, t' σ H Q → t σ H Q) : PE X e t' := ⟨fun pins s σ H Q I q => h.run pins s σ H Q I (i σ H Q q)⟩
theorem ptI {e : Expr} {t t' : TT} (h : PT X e t) (i : ∀ σ H Q, t' σ H Q → t σ H Q) : PT X e t' := ⟨fun pins s σ H Q I q => h.run pins s σ H Q I (i σ H Q q)⟩
theorem paI {e : List Expr} {t t' : TA} (h : PA X e t) (i : ∀ σ H Q, t' σ H Q → t σ H Q) : PA X e t' := ⟨fun pos pins s σ H Q I q => h.run pos pins s σ H Q I (i σ H Q q)⟩
theorem psI {e : Stmt} {t t' : TS} (h : PS X e t) (i : ∀ D σ H, t' D σ H → t D σ H) : PS X e t' := ⟨fun pins s σ H D I q => h.run pins s σ H D I (i D σ H q)⟩
theorem pssI {e : List Stmt} {t t' : TS} (h : PSs X e t) (i : ∀ D σ H, t' D σ H → t D σ H) : PSs X e t' := ⟨fun pins s σ H D I q => h.run pins s σ H D I (i D σ H q)⟩
end

/-! ### names, constants -/
def dVar (i : Nat) : DE := fun s h => match s[i]? with
  | some (some (.exn _ _)) => .stuck
  | some (some v) => .ok v h
  | _ => .stuck
def dC (v : AV) : DE := fun _ h => .ok v h
/-- values that lie in the written part, or nowhere -/
def RW0 (W : Wd) (v : AV) (x : V) : Prop := ∀ io H, RV W io H v x

section
variable {W : Wd} {M : Md W} {E : WX} {X : Cx}
theorem vD {i : Nat} {e : Expr} (h : PE X e (tVar i)) : PE X e (tD W M E (dVar i)) := peI h fun σ H Q ⟨io, hp, as, rl, S, P⟩ => by
  unfold dVar at P
  cases z : as[i]? with
  | none =>
    rw [z] at P
    exact P.elim
  | some o =>
    rw [z] at P
    cases o with
    | none => exact P.elim
    | some v =>
      have hn : ∀ t fs, v ≠ .exn t fs := fun t fs q => by
        subst q
        exact P.elim
      obtain ⟨x, e, r⟩ := M.var S z hn
      refine ⟨x, e, ?_⟩
      cases v with
      | exn t fs => exact absurd rfl (hn t fs)
      | _ => exact P.ok rl r
theorem cD {v : AV} {x : V} {e : Expr} (h : PE X e (tC x)) (r : RW0 W v x) : PE X e (tD W M E (dC v)) := peI h fun σ H Q ⟨io, hp, as, rl, S, P⟩ => P.ok rl (r io H)
end

/-! ### operators by values -/
abbrev D2 := AV → AV → Hep → Op AV
abbrev D1 := AV → Hep → Op AV
abbrev DL := List AV → Hep → Op AV
def t2 (W : Wd) (r : D2) : R2 := fun x y H Q => ∃ io hp a b, Rl W io hp H ∧ RV W io H a x ∧ RV W io H b y ∧ Pop W (RV W) Q io H (r a b hp)
def t1 (W : Wd) (r : D1) : V → Hp → VK → Prop := fun x H Q => ∃ io hp a, Rl W io hp H ∧ RV W io H a x ∧ Pop W (RV W) Q io H (r a hp)
def tl (W : Wd) (r : DL) : List V → Hp → VK → Prop := fun xs H Q => ∃ io hp as, Rl W io hp H ∧ RVs W io H as xs ∧ Pop W (RV W) Q io H (r as hp)
def dOp (r : D2) (f g : DE) : DE := fun s h => (f s h).bind fun a h1 => (g s h1).bind fun b h2 => R.of (r a b h2)
def dUn (r : D1) (f : DE) : DE := fun s h => (f s h).bind fun a h1 => R.of (r a h1)
def dCB (r : DL) (f : DA) : DE := fun s h => (f s h).bind fun a h1 => R.of (r a h1)
def dNil : DA := fun _ h => .ok [] h
def dCons (f : DE) (g : DA) : DA := fun s h => (f s h).bind fun a h1 => (g s h1).bind fun b h2 => .ok (a :: b) h2

section
variable {W : Wd} {M : Md W} {E : WX} {X : Cx} {a b c : Expr} {es : List Expr} {f g k : DE} {fa ga : DA} {r : D2} {pos : Pos}
theorem op_imp {F : Value → Value → Sem Value} {r r' : R2} (h : OpR X F r) (i : ∀ x y H Q, r' x y H Q → r x y H Q) : OpR X F r' := fun pins s σ H x y v u Q I r1 r2 q => h pins s σ H x y v u Q I r1 r2 (i x y H Q q)
theorem call_imp {F : Value} {r r' : List V → Hp → VK → Prop} (h : CallR X F r) (i : ∀ x H Q, r' x H Q → r x H Q) : CallR X F r' := fun pins s σ H xs us Q I rr q => h pins s σ H xs us Q I rr (i xs H Q q)
/-- two parts -/
theorem op_in {σ : L2.St} {H : Hp} {Q : VK} (h : tD W M E (dOp r f g) σ H Q) : tOp (t2 W r) (tD W M E f) (tD W M E g) σ H Q := by
  obtain ⟨io, hp, as, rl, S, P⟩ := h
  refine (step (rh := RV W) (f := f) rl S P).imp fun x H1 ⟨io2, hp2, a, e2, rl2, ra, P2⟩ => ?_
  refine (step (rh := RV W) (f := g) rl2 (M.mono e2 S) P2).imp fun y H4 ⟨io5, hp5, b, e5, rl5, rb, P5⟩ => ?_
  exact ⟨io5, hp5, a, b, rl5, ra.mono e5, rb, P5.of⟩
theorem un_in {r : D1} {σ : L2.St} {H : Hp} {Q : VK} (h : tD W M E (dUn r f) σ H Q) : tUn (t1 W r) (tD W M E f) σ H Q := by
  obtain ⟨io, hp, as, rl, S, P⟩ := h
  exact (step (rh := RV W) (f := f) rl S P).imp fun x H1 ⟨io2, hp2, a, e2, rl2, ra, P2⟩ => ⟨io2, hp2, a, rl2, ra, P2.of⟩
theorem cb_in {r : DL} {σ : L2.St} {H : Hp} {Q : VK} (h : tD W M E (dCB r fa) σ H Q) : tCB (tl W r) (tDA W M E fa) σ H Q := by
  obtain ⟨io, hp, as, rl, S, P⟩ := h
  exact (step (rh := RVs W) (f := fa) rl S P).imp fun x H1 ⟨io2, hp2, a, e2, rl2, ra, P2⟩ => ⟨io2, hp2, a, rl2, ra, P2.of⟩
theorem nil_in {σ : L2.St} {H : Hp} {Q : List V → Hp → Prop} (h : tDA W M E dNil σ H Q) : tNil σ H Q := by
  obtain ⟨io, hp, as, rl, S, P⟩ := h
  exact P.ok rl .nil
theorem cons_in {σ : L2.St} {H : Hp} {Q : List V → Hp → Prop} (h : tDA W M E (dCons f fa) σ H Q) : tCons (tD W M E f) (tDA W M E fa) σ H Q := by
  obtain ⟨io, hp, as, rl, S, P⟩ := h
  refine (step (rh := RV W) (f := f) rl S P).imp fun x H1 ⟨io2, hp2, a, e2, rl2, ra, P2⟩ => ?_
  refine (step (rh := RVs W) (f := fa) rl2 (M.mono e2 S) P2).imp fun y H4 ⟨io5, hp5, b, e5, rl5, rb, P5⟩ => ?_
  exact P5.ok rl5 (.cons (ra.mono e5) rb)
theorem nD : PA X [] (tDA W M E dNil) := paI pa_nil fun _ _ _ h => nil_in h
theorem aD (ha : PE X a (tD W M E f)) (hr : PA X es (tDA W M E fa)) (hs : starEach (a :: es) X.env = (false, eval a X.env) :: starEach es X.env := by rfl) : PA X (a :: es) (tDA W M E (dCons f fa)) :=
  paI (pa_cons ha hr hs) fun _ _ _ h => cons_in h
theorem opD {op : Operator} (ho : OpR X (binaryOp op) (t2 W r)) (ha : PE X a (tD W M E f)) (hb : PE X b (tD W M E g)) : PE X (.BinOp a op b pos) (tD W M E (dOp r f g)) := peI (pe_op ho ha hb) fun _ _ _ h => op_in h
theorem unD {r : D1} {op : UnaryOp} (ho : UnR X (unaryOp op) (t1 W r)) (ha : PE X a (tD W M E f)) : PE X (.UnaryOp op a pos) (tD W M E (dUn r f)) := peI (pe_un ho ha) fun _ _ _ h => un_in h
theorem cmD {op : CmpOp} (ho : OpR X (compareOp op) (t2 W r)) (ha : PE X a (tD W M E f)) (hb : PE X b (tD W M E g)) (hm : behindInMarks op b = false) : PE X (.Compare a [op] [b] pos) (tD W M E (dOp r f g)) := peI (pe_cmpR ho ha hb hm) fun _ _ _ h => op_in h
end

/-! ### tests -/
def dTst (f : DE) : DT := fun s h => (f s h).bind fun a h1 => match a with
  | .bl b => .ok b h1
  | _ => .stuck
def dVal (f : DT) : DE := fun s h => (f s h).bind fun b h1 => .ok (.bl b) h1
def dAnd (f g : DT) : DT := fun s h => (f s h).bind fun b h1 => match b with
  | true => g s h1
  | false => .ok false h1
def dOr (f g : DT) : DT := fun s h => (f s h).bind fun b h1 => match b with
  | true => .ok true h1
  | false => g s h1
def dNot (f : DT) : DT := fun s h => (f s h).bind fun b h1 => .ok (!b) h1
def dIf (c : DT) (f g : DE) : DE := fun s h => (c s h).bind fun b h1 => match b with
  | true => f s h1
  | false => g s h1
/-- a and b, a or b as values of truth -/
def dAndV (f g : DE) : DE := fun s h => (f s h).bind fun a h1 => match a with
  | .bl true => g s h1
  | .bl false => .ok (.bl false) h1
  | _ => .stuck
def dOrV (f g : DE) : DE := fun s h => (f s h).bind fun a h1 => match a with
  | .bl true => .ok (.bl true) h1
  | .bl false => g s h1
  | _ => .stuck
def dNotV (f : DE) : DE := fun s h => (f s h).bind fun a h1 => match a with
  | .bl b => .ok (.bl (!b)) h1
  | _ => .stuck
/-- a op b op' c -/
def dChn (r r' : D2) (f g k : DE) : DE := fun s h => (f s h).bind fun a h1 => (g s h1).bind fun b h2 => (R.of (r a b h2)).bind fun z h3 => match z with
  | .bl true => (k s h3).bind fun c h4 => R.of (r' b c h4)
  | .bl false => .ok (.bl false) h3
  | _ => .stuck
section
variable {W : Wd} {M : Md W} {E : WX} {X : Cx} {a b c : Expr} {es : List Expr} {f g k : DE} {ft gt : DT} {r r' : D2} {pos : Pos}
theorem RV.bl_inv {io : List Addr} {H : Hp} {b : Bool} {x : V} (h : RV W io H (.bl b) x) : x = .bl b := by
  cases h
  rfl
theorem RV.int_inv {io : List Addr} {H : Hp} {b : Int} {x : V} (h : RV W io H (.int b) x) : x = .int b := by
  cases h
  rfl
theorem RV.str_inv {io : List Addr} {H : Hp} {b : Str} {x : V} (h : RV W io H (.str b) x) : x = .str b := by
  cases h
  rfl
theorem RV.non_inv {io : List Addr} {H : Hp} {x : V} (h : RV W io H .non x) : x = .non := by
  cases h
  rfl
theorem Pop.ok {T U : Type} {rh : Rel T U} {io : List Addr} {H : Hp} {hp : Hep} {Q : U → Hp → Prop} {v : T} {x : U} (P : Pop W rh Q io H (some (v, hp))) (rl : Rl W io hp H) (r : rh io H v x) : Q x H := P io H x Ext.refl rl r
theorem tst_in {σ : L2.St} {H : Hp} {Q : Bool → Hp → Prop} (h : tDT W M E (dTst f) σ H Q) : tB (tD W M E f) σ H Q := by
  obtain ⟨io, hp, as, rl, S, P⟩ := h
  refine (step (rh := RV W) (f := f) rl S P).imp fun x H1 ⟨io2, hp2, a, e2, rl2, ra, P2⟩ => ?_
  cases a with
  | bl b =>
    obtain rfl := ra.bl_inv
    exact ⟨b, rfl, P2.ok rl2 rfl⟩
  | _ => exact P2.elim
theorem tstD (h : PE X a (tD W M E f)) (he : ∀ whole, isTrue a X.env whole = (do let v ← whole; standAt a.pos; holding [v] (truthy v)) := by intro _; rfl) : PT X a (tDT W M E (dTst f)) := ptI (pt_val h he) fun _ _ _ q => tst_in q
theorem and_in {σ : L2.St} {H : Hp} {Q : Bool → Hp → Prop} (h : tDT W M E (dAnd ft gt) σ H Q) : tAnd (tDT W M E ft) (tDT W M E gt) σ H Q := by
  obtain ⟨io, hp, as, rl, S, P⟩ := h
  refine (step (rh := fun _ _ b c => b = c) (f := ft) rl S P).imp fun x H1 ⟨io2, hp2, a, e2, rl2, ra, P2⟩ => ?_
  subst ra
  cases a with
  | true => exact iteT ⟨io2, hp2, as, rl2, M.mono e2 S, P2⟩
  | false => exact iteF (P2.ok rl2 rfl)
theorem or_in {σ : L2.St} {H : Hp} {Q : Bool → Hp → Prop} (h : tDT W M E (dOr ft gt) σ H Q) : tOr (tDT W M E ft) (tDT W M E gt) σ H Q := by
  obtain ⟨io, hp, as, rl, S, P⟩ := h
  refine (step (rh := fun _ _ b c => b = c) (f := ft) rl S P).imp fun x H1 ⟨io2, hp2, a, e2, rl2, ra, P2⟩ => ?_
  subst ra
  cases a with
  | true => exact iteT (P2.ok rl2 rfl)
  | false => exact iteF ⟨io2, hp2, as, rl2, M.mono e2 S, P2⟩
theorem not_in {σ : L2.St} {H : Hp} {Q : Bool → Hp → Prop} (h : tDT W M E (dNot ft) σ H Q) : tNot (tDT W M E ft) σ H Q := by
  obtain ⟨io, hp, as, rl, S, P⟩ := h
  refine (step (rh := fun _ _ b c => b = c) (f := ft) rl S P).imp fun x H1 ⟨io2, hp2, a, e2, rl2, ra, P2⟩ => ?_
  subst ra
  exact P2.ok rl2 rfl
/-- the words for tests: and, or with their last part, not, another -/
theorem and1D (ha : PT X a (tDT W M E ft)) : PW X (.BoolOp .And [a] pos) (tDT W M E ft) := pw_and1 ha
theorem or1D (ha : PT X a (tDT W M E ft)) : PW X (.BoolOp .Or [a] pos) (tDT W M E ft) := pw_or1 ha
theorem pwI {e : Expr} {t t' : TT} (h : PW X e t) (i : ∀ σ H Q, t' σ H Q → t σ H Q) : PW X e t' := ⟨fun wh pins s σ H Q I q => h.run wh pins s σ H Q I (i σ H Q q)⟩
theorem andD (ha : PT X a (tDT W M E ft)) (hb : PW X (.BoolOp .And (b :: es) pos) (tDT W M E gt)) : PW X (.BoolOp .And (a :: b :: es) pos) (tDT W M E (dAnd ft gt)) := pwI (pw_and ha hb) fun _ _ _ h => and_in h
theorem orD (ha : PT X a (tDT W M E ft)) (hb : PW X (.BoolOp .Or (b :: es) pos) (tDT W M E gt)) : PW X (.BoolOp .Or (a :: b :: es) pos) (tDT W M E (dOr ft gt)) := pwI (pw_or ha hb) fun _ _ _ h => or_in h
theorem notD (ha : PT X a (tDT W M E ft)) : PT X (.UnaryOp .Not a pos) (tDT W M E (dNot ft)) := ptI (pt_not ha) fun _ _ _ h => not_in h
theorem if_in {σ : L2.St} {H : Hp} {Q : VK} (h : tD W M E (dIf ft f g) σ H Q) : tIf (tDT W M E ft) (tD W M E f) (tD W M E g) σ H Q := by
  obtain ⟨io, hp, as, rl, S, P⟩ := h
  refine (step (rh := fun _ _ b c => b = c) (f := ft) rl S P).imp fun x H1 ⟨io2, hp2, a, e2, rl2, ra, P2⟩ => ?_
  subst ra
  cases a with
  | true => exact iteT ⟨io2, hp2, as, rl2, M.mono e2 S, P2⟩
  | false => exact iteF ⟨io2, hp2, as, rl2, M.mono e2 S, P2⟩
theorem ifD (hc : PT X c (tDT W M E ft)) (ha : PE X a (tD W M E f)) (hb : PE X b (tD W M E g)) : PE X (.IfExp c a b pos) (tD W M E (dIf ft f g)) := peI (pe_ifExp hc ha hb) fun _ _ _ h => if_in h
theorem andV_in {σ : L2.St} {H : Hp} {Q : VK} (h : tD W M E (dAndV f g) σ H Q) : tAndV (tD W M E f) (tD W M E g) σ H Q := by
  obtain ⟨io, hp, as, rl, S, P⟩ := h
  refine (step (rh := RV W) (f := f) rl S P).imp fun x H1 ⟨io2, hp2, a, e2, rl2, ra, P2⟩ => ?_
  cases a with
  | bl b =>
    obtain rfl := ra.bl_inv
    refine ⟨b, rfl, ?_⟩
    cases b with
    | true => exact iteT ⟨io2, hp2, as, rl2, M.mono e2 S, P2⟩
    | false => exact iteF (P2.ok rl2 (.bl false))
  | _ => exact P2.elim
theorem orV_in {σ : L2.St} {H : Hp} {Q : VK} (h : tD W M E (dOrV f g) σ H Q) : tOrV (tD W M E f) (tD W M E g) σ H Q := by
  obtain ⟨io, hp, as, rl, S, P⟩ := h
  refine (step (rh := RV W) (f := f) rl S P).imp fun x H1 ⟨io2, hp2, a, e2, rl2, ra, P2⟩ => ?_
  cases a with
  | bl b =>
    obtain rfl := ra.bl_inv
    refine ⟨b, rfl, ?_⟩
    cases b with
    | true => exact iteT (P2.ok rl2 (.bl true))
    | false => exact iteF ⟨io2, hp2, as, rl2, M.mono e2 S, P2⟩
  | _ => exact P2.elim
theorem notV_in {σ : L2.St} {H : Hp} {Q : VK} (h : tD W M E (dNotV f) σ H Q) : tNotV (tD W M E f) σ H Q := by
  obtain ⟨io, hp, as, rl, S, P⟩ := h
  refine (step (rh := RV W) (f := f) rl S P).imp fun x H1 ⟨io2, hp2, a, e2, rl2, ra, P2⟩ => ?_
  cases a with
  | bl b =>
    obtain rfl := ra.bl_inv
    exact ⟨b, rfl, P2.ok rl2 (.bl (!b))⟩
  | _ => exact P2.elim
theorem andVD (ha : PE X a (tD W M E f)) (hb : PE X (.BoolOp .And (b :: es) pos) (tD W M E g)) : PE X (.BoolOp .And (a :: b :: es) pos) (tD W M E (dAndV f g)) := peI (pe_and ha hb) fun _ _ _ h => andV_in h
theorem orVD (ha : PE X a (tD W M E f)) (hb : PE X (.BoolOp .Or (b :: es) pos) (tD W M E g)) : PE X (.BoolOp .Or (a :: b :: es) pos) (tD W M E (dOrV f g)) := peI (pe_or ha hb) fun _ _ _ h => orV_in h
theorem notVD (ha : PE X a (tD W M E f)) : PE X (.UnaryOp .Not a pos) (tD W M E (dNotV f)) := peI (pe_not ha) fun _ _ _ h => notV_in h
theorem oneVD {op} (ha : PE X a (tD W M E f)) : PE X (.BoolOp op [a] pos) (tD W M E f) := pe_one ha
theorem chn_in {σ : L2.St} {H : Hp} {Q : VK} (h : tD W M E (dChn r r' f g k) σ H Q) : tChain (t2 W r) (t2 W r') (tD W M E f) (tD W M E g) (tD W M E k) σ H Q := by
  obtain ⟨io, hp, as, rl, S, P⟩ := h
  refine (step (rh := RV W) (f := f) rl S P).imp fun x H1 ⟨io2, hp2, a, e2, rl2, ra, P2⟩ => ?_
  refine (step (rh := RV W) (f := g) rl2 (M.mono e2 S) P2).imp fun y H4 ⟨io5, hp5, b, e5, rl5, rb, P5⟩ => ?_
  refine ⟨io5, hp5, a, b, rl5, ra.mono e5, rb, ?_⟩
  cases z : r a b hp5 with
  | none =>
    rw [z] at P5
    exact P5
  | some q =>
    obtain ⟨v, h3⟩ := q
    rw [z] at P5
    intro io6 H6 w e6 rl6 rw6
    cases v with
    | bl c =>
      obtain rfl := rw6.bl_inv
      refine ⟨c, rfl, ?_⟩
      have P6 := Pst.later P5 e6
      cases c with
      | true =>
        refine iteT ((step (rh := RV W) (f := k) rl6 (M.mono e6 (M.mono e5 (M.mono e2 S))) P6).imp fun w7 H7 ⟨io7, hp7, d, e7, rl7, rd, P7⟩ => ?_)
        exact ⟨io7, hp7, b, d, rl7, rb.mono (e6.trans e7), rd, P7.of⟩
      | false => exact iteF (P6.ok rl6 (.bl false))
    | _ => exact P5.elim
theorem chnD {op op' : CmpOp} (ho : OpR X (compareOp op) (t2 W r)) (ho' : OpR X (compareOp op') (t2 W r')) (ha : PE X a (tD W M E f)) (hb : PE X b (tD W M E g)) (hc : PE X c (tD W M E k)) (hm : lastMarks [op, op'] [b, c] = false := by rfl) : PE X (.Compare a [op, op'] [b, c] pos) (tD W M E (dChn r r' f g k)) := peI (pe_chain ho ho' ha hb hc hm) fun _ _ _ h => chn_in h
/-- a comparison as a test -/
theorem ct_in {σ : L2.St} {H : Hp} {Q : Bool → Hp → Prop} (h : tDT W M E (dTst f) σ H Q) : tTest (tD W M E f) σ H Q := tst_in h
theorem cmT {op : CmpOp} (ho : OpR X (compareOp op) (t2 W r)) (ha : PE X a (tD W M E f)) (hb : PE X b (tD W M E g)) (hm : behindInMarks op b = false) : PT X (.Compare a [op] [b] pos) (tDT W M E (dTst (dOp r f g))) :=
  ptI (pt_cmpR ho ha hb hm) fun σ H Q h => by
    obtain ⟨io, hp, as, rl, S, P⟩ := h
    refine op_in (M := M) (E := E) ?_
    exact (tst_in (f := dOp r f g) ⟨io, hp, as, rl, S, P⟩ : tB (tD W M E (dOp r f g)) σ H Q)
theorem chT {op op' : CmpOp} (ho : OpR X (compareOp op) (t2 W r)) (ho' : OpR X (compareOp op') (t2 W r')) (ha : PE X a (tD W M E f)) (hb : PE X b (tD W M E g)) (hc : PE X c (tD W M E k)) (hm : lastMarks [op, op'] [b, c] = false := by rfl) : PT X (.Compare a [op, op'] [b, c] pos) (tDT W M E (dTst (dChn r r' f g k))) :=
  ptI (pt_chain ho ho' ha hb hc hm) fun σ H Q h => chn_in (M := M) (E := E) (tst_in (f := dChn r r' f g k) h : tB (tD W M E (dChn r r' f g k)) σ H Q)
end

/-! ### statements -/
def dSkip : DS := fun s h => .nx s h
def dSeq (f g : DS) : DS := fun s h => (f s h).then g
def dDrop (f : DE) : DS := fun s h => (f s h).st s fun _ h1 => .nx s h1
def dRet (f : DE) : DS := fun s h => (f s h).st s fun v h1 => .rt v h1
def dRetN : DS := fun _ h => .rt .non h
def dSet (i : Nat) (f : DE) : DS := fun s h => (f s h).st s fun v h1 => .nx (s.set i (some v)) h1
def dIfS (c : DT) (f g : DS) : DS := fun s h => (c s h).st s fun b h1 => match b with
  | true => f s h1
  | false => g s h1
def dBreak : DS := fun s h => .bk s h
def dCont : DS := fun s h => .ct s h
section
variable {W : Wd} {M : Md W} {E : WX} {X : Cx} {a b c : Expr} {st : Stmt} {sts sts' : List Stmt} {f g k : DE} {ft gt : DT} {fs gs : DS} {pos : Pos}
theorem skip_in {D : Ends} {σ : L2.St} {H : Hp} (h : tS W M E dSkip D σ H) : tNext D σ H := by
  obtain ⟨io, hp, as, rl, S, P⟩ := h
  exact P io H σ Ext.refl rl S
theorem seq_in {D : Ends} {σ : L2.St} {H : Hp} (h : tS W M E (dSeq fs gs) D σ H) : tSeq (tS W M E fs) (tS W M E gs) D σ H := by
  obtain ⟨io, hp, as, rl, S, P⟩ := h
  refine ⟨io, hp, as, rl, S, ?_⟩
  have P' : Pss W M E D io H ((fs as hp).then gs) := P
  cases z : fs as hp with
  | nx s h =>
    rw [z] at P'
    exact fun io' H' σ' e rl' S' => ⟨io', h, s, rl', S', Pss.later P' e⟩
  | rt s h =>
    rw [z] at P'
    exact P'
  | bk s h =>
    rw [z] at P'
    exact P'
  | ct s h =>
    rw [z] at P'
    exact P'
  | exc t fs s h =>
    rw [z] at P'
    exact P'
  | stuck =>
    rw [z] at P'
    exact P'
theorem ss0 : PSs X [] (tS W M E dSkip) := pssI pss_nil fun _ _ _ h => skip_in h
theorem ssC (h1 : PS X st (tS W M E fs)) (h2 : PSs X sts (tS W M E gs)) : PSs X (st :: sts) (tS W M E (dSeq fs gs)) := pssI (pss_cons h1 h2) fun _ _ _ h => seq_in h
theorem ss1 (h1 : PS X st (tS W M E fs)) : PSs X [st] (tS W M E fs) := pss_one h1
theorem sPass : PS X (.Pass pos) (tS W M E dSkip) := psI ps_pass fun _ _ _ h => skip_in h
theorem sDoc {x j pos'} : PS X (.Expr (.Constant (.str x) j pos) pos') (tS W M E dSkip) := psI ps_doc fun _ _ _ h => skip_in h
theorem sBreak : PS X (.Break pos) (tS W M E dBreak) := psI ps_break fun D σ H h => by
  obtain ⟨io, hp, as, rl, S, P⟩ := h
  exact P io H σ Ext.refl rl S
theorem sCont : PS X (.Continue pos) (tS W M E dCont) := psI ps_continue fun D σ H h => by
  obtain ⟨io, hp, as, rl, S, P⟩ := h
  exact P io H σ Ext.refl rl S
theorem sExpr (he : PE X a (tD W M E f)) (hs : swapsWith a none pos.line X.env = pure false := by rfl) : PS X (.Expr a pos) (tS W M E (dDrop f)) := psI (ps_expr he hs) fun D σ H h => by
  obtain ⟨io, hp, as, rl, S, P⟩ := h
  exact (stepS (rh := RV W) (f := f) rl S P).imp fun x H1 ⟨io2, hp2, a, e2, rl2, ra, P2⟩ => P2 io2 H1 σ Ext.refl rl2 (M.mono e2 S)
theorem sRet (he : PE X a (tD W M E f)) : PS X (.Return (some a) pos) (tS W M E (dRet f)) := psI (ps_ret he) fun D σ H h => by
  obtain ⟨io, hp, as, rl, S, P⟩ := h
  exact (stepS (rh := RV W) (f := f) rl S P).imp fun x H1 ⟨io2, hp2, a, e2, rl2, ra, P2⟩ => P2 io2 H1 x Ext.refl rl2 ra
theorem sRetN : PS X (.Return none pos) (tS W M E dRetN) := psI ps_retN fun D σ H h => by
  obtain ⟨io, hp, as, rl, S, P⟩ := h
  exact P io H .non Ext.refl rl .non
theorem sSet {i : Nat} {x : Str} {pos' : Pos} (hN : X.N.Nodup) (hi : X.N[i]? = some x) (hx : Loc X.env.scope x) (he : PE X a (tD W M E f)) (ho : M.ok i) (hs : swapsWith a (some (.Name x pos')) pos.line X.env = pure false := by rfl)
    (hf : X.fn x = true ∨ X.env.scope.names.lookup x = some .local := by first | exact .inl rfl | exact .inr rfl | assumption) : PS X (.Assign [.Name x pos'] a pos) (tS W M E (dSet i f)) := psI (ps_set hN hi hx he hs hf) fun D σ H h => by
  obtain ⟨io, hp, as, rl, S, P⟩ := h
  exact (stepS (rh := RV W) (f := f) rl S P).imp fun x H1 ⟨io2, hp2, a, e2, rl2, ra, P2⟩ => P2 io2 H1 _ Ext.refl rl2 (M.set (M.mono e2 S) ra ho)
theorem sIf (hc : PT X c (tDT W M E ft)) (ha : PSs X sts (tS W M E fs)) (hb : PSs X sts' (tS W M E gs)) : PS X (.If c sts sts' pos) (tS W M E (dIfS ft fs gs)) := psI (ps_if hc ha hb) fun D σ H h => by
  obtain ⟨io, hp, as, rl, S, P⟩ := h
  refine (stepS (rh := fun _ _ b c => b = c) (f := ft) rl S P).imp fun x H1 ⟨io2, hp2, a, e2, rl2, ra, P2⟩ => ?_
  subst ra
  cases a with
  | true => exact iteT ⟨io2, hp2, as, rl2, M.mono e2 S, P2⟩
  | false => exact iteF ⟨io2, hp2, as, rl2, M.mono e2 S, P2⟩
end
end Dn
namespace Dn
open PySem PySem.Spec PyProof.Rows L2

/-- the longest list, the longest text -/
abbrev SZ : Nat := 1000000
theorem szL {n : Nat} (h : n ≤ SZ) : n ≤ sizeLine := by
  rw [sizeLine_eq]
  exact Nat.le_trans h (by decide)
theorem szT {n : Nat} (h : n < SZ) : n < sizeLine := by
  rw [sizeLine_eq]
  exact Nat.lt_of_lt_of_le h (by decide)

/-! ### made things -/
def mkL (xs : List AV) (h : Hep) : Op AV := if xs.length ≤ SZ then some (.ref h.length, h ++ [.lst xs]) else none
def mkT (xs : List AV) (h : Hep) : Op AV := if xs.length ≤ SZ then some (.tup xs, h) else none
def setL (n : Nat) (xs : List AV) (v : AV) (h : Hep) : Op AV := if xs.length ≤ SZ then some (v, h.set n (.lst xs)) else none
/-- a list that may be read -/
def lstOf (h : Hep) : AV → Option (List AV)
  | .ref n => match h[n]? with
    | some (.lst xs) => some xs
    | _ => none
  | .rol xs => some xs
  | _ => none
def tupOf : AV → Option (List AV)
  | .tup xs => some xs
  | _ => none
def seqOf (h : Hep) (a : AV) : Option (List AV) := match tupOf a with
  | some xs => some xs
  | none => lstOf h a

section
variable {W : Wd} {io : List Addr} {H : Hp} {hp : Hep}
theorem Rl.atLen (R : Rl W io hp H) (p : Addr) : (io ++ [p])[hp.length]? = some p := by
  rw [List.getElem?_append_right (by rw [R.len]; exact Nat.le_refl _), R.len]
  simp
theorem mkL_in {Q : VK} {xs : List AV} {vs : List V} (P : Pop W (RV W) Q io H (mkL xs hp)) (R : Rl W io hp H) (r : RVs W io H xs vs) : vs.length ≤ sizeLine ∧ ∀ p, H p = none → Q (.ref p) (upd H p (.lst vs)) := by
  unfold mkL at P
  by_cases h : xs.length ≤ SZ
  · rw [if_pos h] at P
    refine ⟨by rw [← r.len]; exact szL h, fun p hn => ?_⟩
    have e := Ext.new (W := W) io (.lst vs) hn [p]
    exact P _ _ _ e (R.new hn (.lst (r.mono e))) (.ref (R.atLen p))
  · rw [if_neg h] at P
    exact P.elim
theorem mkT_in {Q : VK} {xs : List AV} {vs : List V} (P : Pop W (RV W) Q io H (mkT xs hp)) (R : Rl W io hp H) (r : RVs W io H xs vs) :
    vs.length ≤ sizeLine ∧ (∀ p, H p = none → Q (.ref p) (upd H p (.tup vs))) ∧ ∀ a, SqT W.K H a vs → Q (.ref a) H := by
  unfold mkT at P
  by_cases h : xs.length ≤ SZ
  · rw [if_pos h] at P
    refine ⟨by rw [← r.len]; exact szL h, fun p hn => ?_, fun a ha => ?_⟩
    · have e : Ext W io H io (upd H p (.tup vs)) := Ext.new0 hn
      exact P _ _ _ e (R.other hn) (.tup (SqT.of upd_same) (r.mono e))
    · exact P _ _ _ Ext.refl R (.tup ha r)
  · rw [if_neg h] at P
    exact P.elim
theorem setL_in {Q : VK} {n : Nat} {p : Addr} {xs ys : List AV} {vs ws : List V} {a : AV} {v : V} (P : Pop W (RV W) Q io H (setL n ys a hp)) (R : Rl W io hp H) (hi : io[n]? = some p) (hu : H p = some (.lst vs)) (r : RVs W io H ys ws)
    (ra : RV W io H a v) : ws.length ≤ sizeLine ∧ Q v (upd H p (.lst ws)) := by
  unfold setL at P
  by_cases h : ys.length ≤ SZ
  · rw [if_pos h] at P
    have e : Ext W io H io (upd H p (.lst ws)) := Ext.set (.lst ws) hu trivial
    exact ⟨by rw [← r.len]; exact szL h, P _ _ _ e (R.set hi hu trivial (.lst (r.mono e))) (ra.mono e)⟩
  · rw [if_neg h] at P
    exact P.elim
theorem roL_sq {K : PySem.W.Frag} {a : Addr} {vs : List V} (h : RoL K H a vs) : SqL K H a vs := by
  rcases h with ⟨o, h⟩ | (h | h)
  · exact .inl (.inr ⟨o, h⟩)
  · rcases h with h | ⟨o, h⟩
    · cases h
    · cases h
  · exact .inr h
theorem lstOf_in {a : AV} {v : V} {xs : List AV} (e : lstOf hp a = some xs) (R : Rl W io hp H) (r : RV W io H a v) : ∃ p vs, v = .ref p ∧ SqL W.K H p vs ∧ RVs W io H xs vs := by
  cases r with
  | ref h =>
    rename_i n p
    unfold lstOf at e
    cases z : hp[n]? with
    | none =>
      simp only [z] at e
      cases e
    | some o =>
      simp only [z] at e
      cases o with
      | lst ys =>
        cases e
        obtain ⟨vs, e1, r1⟩ := R.lst h z
        exact ⟨p, vs, rfl, SqL.of e1, r1⟩
      | _ => cases e
  | rol h q =>
    cases e
    exact ⟨_, _, rfl, roL_sq h, q⟩
  | _ => cases e
theorem tupOf_in {a : AV} {v : V} {xs : List AV} (e : tupOf a = some xs) (r : RV W io H a v) : ∃ p vs, v = .ref p ∧ SqT W.K H p vs ∧ RVs W io H xs vs := by
  cases r with
  | tup h q =>
    cases e
    exact ⟨_, _, rfl, h, q⟩
  | _ => cases e
theorem seqOf_in {a : AV} {v : V} {xs : List AV} (e : seqOf hp a = some xs) (R : Rl W io hp H) (r : RV W io H a v) : ∃ p vs, v = .ref p ∧ (SqL W.K H p vs ∨ SqT W.K H p vs) ∧ RVs W io H xs vs := by
  unfold seqOf at e
  cases z : tupOf a with
  | some ys =>
    rw [z] at e
    cases e
    obtain ⟨p, vs, a1, a2, a3⟩ := tupOf_in z r
    exact ⟨p, vs, a1, .inr a2, a3⟩
  | none =>
    rw [z] at e
    obtain ⟨p, vs, a1, a2, a3⟩ := lstOf_in e R r
    exact ⟨p, vs, a1, .inl a2, a3⟩
end

/-! ### arithmetic -/
def mulOk (i j : Int) : Bool := decide (-(2 ^ 64) < i ∧ i < 2 ^ 64) || (decide (-(2 ^ 64) < j ∧ j < 2 ^ 64) || decide (i.natAbs < 2 ^ 1000 ∧ j.natAbs < 2 ^ 1000))
def addAV : D2 := fun a b h => match a, b with
  | .int i, .int j => some (.int (i + j), h)
  | .str x, .str y => if x.length + y.length ≤ SZ then some (.str (x ++ y), h) else none
  | .tup xs, .tup ys => mkT (xs ++ ys) h
  | .ref m, .ref n => (match h[m]?, h[n]? with
    | some (.lst xs), some (.lst ys) => mkL (xs ++ ys) h
    | _, _ => none)
  | _, _ => none
def subAV : D2 := fun a b h => match a, b with
  | .int i, .int j => some (.int (i - j), h)
  | _, _ => none
def mulAV : D2 := fun a b h => match a, b with
  | .int i, .int j => if mulOk i j = true then some (.int (i * j), h) else none
  | .ref m, .int k => (match h[m]? with
    | some (.lst xs) => if -(2 ^ 63) ≤ k ∧ k < 2 ^ 63 then mkL (List.replicate k.toNat xs).flatten h else none
    | _ => none)
  | _, _ => none
def fdivAV : D2 := fun a b h => match a, b with
  | .int i, .int j => if 0 < j ∧ j < 1073741824 then some (.int (i / j), h) else none
  | _, _ => none
def modAV : D2 := fun a b h => match a, b with
  | .int i, .int j => if 0 < j then some (.int (i % j), h) else none
  | _, _ => none
def powAV : D2 := fun a b h => match a, b with
  | .int i, .int j => if 0 ≤ j ∧ j ≤ 100 ∧ i.natAbs < 2 ^ 1000 then some (.int (i ^ j.toNat), h) else none
  | _, _ => none
def negAV : D1 := fun a h => match a with
  | .int i => some (.int (-i), h)
  | _ => none

section
variable {W : Wd} {X : Cx}
theorem oAdd (hK : X.K = W.K) : OpR X (binaryOp .Add) (t2 W addAV) := op_imp (((op_add.or op_add_str).or op_cat).or op_catA) fun x y H Q ⟨io, hp, a, b, rl, ra, rb, P⟩ => by
  rw [hK]
  cases a with
  | int i =>
    cases b with
    | int j =>
      obtain rfl := ra.int_inv
      obtain rfl := rb.int_inv
      exact .inl (.inl (.inl ⟨i, j, rfl, rfl, P.ok rl (.int _)⟩))
    | _ => exact P.elim
  | str i =>
    cases b with
    | str j =>
      obtain rfl := ra.str_inv
      obtain rfl := rb.str_inv
      have P' : Pop W (RV W) Q io H (if i.length + j.length ≤ SZ then some (.str (i ++ j), hp) else none) := P
      by_cases h : i.length + j.length ≤ SZ
      · rw [if_pos h] at P'
        exact .inl (.inl (.inr ⟨i, j, rfl, rfl, szL h, P'.ok rl (.str _)⟩))
      · rw [if_neg h] at P'
        exact P'.elim
    | _ => exact P.elim
  | tup xs =>
    cases b with
    | tup ys =>
      obtain ⟨p, vs, rfl, h1, r1⟩ := tupOf_in (xs := xs) rfl ra
      obtain ⟨q, ws, rfl, h2, r2⟩ := tupOf_in (xs := ys) rfl rb
      obtain ⟨z, k1, k2⟩ := mkT_in P rl (r1.app r2)
      refine .inr ⟨p, q, vs, ws, rfl, rfl, h1, h2, by simpa using z, fun e => ?_, fun _ e => ?_, fun _ _ => k1⟩
      · subst e
        exact k2 q (by simpa using h2)
      · subst e
        exact k2 p (by simpa using h1)
    | _ => exact P.elim
  | ref m =>
    cases b with
    | ref n =>
      have P' : Pop W (RV W) Q io H (match hp[m]?, hp[n]? with
        | some (.lst xs), some (.lst ys) => mkL (xs ++ ys) hp
        | _, _ => none) := P
      cases z1 : hp[m]? with
      | none =>
        rw [z1] at P'
        exact P'.elim
      | some o1 =>
        cases o1 with
        | lst xs =>
          cases z2 : hp[n]? with
          | none =>
            rw [z1, z2] at P'
            exact P'.elim
          | some o2 =>
            cases o2 with
            | lst ys =>
              rw [z1, z2] at P'
              cases ra with
              | ref e1 =>
                cases rb with
                | ref e2 =>
                  obtain ⟨vs, a1, r1⟩ := rl.lst e1 z1
                  obtain ⟨ws, a2, r2⟩ := rl.lst e2 z2
                  obtain ⟨z, k1⟩ := mkL_in P' rl (r1.app r2)
                  exact .inl (.inr ⟨_, _, vs, ws, rfl, rfl, a1, a2, by simpa using z, k1⟩)
            | _ =>
              rw [z1, z2] at P'
              exact P'.elim
        | _ =>
          rw [z1] at P'
          exact P'.elim
    | _ => exact P.elim
  | _ => exact P.elim
theorem oSub : OpR X (binaryOp .Sub) (t2 W subAV) := op_imp op_sub fun x y H Q ⟨io, hp, a, b, rl, ra, rb, P⟩ => by
  cases a with
  | int i =>
    cases b with
    | int j =>
      obtain rfl := ra.int_inv
      obtain rfl := rb.int_inv
      exact ⟨i, j, rfl, rfl, P.ok rl (.int _)⟩
    | _ => exact P.elim
  | _ => exact P.elim
theorem mulOk_ok {i j : Int} (h : mulOk i j = true) : IntMulOk i j := by
  unfold mulOk at h
  simp only [Bool.or_eq_true, decide_eq_true_eq] at h
  rcases h with h | h | h
  · exact CMul.ok (.inl h)
  · exact CMul.ok (.inr h)
  · exact CMulW.ok (wide_mul h.1 h.2 (by decide) (by decide) (by decide))
theorem op_mulA : OpR X (binaryOp .Mult) (rI (fun i j => mulOk i j = true) fun i j => .int (i * j)) := opI fun _ _ _ _ _ _ _ hc q => mul_int q (mulOk_ok hc)
theorem oMul : OpR X (binaryOp .Mult) (t2 W mulAV) := op_imp (op_mulA.or op_rep) fun x y H Q ⟨io, hp, a, b, rl, ra, rb, P⟩ => by
  cases a with
  | int i =>
    cases b with
    | int j =>
      obtain rfl := ra.int_inv
      obtain rfl := rb.int_inv
      have P' : Pop W (RV W) Q io H (if mulOk i j = true then some (.int (i * j), hp) else none) := P
      by_cases h : mulOk i j = true
      · rw [if_pos h] at P'
        exact .inl ⟨i, j, rfl, rfl, h, P'.ok rl (.int _)⟩
      · rw [if_neg h] at P'
        exact P'.elim
    | _ => exact P.elim
  | ref m =>
    cases b with
    | int k =>
      obtain rfl := rb.int_inv
      have P' : Pop W (RV W) Q io H (match hp[m]? with
        | some (.lst xs) => if -(2 ^ 63) ≤ k ∧ k < 2 ^ 63 then mkL (List.replicate k.toNat xs).flatten hp else none
        | _ => none) := P
      cases z1 : hp[m]? with
      | none =>
        rw [z1] at P'
        exact P'.elim
      | some o1 =>
        rw [z1] at P'
        cases o1 with
        | lst xs =>
          have P2 : Pop W (RV W) Q io H (if -(2 ^ 63) ≤ k ∧ k < 2 ^ 63 then mkL (List.replicate k.toNat xs).flatten hp else none) := P'
          by_cases h : -(2 ^ 63) ≤ k ∧ k < 2 ^ 63
          · rw [if_pos h] at P2
            cases ra with
            | ref e1 =>
              obtain ⟨vs, a1, r1⟩ := rl.lst e1 z1
              obtain ⟨z, k1⟩ := mkL_in P2 rl (r1.rep k.toNat)
              refine .inr ⟨_, k, vs, rfl, rfl, a1, h.1, h.2, ?_, k1⟩
              simpa [Nat.mul_comm] using z
          · rw [if_neg h] at P2
            exact P2.elim
        | _ => exact P'.elim
    | _ => exact P.elim
  | _ => exact P.elim
theorem oFdiv : OpR X (binaryOp .FloorDiv) (t2 W fdivAV) := op_imp op_fdiv fun x y H Q ⟨io, hp, a, b, rl, ra, rb, P⟩ => by
  cases a with
  | int i =>
    cases b with
    | int j =>
      obtain rfl := ra.int_inv
      obtain rfl := rb.int_inv
      have P' : Pop W (RV W) Q io H (if 0 < j ∧ j < 1073741824 then some (.int (i / j), hp) else none) := P
      by_cases h : 0 < j ∧ j < 1073741824
      · rw [if_pos h] at P'
        exact ⟨i, j, rfl, rfl, h, P'.ok rl (.int _)⟩
      · rw [if_neg h] at P'
        exact P'.elim
    | _ => exact P.elim
  | _ => exact P.elim
theorem oMod : OpR X (binaryOp .Mod) (t2 W modAV) := op_imp op_mod fun x y H Q ⟨io, hp, a, b, rl, ra, rb, P⟩ => by
  cases a with
  | int i =>
    cases b with
    | int j =>
      obtain rfl := ra.int_inv
      obtain rfl := rb.int_inv
      have P' : Pop W (RV W) Q io H (if 0 < j then some (.int (i % j), hp) else none) := P
      by_cases h : 0 < j
      · rw [if_pos h] at P'
        exact ⟨i, j, rfl, rfl, h, P'.ok rl (.int _)⟩
      · rw [if_neg h] at P'
        exact P'.elim
    | _ => exact P.elim
  | _ => exact P.elim
theorem op_powA : OpR X (binaryOp .Pow) (rI (fun i j => 0 ≤ j ∧ j ≤ 100 ∧ i.natAbs < 2 ^ 1000) fun i j => .int (i ^ j.toNat)) := opI fun i j _ _ _ _ _ hc q => pow_int hc.1 (by
  have hb : Builtin.Int.intBits i ≤ 1000 := by
    unfold Builtin.Int.intBits
    split
    · omega
    · have := PySem.Flt.log2_lt_of (k := 1000) (by decide) hc.2.2
      omega
  have h2 := hc.2.1
  have h0 := hc.1
  have : (Builtin.Int.intBits i : Int) * j ≤ 1000 * 100 := Int.mul_le_mul (by omega) h2 h0 (by decide)
  exact Int.le_trans this (by decide)) q
theorem oPow : OpR X (binaryOp .Pow) (t2 W powAV) := op_imp op_powA fun x y H Q ⟨io, hp, a, b, rl, ra, rb, P⟩ => by
  cases a with
  | int i =>
    cases b with
    | int j =>
      obtain rfl := ra.int_inv
      obtain rfl := rb.int_inv
      have P' : Pop W (RV W) Q io H (if 0 ≤ j ∧ j ≤ 100 ∧ i.natAbs < 2 ^ 1000 then some (.int (i ^ j.toNat), hp) else none) := P
      by_cases h : 0 ≤ j ∧ j ≤ 100 ∧ i.natAbs < 2 ^ 1000
      · rw [if_pos h] at P'
        exact ⟨i, j, rfl, rfl, h, P'.ok rl (.int _)⟩
      · rw [if_neg h] at P'
        exact P'.elim
    | _ => exact P.elim
  | _ => exact P.elim
theorem uNeg : UnR X (unaryOp .USub) (t1 W negAV) := fun pins s σ H x v Q I rx ⟨io, hp, a, rl, ra, P⟩ => by
  cases a with
  | int i =>
    obtain rfl := ra.int_inv
    exact un_neg pins s σ H _ v Q I rx ⟨i, rfl, P.ok rl (.int _)⟩
  | _ => exact P.elim
end

/-! ### data -/
/-- a value as data: lists read off the heap -/
def toD : Nat → Hep → AV → Option PyData
  | 0, _, _ => none
  | _ + 1, _, .non => some .none
  | _ + 1, _, .bl b => some (.bool b)
  | _ + 1, _, .int i => some (.int i)
  | _ + 1, _, .str x => some (.str x)
  | n + 1, h, .tup xs => (xs.mapM (toD n h)).map .tuple
  | n + 1, h, .rol xs => (xs.mapM (toD n h)).map .list
  | n + 1, h, .ref k => match h[k]? with
    | some (.lst xs) => (xs.mapM (toD n h)).map .list
    | _ => none
  | _ + 1, _, _ => none
section
variable {W : Wd} {io : List Addr} {H : Hp} {hp : Hep}
theorem mapM_cons_some {A B : Type} {f : A → Option B} {x : A} {xs : List A} {ds : List B} (h : (x :: xs).mapM f = some ds) : ∃ d r, f x = some d ∧ xs.mapM f = some r ∧ ds = d :: r := by
  rw [List.mapM_cons] at h
  cases e : f x with
  | none =>
    rw [e] at h
    cases h
  | some d =>
    rw [e] at h
    cases e2 : xs.mapM f with
    | none =>
      rw [e2] at h
      cases h
    | some r =>
      rw [e2] at h
      cases h
      exact ⟨d, r, rfl, rfl, rfl⟩
theorem toD_list (n : Nat) (ih : ∀ (a : AV) (v : V) (d : PyData), toD n hp a = some d → RV W io H a v → Dp W.K H v d) : ∀ (xs : List AV) (vs : List V) (ds : List PyData), xs.mapM (toD n hp) = some ds → RVs W io H xs vs → DpAll W.K H vs ds
  | [], _, ds, h, .nil => by
    cases h
    exact .nil
  | x :: xs, _, ds, h, .cons r q => by
    obtain ⟨d, rr, h1, h2, rfl⟩ := mapM_cons_some h
    exact .cons (ih x _ d h1 r) (toD_list n ih xs _ rr h2 q)
theorem toD_in (R : Rl W io hp H) : ∀ (n : Nat) (a : AV) (v : V) (d : PyData), toD n hp a = some d → RV W io H a v → Dp W.K H v d
  | 0, _, _, _, h, _ => by cases h
  | n + 1, a, v, d, h, r => by
    have ih := toD_in R n
    cases r with
    | non =>
      cases h
      exact .non
    | bl b =>
      cases h
      exact .bl b
    | int i =>
      cases h
      exact .int i
    | str x =>
      cases h
      exact .str x
    | tup s q =>
      rename_i xs
      have h' : (xs.mapM (toD n hp)).map .tuple = some d := h
      obtain ⟨ds, h1, rfl⟩ := Option.map_eq_some_iff.mp h'
      exact .tup s (toD_list n ih _ _ ds h1 q)
    | rol s q =>
      rename_i xs
      have h' : (xs.mapM (toD n hp)).map .list = some d := h
      obtain ⟨ds, h1, rfl⟩ := Option.map_eq_some_iff.mp h'
      exact .lst (roL_sq s) (toD_list n ih _ _ ds h1 q)
    | ref e =>
      rename_i k p
      have h' : (match hp[k]? with
        | some (.lst xs) => (xs.mapM (toD n hp)).map .list
        | _ => none) = some d := h
      cases z : hp[k]? with
      | none =>
        rw [z] at h'
        cases h'
      | some o =>
        rw [z] at h'
        cases o with
        | lst xs =>
          have h2 : (xs.mapM (toD n hp)).map .list = some d := h'
          obtain ⟨ds, h1, rfl⟩ := Option.map_eq_some_iff.mp h2
          obtain ⟨vs, e1, r1⟩ := R.lst e z
          exact .lst (SqL.of e1) (toD_list n ih _ _ ds h1 r1)
        | _ => cases h'
    | adr a => cases h
    | ty a => cases h
    | cls a => cases h
end
/-- the depth of data -/
abbrev DD : Nat := 50
def eqD (a b : AV) (h : Hep) : Option Bool := match toD DD h a, toD DD h b with
  | some d, some e => if SeqAt.shaped d = true ∧ SeqAt.shaped e = true then some (PyData.eqv d e) else none
  | _, _ => none
def eqAV : D2 := fun a b h => (eqD a b h).map fun c => (.bl c, h)
def neAV : D2 := fun a b h => (eqD a b h).map fun c => (.bl (!c), h)
section
variable {W : Wd} {X : Cx}
theorem eqD_in {io : List Addr} {H : Hp} {hp : Hep} {a b : AV} {x y : V} {c : Bool} (e : eqD a b hp = some c) (R : Rl W io hp H) (ra : RV W io H a x) (rb : RV W io H b y) :
    ∃ d f, Dp W.K H x d ∧ Dp W.K H y f ∧ SeqAt.shaped d = true ∧ SeqAt.shaped f = true ∧ c = PyData.eqv d f := by
  unfold eqD at e
  cases z1 : toD DD hp a with
  | none =>
    rw [z1] at e
    cases e
  | some d =>
    cases z2 : toD DD hp b with
    | none =>
      rw [z1, z2] at e
      cases e
    | some f =>
      rw [z1, z2] at e
      have e' : (if SeqAt.shaped d = true ∧ SeqAt.shaped f = true then some (PyData.eqv d f) else none) = some c := e
      by_cases h : SeqAt.shaped d = true ∧ SeqAt.shaped f = true
      · rw [if_pos h] at e'
        cases e'
        exact ⟨d, f, toD_in R DD a x d z1 ra, toD_in R DD b y f z2 rb, h.1, h.2, rfl⟩
      · rw [if_neg h] at e'
        cases e'
theorem oEq (hK : X.K = W.K) (hu : X.A.units + 64 < cLine) : OpR X (compareOp .Eq) (t2 W eqAV) := op_imp (op_eqD hu) fun x y H Q ⟨io, hp, a, b, rl, ra, rb, P⟩ => by
  rw [hK]
  unfold eqAV at P
  cases z : eqD a b hp with
  | none =>
    rw [z] at P
    exact P.elim
  | some c =>
    rw [z] at P
    obtain ⟨d, f, h1, h2, h3, h4, rfl⟩ := eqD_in z rl ra rb
    exact ⟨d, f, h1, h2, h3, h4, Pop.ok P rl (.bl _)⟩
theorem oNe (hK : X.K = W.K) (hu : X.A.units + 64 < cLine) : OpR X (compareOp .NotEq) (t2 W neAV) := op_imp (op_neD hu) fun x y H Q ⟨io, hp, a, b, rl, ra, rb, P⟩ => by
  rw [hK]
  unfold neAV at P
  cases z : eqD a b hp with
  | none =>
    rw [z] at P
    exact P.elim
  | some c =>
    rw [z] at P
    obtain ⟨d, f, h1, h2, h3, h4, rfl⟩ := eqD_in z rl ra rb
    exact ⟨d, f, h1, h2, h3, h4, Pop.ok P rl (.bl _)⟩
end
end Dn
namespace Dn
open PySem PySem.Spec PyProof.Rows L2

/-! ### dicts by values -/
section
variable {k : Type} [DecidableEq k]
def dget (kvs : List (k × AV)) (q : k) : Option AV := (kvs.find? fun kv => decide (kv.1 = q)).map (·.2)
def dput (kvs : List (k × AV)) (q : k) (v : AV) : List (k × AV) :=
  if (kvs.any fun kv => decide (kv.1 = q)) = true then kvs.map (fun kv => if kv.1 = q then (kv.1, v) else kv) else kvs ++ [(q, v)]
def ddrop (kvs : List (k × AV)) (q : k) : List (k × AV) := kvs.filter fun kv => decide (kv.1 ≠ q)
variable {W : Wd} {io : List Addr} {H : Hp}
theorem RKs.len : ∀ {xs : List (k × AV)} {vs : List (k × V)}, RKs W io H xs vs → xs.length = vs.length
  | _, _, .nil => rfl
  | _, _, .cons _ q => by simp [RKs.len q]
theorem RKs.keys : ∀ {xs : List (k × AV)} {vs : List (k × V)}, RKs W io H xs vs → xs.map (·.1) = vs.map (·.1)
  | _, _, .nil => rfl
  | _, _, .cons _ q => by simp [RKs.keys q]
theorem RKs.vals : ∀ {xs : List (k × AV)} {vs : List (k × V)}, RKs W io H xs vs → RVs W io H (xs.map (·.2)) (vs.map (·.2))
  | _, _, .nil => .nil
  | _, _, .cons r q => .cons r (RKs.vals q)
/-- both have it, or none has -/
def RVo (W : Wd) (io : List Addr) (H : Hp) : Option AV → Option V → Prop
  | some a, some v => RV W io H a v
  | none, none => True
  | _, _ => False
theorem RKs.get : ∀ {xs : List (k × AV)} {vs : List (k × V)} (q : k), RKs W io H xs vs → RVo W io H (dget xs q) (valV vs q)
  | _, _, _, .nil => trivial
  | (q', x) :: xs, (_, v) :: vs, q, .cons r t => by
    have ih := RKs.get q t
    unfold dget valV at ih ⊢
    by_cases e : q' = q
    · simp [List.find?_cons, e]
      exact r
    · simp only [List.find?_cons, e, decide_false]
      exact ih
theorem RKs.any : ∀ {xs : List (k × AV)} {vs : List (k × V)} (q : k), RKs W io H xs vs → (xs.any fun kv => decide (kv.1 = q)) = vs.any fun kv => decide (kv.1 = q)
  | _, _, _, .nil => rfl
  | _, _, q, .cons r t => by simp [List.any_cons, RKs.any q t]
theorem RKs.repl : ∀ {xs : List (k × AV)} {vs : List (k × V)} (q : k) {a : AV} {v : V}, RV W io H a v → RKs W io H xs vs →
    RKs W io H (xs.map fun kv => if kv.1 = q then (kv.1, a) else kv) (vs.map fun kv => if kv.1 = q then (kv.1, v) else kv)
  | _, _, _, _, _, _, .nil => .nil
  | (q', x) :: xs, (_, w) :: vs, q, a, v, ra, .cons r t => by
    rw [List.map_cons, List.map_cons]
    by_cases e : q' = q
    · simp only [e, if_true]
      exact .cons ra (RKs.repl q ra t)
    · simp only [e, if_false]
      exact .cons r (RKs.repl q ra t)
theorem RKs.app : ∀ {xs ys : List (k × AV)} {vs ws : List (k × V)}, RKs W io H xs vs → RKs W io H ys ws → RKs W io H (xs ++ ys) (vs ++ ws)
  | _, _, _, _, .nil, q => q
  | _, _, _, _, .cons r t, q => .cons r (RKs.app t q)
theorem RKs.put {xs : List (k × AV)} {vs : List (k × V)} (q : k) {a : AV} {v : V} (ra : RV W io H a v) (r : RKs W io H xs vs) : RKs W io H (dput xs q a) (putK vs q v) := by
  unfold dput putK
  rw [r.any q]
  by_cases e : (vs.any fun kv => decide (kv.1 = q)) = true
  · rw [if_pos e, if_pos e]
    exact r.repl q ra
  · rw [if_neg e, if_neg e]
    exact r.app (.cons ra .nil)
theorem RKs.drop : ∀ {xs : List (k × AV)} {vs : List (k × V)} (q : k), RKs W io H xs vs → RKs W io H (ddrop xs q) (dropK vs q)
  | _, _, _, .nil => .nil
  | (q', x) :: xs, (_, w) :: vs, q, .cons r t => by
    have ih := RKs.drop q t
    unfold ddrop dropK at ih ⊢
    by_cases e : q' = q
    · simp only [List.filter_cons, e, ne_eq, not_true_eq_false, decide_false]
      exact ih
    · simp only [List.filter_cons, ne_eq, e, not_false_eq_true, decide_true, if_true]
      exact .cons r ih
end
def keyOf : AV → Option Key
  | .int i => some (.inl i)
  | .str x => some (.inr x)
  | _ => none
def ofKey : Key → AV
  | .inl i => .int i
  | .inr x => .str x
section
variable {W : Wd} {io : List Addr} {H : Hp}
theorem keyOf_in {a : AV} {v : V} {q : Key} (e : keyOf a = some q) (r : RV W io H a v) : v = kV q := by
  cases r with
  | int i =>
    cases e
    rfl
  | str x =>
    cases e
    rfl
  | _ => cases e
theorem rv_key (q : Key) : RV W io H (ofKey q) (kV q) := by
  cases q with
  | inl i => exact .int i
  | inr x => exact .str x
def keysOf : List AV → Option (List Key)
  | [] => some []
  | a :: r => match keyOf a, keysOf r with
    | some q, some l => some (q :: l)
    | _, _ => none
theorem keysOf_in : ∀ {xs : List AV} {vs : List V} {l : List Key}, keysOf xs = some l → RVs W io H xs vs → vs = l.map kV
  | [], _, l, e, .nil => by
    cases e
    rfl
  | a :: r, _, l, e, .cons ra t => by
    unfold keysOf at e
    cases z : keyOf a with
    | none =>
      rw [z] at e
      cases e
    | some q =>
      cases z2 : keysOf r with
      | none =>
        rw [z, z2] at e
        cases e
      | some l2 =>
        rw [z, z2] at e
        cases e
        rw [keyOf_in z ra, keysOf_in z2 t]
        rfl
theorem keysOf_map : ∀ (l : List Key), keysOf (l.map ofKey) = some l
  | [] => rfl
  | q :: r => by
    rw [List.map_cons]
    unfold keysOf
    rw [keysOf_map r]
    cases q <;> rfl
end

/-! ### comparisons -/
def cmpAV (fi : Int → Int → Bool) (fs : List Nat → List Nat → Bool) : D2 := fun a b h => match a, b with
  | .int i, .int j => some (.bl (fi i j), h)
  | .str x, .str y => some (.bl (fs x.cps.toList y.cps.toList), h)
  | _, _ => none
abbrev ltAV : D2 := cmpAV (fun i j => decide (i < j)) (fun x y => decide (x < y))
abbrev leAV : D2 := cmpAV (fun i j => decide (i ≤ j)) (fun x y => !decide (y < x))
abbrev gtAV : D2 := cmpAV (fun i j => decide (j < i)) (fun x y => decide (y < x))
abbrev geAV : D2 := cmpAV (fun i j => decide (j ≤ i)) (fun x y => !decide (x < y))
def isNonB : AV → Bool
  | .non => true
  | _ => false
def isNonAV : D2 := fun a b h => match b with
  | .non => some (.bl (isNonB a), h)
  | _ => none
def notNonAV : D2 := fun a b h => match b with
  | .non => some (.bl (!isNonB a), h)
  | _ => none
section
variable {W : Wd} {X : Cx}
theorem cmp_in {op : CmpOp} {fi : Int → Int → Bool} {fs : List Nat → List Nat → Bool} (h1 : OpR X (compareOp op) (rI0 fun i j => .bl (fi i j))) (h2 : OpR X (compareOp op) (fun x y H Q => ∃ i j, x = .str i ∧ y = .str j ∧ Q (.bl (fs i.cps.toList j.cps.toList)) H)) :
    OpR X (compareOp op) (t2 W (cmpAV fi fs)) := op_imp (h1.or h2) fun x y H Q ⟨io, hp, a, b, rl, ra, rb, P⟩ => by
  cases a with
  | int i =>
    cases b with
    | int j =>
      obtain rfl := ra.int_inv
      obtain rfl := rb.int_inv
      exact .inl ⟨i, j, rfl, rfl, P.ok rl (.bl _)⟩
    | _ => exact P.elim
  | str i =>
    cases b with
    | str j =>
      obtain rfl := ra.str_inv
      obtain rfl := rb.str_inv
      exact .inr ⟨i, j, rfl, rfl, P.ok rl (.bl _)⟩
    | _ => exact P.elim
  | _ => exact P.elim
theorem oLt : OpR X (compareOp .Lt) (t2 W ltAV) := cmp_in op_lt op_lt_str
theorem oLe : OpR X (compareOp .LtE) (t2 W leAV) := cmp_in op_le op_le_str
theorem oGt : OpR X (compareOp .Gt) (t2 W gtAV) := cmp_in op_gt op_gt_str
theorem oGe : OpR X (compareOp .GtE) (t2 W geAV) := cmp_in op_ge op_ge_str
theorem non_dec {io : List Addr} {H : Hp} {a : AV} {v : V} (r : RV W io H a v) : isNonB a = decide (v = .non) := by
  cases r <;> rfl
theorem oIs : OpR X (compareOp .Is) (t2 W isNonAV) := op_imp op_isN fun x y H Q ⟨io, hp, a, b, rl, ra, rb, P⟩ => by
  cases b with
  | non =>
    obtain rfl := rb.non_inv
    refine ⟨rfl, ?_⟩
    rw [← non_dec ra]
    exact Pop.ok P rl (.bl _)
  | _ => exact P.elim
theorem oIsNot : OpR X (compareOp .IsNot) (t2 W notNonAV) := op_imp op_notN fun x y H Q ⟨io, hp, a, b, rl, ra, rb, P⟩ => by
  cases b with
  | non =>
    obtain rfl := rb.non_inv
    refine ⟨rfl, ?_⟩
    rw [← non_dec ra]
    exact Pop.ok P rl (.bl _)
  | _ => exact P.elim
end

/-! ### in -/
def flatA : AV → Bool
  | .non => true
  | .bl _ => true
  | .int _ => true
  | .str _ => true
  | _ => false
def toV0 : AV → V
  | .bl b => .bl b
  | .int i => .int i
  | .str x => .str x
  | _ => .non
def inStr (x y : Str) : Bool := !(Builtin.Str.occurrences y x 0 y.length 1).isEmpty
/-- is a in b -/
def inB (a b : AV) (h : Hep) : Option Bool := match b with
  | .str y => (match a with
    | .str x => some (inStr x y)
    | _ => none)
  | .tup xs => if flatA a = true ∧ xs.all flatA = true then some (inV (toV0 a) (xs.map toV0)) else none
  | .ref n => (match h[n]? with
    | some (.lst xs) => (match toD DD h a, xs.mapM (toD DD h) with
      | some d, some ds => if SeqAt.shaped d = true ∧ SeqAt.shaped (.list ds) = true then some (ds.any fun z => PyData.eqv z d) else none
      | _, _ => none)
    | some (.dK kvs) => (keyOf a).map fun q => (dget kvs q).isSome
    | some (.frz (.dK kvs)) => (keyOf a).map fun q => (dget kvs q).isSome
    | _ => none)
  | _ => none
def inAV : D2 := fun a b h => (inB a b h).map fun c => (.bl c, h)
def notInAV : D2 := fun a b h => (inB a b h).map fun c => (.bl (!c), h)
section
variable {W : Wd} {X : Cx}
theorem flat_in {io : List Addr} {H : Hp} {a : AV} {v : V} (r : RV W io H a v) (f : flatA a = true) : v = toV0 a ∧ flatV v = true := by
  cases r with
  | non => exact ⟨rfl, rfl⟩
  | bl b => exact ⟨rfl, rfl⟩
  | int b => exact ⟨rfl, rfl⟩
  | str b => exact ⟨rfl, rfl⟩
  | _ => cases f
theorem flats_in {io : List Addr} {H : Hp} : ∀ {xs : List AV} {vs : List V}, RVs W io H xs vs → xs.all flatA = true → vs = xs.map toV0 ∧ vs.all flatV = true
  | _, _, .nil, _ => ⟨rfl, rfl⟩
  | _, _, .cons r t, f => by
    rw [List.all_cons, Bool.and_eq_true] at f
    obtain ⟨e1, e2⟩ := flat_in r f.1
    obtain ⟨e3, e4⟩ := flats_in t f.2
    refine ⟨by rw [List.map_cons, ← e1, ← e3], ?_⟩
    rw [List.all_cons, e2, e4]
    rfl
/-- what a dict gives, by values -/
def rDIn (neg : Bool) : R2 := fun y x H Q => ∃ a o, x = .ref a ∧ DGet H a y o ∧ Q (.bl (if neg then !o.isSome else o.isSome)) H
theorem op_dIn (hu : X.A.units + 1 < cLine) : OpR X (compareOp .In) (rDIn false) := fun pins s σ H x y v u Q I rx ry ⟨a, o, ey, g, q⟩ => by
  subst ey
  obtain rfl : u = Value.ref a := ry
  exact d_in hu I g rx fun s3 I3 => ⟨.bl o.isSome, H, I3, rfl, q⟩
theorem op_dNotIn (hu : X.A.units + 1 < cLine) : OpR X (compareOp .NotIn) (rDIn true) := fun pins s σ H x y v u Q I rx ry ⟨a, o, ey, g, q⟩ => by
  subst ey
  obtain rfl : u = Value.ref a := ry
  exact d_notIn hu I g rx fun s3 I3 => ⟨.bl (!o.isSome), H, I3, rfl, q⟩
/-- the four ways of «in» -/
def rIn4 (K : PySem.W.Frag) (neg : Bool) : R2 := fun x y H Q =>
  ((∃ i j, x = .str i ∧ y = .str j ∧ Q (.bl (if neg then !(inStr i j) else inStr i j)) H) ∨ rIn K neg x y H Q) ∨
  ((∃ d ds, Dp K H x d ∧ Dp K H y (.list ds) ∧ SeqAt.shaped d = true ∧ SeqAt.shaped (.list ds) = true ∧ Q (.bl (if neg then !(ds.any fun z => PyData.eqv z d) else ds.any fun z => PyData.eqv z d)) H) ∨ rDIn neg x y H Q)
theorem op_in4 (hu : X.A.units + 65 < cLine) : OpR X (compareOp .In) (rIn4 X.K false) :=
  OpR.or (OpR.or op_in_str op_in_seq) (OpR.or (op_inD hu) (op_dIn (by omega)))
theorem op_notIn4 (hu : X.A.units + 65 < cLine) : OpR X (compareOp .NotIn) (rIn4 X.K true) :=
  OpR.or (OpR.or op_notin_str op_notIn_seq) (OpR.or (op_notInD hu) (op_dNotIn (by omega)))
theorem dget_in {io : List Addr} {H : Hp} {p : Addr} {kvs : List (Key × AV)} {vs : List (Key × V)} {a : AV} {x : V} {q : Key} (hr : Rd H p (.dK vs)) (r : RKs W io H kvs vs) (e : keyOf a = some q) (ra : RV W io H a x) :
    ∃ o, DGet H p x o ∧ RVo W io H (dget kvs q) o := ⟨_, .inl ⟨vs, q, hr, keyOf_in e ra, rfl⟩, r.get q⟩
theorem RVo.some_eq {io : List Addr} {H : Hp} {o : Option AV} {o' : Option V} (r : RVo W io H o o') : o.isSome = o'.isSome := by
  cases o <;> cases o' <;> first | rfl | exact r.elim
theorem tup_key {io : List Addr} {H : Hp} {hp : Hep} (rl : Rl W io hp H) {ks : List AV} {x : V} {q : List Key} (e : keysOf ks = some q) (ra : RV W io H (.tup ks) x) : ∃ b, x = .ref b ∧ SqT W.K H b (q.map kV) := by
  obtain ⟨p, vs, rfl, h1, r1⟩ := tupOf_in (xs := ks) rfl ra
  rw [keysOf_in e r1] at h1
  exact ⟨p, rfl, h1⟩
theorem inB_in {io : List Addr} {H : Hp} {hp : Hep} {neg : Bool} {a b : AV} {x y : V} {c : Bool} {Q : VK} (e : inB a b hp = some c) (R : Rl W io hp H) (ra : RV W io H a x) (rb : RV W io H b y)
    (q : Q (.bl (if neg then !c else c)) H) : rIn4 W.K neg x y H Q := by
  cases b with
  | str j =>
    cases a with
    | str i =>
      cases e
      obtain rfl := ra.str_inv
      obtain rfl := rb.str_inv
      exact .inl (.inl ⟨i, j, rfl, rfl, q⟩)
    | _ => cases e
  | tup xs =>
    have e' : (if flatA a = true ∧ xs.all flatA = true then some (inV (toV0 a) (xs.map toV0)) else none) = some c := e
    by_cases h : flatA a = true ∧ xs.all flatA = true
    · rw [if_pos h] at e'
      cases e'
      obtain ⟨p, vs, rfl, h1, r1⟩ := tupOf_in (xs := xs) rfl rb
      obtain ⟨e1, e2⟩ := flat_in ra h.1
      obtain ⟨e3, e4⟩ := flats_in r1 h.2
      rw [← e1, ← e3] at q
      exact .inl (.inr ⟨p, vs, rfl, .inr h1, e2, e4, q⟩)
    · rw [if_neg h] at e'
      cases e'
  | ref n =>
    cases rb with
    | ref hi =>
      rename_i p
      have e0 : (match hp[n]? with
        | some (.lst xs) => (match toD DD hp a, xs.mapM (toD DD hp) with
          | some d, some ds => if SeqAt.shaped d = true ∧ SeqAt.shaped (.list ds) = true then some (ds.any fun z => PyData.eqv z d) else none
          | _, _ => none)
        | some (.dK kvs) => (keyOf a).map fun q => (dget kvs q).isSome
        | some (.frz (.dK kvs)) => (keyOf a).map fun q => (dget kvs q).isSome
        | _ => none) = some c := e
      cases z : hp[n]? with
      | none =>
        rw [z] at e0
        cases e0
      | some o =>
        rw [z] at e0
        cases o with
        | lst xs =>
          have e1 : (match toD DD hp a, xs.mapM (toD DD hp) with
            | some d, some ds => if SeqAt.shaped d = true ∧ SeqAt.shaped (.list ds) = true then some (ds.any fun z => PyData.eqv z d) else none
            | _, _ => none) = some c := e0
          cases z1 : toD DD hp a with
          | none =>
            rw [z1] at e1
            cases e1
          | some d =>
            cases z2 : xs.mapM (toD DD hp) with
            | none =>
              rw [z1, z2] at e1
              cases e1
            | some ds =>
              rw [z1, z2] at e1
              have e2 : (if SeqAt.shaped d = true ∧ SeqAt.shaped (.list ds) = true then some (ds.any fun z => PyData.eqv z d) else none) = some c := e1
              by_cases h : SeqAt.shaped d = true ∧ SeqAt.shaped (.list ds) = true
              · rw [if_pos h] at e2
                cases e2
                obtain ⟨vs, e3, r3⟩ := R.lst hi z
                exact .inr (.inl ⟨d, ds, toD_in R DD a x d z1 ra, .lst (SqL.of e3) (toD_list DD (toD_in R DD) xs vs ds z2 r3), h.1, h.2, q⟩)
              · rw [if_neg h] at e2
                cases e2
        | dK kvs =>
          obtain ⟨w, e1, rfl⟩ := Option.map_eq_some_iff.mp (show (keyOf a).map (fun q => (dget kvs q).isSome) = some c from e0)
          obtain ⟨vs, e3, r3⟩ := R.dK hi z
          obtain ⟨o, g, ro⟩ := dget_in (.inl e3) r3 e1 ra
          rw [ro.some_eq] at q
          exact .inr (.inr ⟨p, o, rfl, g, q⟩)
        | frz o2 =>
          cases o2 with
          | dK kvs =>
            obtain ⟨w, e1, rfl⟩ := Option.map_eq_some_iff.mp (show (keyOf a).map (fun q => (dget kvs q).isSome) = some c from e0)
            obtain ⟨u, e3, r3⟩ := R.at hi z
            cases r3 with
            | frz r4 =>
              cases r4 with
              | dK r5 =>
                obtain ⟨o, g, ro⟩ := dget_in (.inr ⟨_, e3⟩) r5 e1 ra
                rw [ro.some_eq] at q
                exact .inr (.inr ⟨p, o, rfl, g, q⟩)
          | _ => cases e0
        | ins t fs => cases e0
        | dT kvs => cases e0
  | _ => cases e
theorem oIn (hK : X.K = W.K) (hu : X.A.units + 65 < cLine) : OpR X (compareOp .In) (t2 W inAV) := op_imp (op_in4 hu) fun x y H Q ⟨io, hp, a, b, rl, ra, rb, P⟩ => by
  rw [hK]
  unfold inAV at P
  cases z : inB a b hp with
  | none =>
    rw [z] at P
    exact P.elim
  | some c =>
    rw [z] at P
    exact inB_in (neg := false) z rl ra rb (Pop.ok P rl (.bl _))
theorem oNotIn (hK : X.K = W.K) (hu : X.A.units + 65 < cLine) : OpR X (compareOp .NotIn) (t2 W notInAV) := op_imp (op_notIn4 hu) fun x y H Q ⟨io, hp, a, b, rl, ra, rb, P⟩ => by
  rw [hK]
  unfold notInAV at P
  cases z : inB a b hp with
  | none =>
    rw [z] at P
    exact P.elim
  | some c =>
    rw [z] at P
    exact inB_in (neg := true) z rl ra rb (Pop.ok P rl (.bl _))
end

/-! ### items, slices -/
def cutA (xs : List AV) (lo hi : Option Int) : List AV := (xs.drop (HT.sIx xs.length 0 lo)).take (HT.sIx xs.length xs.length hi - HT.sIx xs.length 0 lo)
def idxAV : D2 := fun a b h => match seqOf h a with
  | some xs => (match b with
    | .int i => (atI xs i).map fun v => (v, h)
    | _ => none)
  | none => (match a with
    | .str z => (match b with
      | .int i => if z.length ≤ SZ then (atI z.cps.toList i).map fun c => (.str ⟨#[c]⟩, h) else none
      | _ => none)
    | .ref n => (match h[n]? with
      | some (.dK kvs) => (keyOf b).bind fun q => (dget kvs q).map fun v => (v, h)
      | some (.frz (.dK kvs)) => (keyOf b).bind fun q => (dget kvs q).map fun v => (v, h)
      | _ => none)
    | _ => none)
def sliceAV (a : AV) (lo hi : Option Int) (h : Hep) : Op AV := match tupOf a with
  | some xs => mkT (cutA xs lo hi) h
  | none => (match lstOf h a with
    | some xs => mkL (cutA xs lo hi) h
    | none => (match a with
      | .str z => if z.length ≤ SZ then some (.str (cutS z lo hi), h) else none
      | _ => none))
section
variable {W : Wd} {X : Cx}
theorem ix_imp {r r' : R2} (h : IxR X r) (i : ∀ x y H Q, r' x y H Q → r x y H Q) : IxR X r' := fun value slice pins s σ H x y v u Q I r1 r2 q => h value slice pins s σ H x y v u Q I r1 r2 (i x y H Q q)
def rIxDk : R2 := fun x y H Q => ∃ a v, x = .ref a ∧ DGet H a y (some v) ∧ Q v H
theorem ix_dict (hu : X.A.units + 1 < cLine) : IxR X rIxDk := by
  intro value slice pins s σ H x y v u Q I rx ry h hs
  obtain ⟨a, w, rfl, g, q⟩ := h
  obtain rfl : v = Value.ref a := rx
  exact tail_any (dict_typeIs I g) PySem.F.slot_dict_getitem.lookup (d_getItem hu I g ry fun w' s3 I3 rw' => ⟨w, H, I3, rw', q⟩) hs
theorem RVs.atI {io : List Addr} {H : Hp} {xs : List AV} {vs : List V} {i : Int} {x : AV} (r : RVs W io H xs vs) (e : L2.atI xs i = some x) : ∃ v, L2.atI vs i = some v ∧ RV W io H x v := by
  unfold L2.atI at e ⊢
  rw [← r.len]
  cases z : ixN xs.length i with
  | none =>
    rw [z] at e
    cases e
  | some j =>
    rw [z] at e
    exact r.get e
theorem xIdx (hK : X.K = W.K) (hu : X.A.units + 1 < cLine) : IxR X (t2 W idxAV) := ix_imp (IxR.or ix_seq (ix_dict hu)) fun x y H Q ⟨io, hp, a, b, rl, ra, rb, P⟩ => by
  rw [hK]
  unfold idxAV at P
  cases z : seqOf hp a with
  | some xs =>
    rw [z] at P
    obtain ⟨p, vs, rfl, h1, r1⟩ := seqOf_in z rl ra
    cases b with
    | int i =>
      obtain rfl := rb.int_inv
      have P' : Pop W (RV W) Q io H ((L2.atI xs i).map fun v => (v, hp)) := P
      cases z2 : L2.atI xs i with
      | none =>
        rw [z2] at P'
        exact P'.elim
      | some v =>
        rw [z2] at P'
        obtain ⟨w, e2, r2⟩ := r1.atI z2
        have q : Q w H := Pop.ok P' rl r2
        rcases h1 with h1 | h1
        · exact .inl (.inl ⟨p, vs, i, w, rfl, rfl, h1, e2, q⟩)
        · exact .inl (.inr (.inl ⟨p, vs, i, w, rfl, rfl, h1, e2, q⟩))
    | _ => exact P.elim
  | none =>
    rw [z] at P
    cases a with
    | str t =>
      obtain rfl := ra.str_inv
      cases b with
      | int i =>
        obtain rfl := rb.int_inv
        have P' : Pop W (RV W) Q io H (if t.length ≤ SZ then (L2.atI t.cps.toList i).map (fun c => (AV.str ⟨#[c]⟩, hp)) else none) := P
        by_cases h : t.length ≤ SZ
        · rw [if_pos h] at P'
          cases z2 : L2.atI t.cps.toList i with
          | none =>
            rw [z2] at P'
            exact P'.elim
          | some c =>
            rw [z2] at P'
            exact .inl (.inr (.inr ⟨t, i, c, rfl, rfl, szL h, z2, Pop.ok P' rl (.str _)⟩))
        · rw [if_neg h] at P'
          exact P'.elim
      | _ => exact P.elim
    | ref n =>
      cases ra with
      | @ref _ p hi =>
        have P0 : Pop W (RV W) Q io H (match hp[n]? with
          | some (.dK kvs) => (keyOf b).bind fun q => (dget kvs q).map fun v => (v, hp)
          | some (.frz (.dK kvs)) => (keyOf b).bind fun q => (dget kvs q).map fun v => (v, hp)
          | _ => none) := P
        have fin : ∀ {kvs : List (Key × AV)} {vs : List (Key × V)}, Rd H p (.dK vs) → RKs W io H kvs vs → Pop W (RV W) Q io H ((keyOf b).bind fun q => (dget kvs q).map fun v => (v, hp)) → rIxDk (.ref p) y H Q := by
          intro kvs vs hr r P1
          cases z2 : keyOf b with
          | none =>
            rw [z2] at P1
            exact P1.elim
          | some q =>
            rw [z2] at P1
            obtain ⟨o, g, ro⟩ := dget_in hr r z2 rb
            have P2 : Pop W (RV W) Q io H ((dget kvs q).map fun v => (v, hp)) := P1
            cases z3 : dget kvs q with
            | none =>
              rw [z3] at P2
              exact P2.elim
            | some v =>
              rw [z3] at P2 ro
              cases o with
              | none => exact ro.elim
              | some w => exact ⟨p, w, rfl, g, Pop.ok P2 rl ro⟩
        cases z1 : hp[n]? with
        | none =>
          rw [z1] at P0
          exact P0.elim
        | some o =>
          rw [z1] at P0
          cases o with
          | dK kvs =>
            obtain ⟨vs, e3, r3⟩ := rl.dK hi z1
            exact .inr (fin (.inl e3) r3 P0)
          | frz o2 =>
            cases o2 with
            | dK kvs =>
              obtain ⟨u, e3, r3⟩ := rl.at hi z1
              cases r3 with
              | frz r4 =>
                cases r4 with
                | dK r5 => exact .inr (fin (.inr ⟨_, e3⟩) r5 P0)
            | _ => exact P0.elim
          | _ => exact P0.elim
    | _ => exact P.elim
theorem ixD {a b : Expr} {f g : DE} {r : D2} {M : Md W} {E : WX} {pos : Pos} (hr : IxR X (t2 W r)) (ha : PE X a (tD W M E f)) (hb : PE X b (tD W M E g)) (hs : PlainIx b) : PE X (.Subscript a b pos) (tD W M E (dOp r f g)) := peI (pe_ix hr ha hb hs) fun _ _ _ h => op_in h

abbrev DO := Sl → Hep → R (Option Int)
def dNoP : DO := fun _ h => .ok none h
def dPrt (f : DE) : DO := fun s h => (f s h).bind fun a h1 => match a with
  | .int i => .ok (some i) h1
  | _ => .stuck
def dSlc (f : DE) (l u : DO) : DE := fun s h => (f s h).bind fun a h1 => (l s h1).bind fun lo h2 => (u s h2).bind fun hi h3 => R.of (sliceAV a lo hi h3)
abbrev rlO : Rel (Option Int) (Option Int) := fun _ _ a b => a = b
theorem poI {e : Option Expr} {t t' : TO} (h : PO X e t) (i : ∀ σ H Q, t' σ H Q → t σ H Q) : PO X e t' := ⟨fun pins s σ H Q I q => h.run pins s σ H Q I (i σ H Q q)⟩
section
variable {M : Md W} {E : WX} {e : Expr} {lo hi : Option Expr} {f : DE} {l u : DO} {pos p2 : Pos}
theorem noP : PO X none (tG W M rlO E dNoP) := poI po_none fun σ H Q ⟨io, hp, as, rl, S, P⟩ => P.ok rl rfl
theorem prtD (h : PE X e (tD W M E f)) : PO X (some e) (tG W M rlO E (dPrt f)) := poI (po_some h) fun σ H Q ⟨io, hp, as, rl, S, P⟩ =>
  (step (rh := RV W) (f := f) rl S P).imp fun x H1 ⟨io2, hp2, a, e2, rl2, ra, P2⟩ => by
    cases a with
    | int i =>
      obtain rfl := ra.int_inv
      exact ⟨i, rfl, P2.ok rl2 rfl⟩
    | _ => exact P2.elim
theorem RVs.cut {io : List Addr} {H : Hp} {xs : List AV} {vs : List V} (r : RVs W io H xs vs) (lo hi : Option Int) : RVs W io H (cutA xs lo hi) (cutV vs lo hi) := by
  unfold cutA cutV
  rw [r.len]
  exact (r.drop _).take _
theorem cut_whole {vs : List V} {lo hi : Option Int} (h : HT.sIx vs.length 0 lo = 0 ∧ HT.sIx vs.length vs.length hi = vs.length) : cutV vs lo hi = vs := by
  unfold cutV
  rw [h.1, h.2]
  simp
def rSl3 (K : PySem.W.Frag) : V → Option Int → Option Int → Hp → VK → Prop := fun x lo hi H Q => (rSlA K x lo hi H Q ∨ rSlL K x lo hi H Q) ∨ rSlS x lo hi H Q
theorem sl3 : SlR X (rSl3 X.K) := SlR.or (SlR.or sl_tupA sl_list) sl_str
theorem slcD (hK : X.K = W.K) (he : PE X e (tD W M E f)) (hl : PO X lo (tG W M rlO E l)) (hu : PO X hi (tG W M rlO E u)) : PE X (.Subscript e (.Slice lo hi none p2) pos) (tD W M E (dSlc f l u)) :=
  peI (pe_slice sl3 he hl hu) fun σ H Q ⟨io, hp, as, rl, S, P⟩ =>
    (step (rh := RV W) (f := f) rl S P).imp fun x H1 ⟨io1, hp1, a, e1, rl1, ra, P1⟩ =>
      (step (rh := rlO) (f := l) rl1 (M.mono e1 S) P1).imp fun o H2 ⟨io2, hp2, o2, e2, rl2, ro, P2⟩ =>
        (step (rh := rlO) (f := u) rl2 (M.mono e2 (M.mono e1 S)) P2).imp fun o' H3 ⟨io3, hp3, o3, e3, rl3, ro', P3⟩ => by
          subst ro ro'
          rw [hK]
          have ra := (ra.mono e2).mono e3
          have P4 := P3.of
          unfold sliceAV at P4
          cases z : tupOf a with
          | some xs =>
            rw [z] at P4
            obtain ⟨p, vs, rfl, h1, r1⟩ := tupOf_in z ra
            obtain ⟨_, k1, k2⟩ := mkT_in P4 rl3 (r1.cut o2 o3)
            exact .inl (.inl ⟨p, vs, rfl, h1, fun hw => k2 p (by rw [cut_whole hw]; exact h1), fun _ => k1⟩)
          | none =>
            rw [z] at P4
            cases z2 : lstOf hp3 a with
            | some xs =>
              rw [z2] at P4
              obtain ⟨p, vs, rfl, h1, r1⟩ := lstOf_in z2 rl3 ra
              obtain ⟨_, k1⟩ := mkL_in P4 rl3 (r1.cut o2 o3)
              exact .inl (.inr ⟨p, vs, rfl, h1, k1⟩)
            | none =>
              rw [z2] at P4
              cases a with
              | str t =>
                obtain rfl := ra.str_inv
                have P5 : Pop W (RV W) Q io3 H3 (if t.length ≤ SZ then some (AV.str (cutS t o2 o3), hp3) else none) := P4
                by_cases h : t.length ≤ SZ
                · rw [if_pos h] at P5
                  exact .inr ⟨t, rfl, szL h, Pop.ok P5 rl3 (.str _)⟩
                · rw [if_neg h] at P5
                  exact P5.elim
              | _ => exact P4.elim
/-- xs[::-1] of a list -/
def revAV : D1 := fun a h => match lstOf h a with
  | some xs => mkL xs.reverse h
  | none => none
theorem revD {k : Nat} {p1 p3 : Pos} (hK : X.K = W.K) (he : PE X e (tD W M E f)) : PE X (.Subscript e (.Slice none none (some (.UnaryOp .USub (.Constant (.int 1) k p1) p2)) p3) pos) (tD W M E (dUn revAV f)) :=
  peI (pe_revL he) fun σ H Q h => by
    refine (un_in (M := M) (E := E) h).imp fun x H1 ⟨io2, hp2, a, rl2, ra, P2⟩ => ?_
    rw [hK]
    unfold revAV at P2
    cases z : lstOf hp2 a with
    | some xs =>
      rw [z] at P2
      obtain ⟨p, vs, rfl, h1, r1⟩ := lstOf_in z rl2 ra
      exact ⟨p, vs, rfl, h1, (mkL_in P2 rl2 r1.rev).2⟩
    | none =>
      rw [z] at P2
      exact P2.elim
end
end

/-! ### displays -/
def dLst (f : DA) : DE := fun s h => (f s h).bind fun xs h1 => R.of (mkL xs h1)
def dTup (f : DA) : DE := fun s h => (f s h).bind fun xs h1 => R.of (mkT xs h1)
section
variable {W : Wd} {X : Cx} {M : Md W} {E : WX} {es : List Expr} {f : DA} {pos : Pos}
theorem lstD (h : PA X es (tDA W M E f)) : PE X (.List es pos) (tD W M E (dLst f)) := peI (pe_lst h) fun σ H Q ⟨io, hp, as, rl, S, P⟩ =>
  (step (rh := RVs W) (f := f) rl S P).imp fun x H1 ⟨io2, hp2, a, e2, rl2, ra, P2⟩ => mkL_in P2.of rl2 ra
theorem tupD {k : Nat} (h : PA X es (tDA W M E f)) : PE X (.Tuple es k pos) (tD W M E (dTup f)) := peI (pe_tup h) fun σ H Q ⟨io, hp, as, rl, S, P⟩ =>
  (step (rh := RVs W) (f := f) rl S P).imp fun x H1 ⟨io2, hp2, a, e2, rl2, ra, P2⟩ => by
    obtain ⟨k1, k2, _⟩ := mkT_in P2.of rl2 ra
    exact ⟨k1, k2⟩
end
end Dn
namespace Dn
open PySem PySem.Spec PyProof.Rows L2

/-! ### what is walked -/
/-- fixed items, or the list at a place as it is at each turn -/
inductive Src where
  | fix (xs : List AV)
  | at (n : Nat)
  /-- places and items of a sequence -/
  | enF (xs : List AV)
  | enA (n : Nat)
/-- the item of a turn: none is a fault, some none the end -/
def Src.next (s : Src) (i : Nat) (h : Hep) : Option (Option AV) := match s with
  | .fix xs => some xs[i]?
  | .at n => (match h[n]? with
    | some (.lst xs) => some xs[i]?
    | _ => none)
  | .enF xs => some (xs[i]?.map fun x => .tup [.int i, x])
  | .enA n => (match h[n]? with
    | some (.lst xs) => some (xs[i]?.map fun x => .tup [.int i, x])
    | _ => none)
def Src.len (s : Src) (h : Hep) : Nat := match s with
  | .fix xs => xs.length
  | .enF xs => xs.length
  | .at n => (match h[n]? with
    | some (.lst xs) => xs.length
    | _ => 0)
  | .enA n => (match h[n]? with
    | some (.lst xs) => xs.length
    | _ => 0)
abbrev DI := Sl → Hep → R Src
/-- the iterator J gives what the source gives, in every later heap -/
def RSrc (W : Wd) : Rel Src It := fun io H src J => ∀ io' H' hp, Ext W io H io' H' → Rl W io' hp H' →
  (∀ i, src.next i hp = some none → J.stop i H') ∧
  ∀ i x, src.next i hp = some (some x) → J.go i H' ∧ ∀ v H2, J.yld i H' v H2 → Ext W io' H' io' H2 ∧ Rl W io' hp H2 ∧ RV W io' H2 x v

/-- a target -/
abbrev DG := AV → Sl → Option Sl
abbrev DGs := List AV → Sl → Option Sl
def dgN (i : Nat) : DG := fun v s => some (s.set i (some v))
def dgT (g : DGs) : DG := fun v s => match tupOf v with
  | some xs => g xs s
  | none => none
def dg0 : DGs := fun xs s => match xs with
  | [] => some s
  | _ => none
def dgC (g : DG) (r : DGs) : DGs := fun xs s => match xs with
  | x :: t => (g x s).bind fun s1 => r t s1
  | [] => none
/-- C: what is kept of the slots -/
abbrev CS := L2.St → L2.St → Prop
def tgG (W : Wd) (M : Md W) (C : CS) (g : DG) : TG := fun v σ H Q => ∃ io hp as x, Rl W io hp H ∧ M.rel io H as σ ∧ RV W io H x v ∧ match g x as with
  | some as' => ∀ σ', M.rel io H as' σ' → C σ σ' → Q σ' H
  | none => False
def tgGs (W : Wd) (M : Md W) (C : CS) (g : DGs) : TGs := fun vs σ H Q => ∃ io hp as xs, Rl W io hp H ∧ M.rel io H as σ ∧ RVs W io H xs vs ∧ match g xs as with
  | some as' => ∀ σ', M.rel io H as' σ' → C σ σ' → Q σ' H
  | none => False
def anyC : CS := fun _ _ => True
def wipC (vs : List Nat) : CS := fun σ σ' => wipe σ' vs = wipe σ vs
structure CSok (C : CS) : Prop where
  rf : ∀ σ, C σ σ
  tr : ∀ a b c, C a b → C b c → C a c
theorem anyC_ok : CSok anyC := ⟨fun _ => trivial, fun _ _ _ _ _ => trivial⟩
theorem wipC_ok (vs : List Nat) : CSok (wipC vs) := ⟨fun _ => rfl, fun _ _ _ h k => Eq.trans k h⟩
theorem wipe_set {i : Nat} {x : Option V} : ∀ {vs : List Nat} (σ : L2.St), i ∈ vs → wipe (σ.set i x) vs = wipe σ vs
  | v :: vs, σ, h => by
    unfold wipe
    by_cases e : i ∈ vs
    · rw [wipe_set σ e]
    · have ev : i = v := by
        rcases List.mem_cons.mp h with h | h
        · exact h
        · exact absurd h e
      subst ev
      apply List.ext_getElem?
      intro j
      by_cases hj : i = j
      · subst hj
        by_cases hl : i < σ.length
        · rw [List.getElem?_set_self (by rw [wipe_length]; simpa using hl), List.getElem?_set_self (by rw [wipe_length]; exact hl)]
        · rw [List.getElem?_eq_none (by simp [wipe_length]; omega), List.getElem?_eq_none (by simp [wipe_length]; omega)]
      · rw [List.getElem?_set_ne hj, List.getElem?_set_ne hj]
        by_cases hm : j ∈ vs
        · have h1 : ∀ (τ : L2.St), τ.length = σ.length → (wipe τ vs)[j]? = if j < σ.length then some none else none := fun τ hl => by
            have := wipe_at (vs := vs) τ hm
            rw [this, hl]
          rw [h1 _ (by simp), h1 _ rfl]
        · rw [wipe_out hm, wipe_out hm, List.getElem?_set_ne hj]
where
  wipe_at {j : Nat} : ∀ {vs : List Nat} (τ : L2.St), j ∈ vs → (wipe τ vs)[j]? = if j < τ.length then some none else none
    | v :: vs, τ, h => by
      unfold wipe
      by_cases e : v = j
      · subst e
        by_cases hl : v < τ.length
        · rw [List.getElem?_set_self (by rw [wipe_length]; exact hl), if_pos hl]
        · rw [List.getElem?_eq_none (by simp [wipe_length]; omega), if_neg hl]
      · rw [List.getElem?_set_ne e]
        rcases List.mem_cons.mp h with h | h
        · exact absurd h.symm e
        · exact wipe_at τ h
theorem wipe_wipe (σ : L2.St) (vs : List Nat) : wipe (wipe σ vs) vs = wipe σ vs := by
  have go : ∀ ws : List Nat, (∀ w ∈ ws, w ∈ vs) → wipe (wipe σ ws) vs = wipe σ vs := by
    intro ws
    induction ws with
    | nil => intro _; rfl
    | cons w ws ih =>
      intro h
      show wipe ((wipe σ ws).set w none) vs = _
      rw [wipe_set _ (h w List.mem_cons_self)]
      exact ih fun v hv => h v (List.mem_cons_of_mem _ hv)
  exact go vs fun _ h => h

section
variable {W : Wd} {M : Md W} {X : Cx} {pos : Pos} {C : CS}
theorem pgI {e : Expr} {t t' : TG} (h : PG X e t) (i : ∀ v σ H Q, t' v σ H Q → t v σ H Q) : PG X e t' := ⟨fun pins s σ H v u Q I r q => h.run pins s σ H v u Q I r (i v σ H Q q)⟩
theorem pgsI {e : List Expr} {t t' : TGs} (h : PGs X e t) (i : ∀ v σ H Q, t' v σ H Q → t v σ H Q) : PGs X e t' := ⟨fun pins s σ H v u Q I r q => h.run pins s σ H v u Q I r (i v σ H Q q)⟩
theorem gN {i : Nat} {x : Str} (hN : X.N.Nodup) (hi : X.N[i]? = some x) (hx : Loc X.env.scope x) (ho : M.ok i) (hC : ∀ σ v, C σ (σ.set i (some v))) (hf : X.fn x = true ∨ X.env.scope.names.lookup x = some .local := by first | exact .inl rfl | exact .inr rfl | assumption) : PG X (.Name x pos) (tgG W M C (dgN i)) :=
  pgI (pg_name hN hi hx hf) fun v σ H Q ⟨io, hp, as, y, rl, S, r, k⟩ => k _ (M.set S r ho) (hC _ _)
theorem gs0 (hC : CSok C) : PGs X [] (tgGs W M C dg0) := pgsI pgs_nil fun v σ H Q ⟨io, hp, as, xs, rl, S, r, k⟩ => by
  cases xs with
  | nil =>
    cases r
    exact ⟨rfl, k σ S (hC.rf σ)⟩
  | cons x t => exact k.elim
theorem gsC {e : Expr} {es : List Expr} {g : DG} {gs : DGs} (hC : CSok C) (h1 : PG X e (tgG W M C g)) (h2 : PGs X es (tgGs W M C gs)) (hs : (assignEach (e :: es) X.env).map (·.2) = assign e X.env :: (assignEach es X.env).map (·.2) := by rfl) : PGs X (e :: es) (tgGs W M C (dgC g gs)) :=
  pgsI (pgs_cons h1 h2 hs) fun v σ H Q ⟨io, hp, as, xs, rl, S, r, k⟩ => by
    cases xs with
    | nil => exact k.elim
    | cons x t =>
      cases r with
      | cons r1 r2 =>
        refine ⟨_, _, rfl, io, hp, as, x, rl, S, r1, ?_⟩
        have k' : match (g x as).bind (fun s1 => gs t s1) with
          | some as' => ∀ σ', M.rel io H as' σ' → C σ σ' → Q σ' H
          | none => False := k
        cases z : g x as with
        | none =>
          rw [z] at k'
          exact k'
        | some as' =>
          rw [z] at k'
          have k2 : match gs t as' with
            | some as' => ∀ σ', M.rel io H as' σ' → C σ σ' → Q σ' H
            | none => False := k'
          intro σ' S' c1
          refine ⟨io, hp, as', t, rl, S', r2, ?_⟩
          cases z2 : gs t as' with
          | none =>
            rw [z2] at k2
            exact k2
          | some as3 =>
            rw [z2] at k2
            exact fun σ3 S3 c3 => k2 σ3 S3 (hC.tr _ _ _ c1 c3)
theorem gT {es : List Expr} {kk : Nat} {gs : DGs} {n : Nat} (hK : X.K = W.K) (hc : X.calm = true) (h : PGs X es (tgGs W M C gs)) (hl : ∀ xs s, gs xs s ≠ none → xs.length = n) (hn : (assignEach es X.env).length = n := by rfl) (hst : (assignEach es X.env).findIdx? (·.1) = none := by rfl) :
    PG X (.Tuple es kk pos) (tgG W M C (dgT gs)) := pgI (pg_tup hc h hn hst) fun v σ H Q ⟨io, hp, as, y, rl, S, r, k⟩ => by
  unfold dgT at k
  cases z : tupOf y with
  | none =>
    rw [z] at k
    exact k.elim
  | some xs =>
    rw [z] at k
    obtain ⟨p, vs, rfl, h1, r1⟩ := tupOf_in z r
    rw [hK]
    refine ⟨p, vs, rfl, h1, ?_, io, hp, as, xs, rl, S, r1, k⟩
    rw [← r1.len]
    refine hl xs as fun q => ?_
    simp only [q] at k
theorem dg0_len : ∀ xs s, dg0 xs s ≠ none → xs.length = 0 := fun xs s h => by
  cases xs with
  | nil => rfl
  | cons x t => exact absurd rfl h
theorem dgC_len {g : DG} {gs : DGs} {n : Nat} (h : ∀ xs s, gs xs s ≠ none → xs.length = n) : ∀ xs s, dgC g gs xs s ≠ none → xs.length = n + 1 := fun xs s k => by
  cases xs with
  | nil => exact absurd rfl k
  | cons x t =>
    have k' : (g x s).bind (fun s1 => gs t s1) ≠ none := k
    cases z : g x s with
    | none =>
      rw [z] at k'
      exact absurd rfl k'
    | some s1 =>
      rw [z] at k'
      have := h t s1 k'
      simp [this]
end

/-! ### for -/
def SR.loop (r : SR) (k : Sl → Hep → SR) : SR := match r with
  | .nx s h => k s h
  | .ct s h => k s h
  | .bk s h => .nx s h
  | r => r
def dLoop (src : Src) (g : DG) (body : DS) : Nat → Nat → Sl → Hep → SR
  | 0, _, _, _ => .stuck
  | k + 1, i, s, h => match src.next i h with
    | none => .stuck
    | some none => .nx s h
    | some (some x) => match g x s with
      | none => .stuck
      | some s1 => (body s1 h).loop fun s2 h2 => dLoop src g body k (i + 1) s2 h2
def dFor (f : DI) (g : DG) (body : DS) : DS := fun s h => (f s h).st s fun src h1 => dLoop src g body (src.len h1 + 1) 0 s h1
section
variable {W : Wd} {M : Md W} {E : WX} {X : Cx} {tg iter : Expr} {body : List Stmt} {f : DI} {g : DG} {fb : DS} {pos : Pos}
theorem sFor (hp : PassesOwn (model X.prog X.w) X.A X.env X.xe) (hc : X.calm = true) (hi : PI X tg iter (tG W M (RSrc W) E f)) (hg : PG X tg (tgG W M anyC g)) (hb : PSs X body (tS W M E fb))
    (hs : ∀ x, foldedSetIterable iter X.env x = pure x := by intro _; rfl) : PS X (.For tg iter body [] pos) (tS W M E (dFor f g fb)) :=
  psI (ps_for hp hc hi hg hb hs) fun D σ H ⟨io, hp, as, rl, S, P⟩ => by
    refine (stepS (rh := RSrc W) (f := f) rl S P).imp fun J H1 ⟨io1, hp1, src, e1, rl1, rs, P1⟩ => ?_
    refine ⟨fun i m σ2 H2 => ∃ io2 hp2 as2, Ext W io1 H1 io2 H2 ∧ Rl W io2 hp2 H2 ∧ M.rel io2 H2 as2 σ2 ∧ Pss W M E D io2 H2 (dLoop src g fb m i as2 hp2), ⟨_, io1, hp1, as, Ext.refl, rl1, M.mono e1 S, P1⟩, ?_⟩
    rintro i m σ2 H2 ⟨io2, hp2, as2, e2, rl2, S2, P2⟩
    obtain ⟨hstop, hgo⟩ := rs io2 H2 hp2 e2 rl2
    cases m with
    | zero => exact P2.elim
    | succ m =>
      unfold dLoop at P2
      cases z : src.next i hp2 with
      | none =>
        rw [z] at P2
        exact P2.elim
      | some o =>
        cases o with
        | none =>
          rw [z] at P2
          exact .inl ⟨hstop i z, P2 io2 H2 σ2 Ext.refl rl2 S2⟩
        | some x =>
          rw [z] at P2
          obtain ⟨go, hy⟩ := hgo i x z
          refine .inr ⟨go, fun σ3 H3 => ∃ io3 hp3 as3, Ext W io1 H1 io3 H3 ∧ Rl W io3 hp3 H3 ∧ M.rel io3 H3 as3 σ3 ∧ Pss W M E D io3 H3 (dLoop src g fb m (i + 1) as3 hp3), fun σ' H' q => ⟨m, Nat.lt_succ_self m, q⟩, fun v H3 hyl => ?_⟩
          obtain ⟨e3, rl3, r3⟩ := hy v H3 hyl
          refine ⟨io2, hp2, as2, x, rl3, M.mono e3 S2, r3, ?_⟩
          have P3 := Pss.later P2 e3
          cases z2 : g x as2 with
          | none =>
            simp only [z2] at P3
            exact P3
          | some as3 =>
            simp only [z2] at P3
            intro σ' S' _
            refine ⟨io2, hp2, as3, rl3, S', ?_⟩
            cases z3 : fb as3 hp2 with
            | nx s h =>
              rw [z3] at P3
              exact fun io' H' σ2 e r S2 => ⟨io', h, s, (e2.trans e3).trans e, r, S2, Pss.later P3 e⟩
            | ct s h =>
              rw [z3] at P3
              exact fun io' H' σ2 e r S2 => ⟨io', h, s, (e2.trans e3).trans e, r, S2, Pss.later P3 e⟩
            | bk s h =>
              rw [z3] at P3
              exact P3
            | rt v h =>
              rw [z3] at P3
              exact P3
            | exc t fs s h =>
              rw [z3] at P3
              exact P3
            | stuck =>
              rw [z3] at P3
              exact P3
end

/-! ### while: n turns at most -/
def dWhl (c : DT) (body : DS) : Nat → DS
  | 0 => fun _ _ => .stuck
  | k + 1 => fun s h => (c s h).st s fun b h1 => match b with
    | false => .nx s h1
    | true => (body s h1).loop fun s2 h2 => dWhl c body k s2 h2
section
variable {W : Wd} {M : Md W} {E : WX} {X : Cx} {c : Expr} {body : List Stmt} {ft : DT} {fb : DS} {pos : Pos}
theorem sWhl (n : Nat) (hp : PassesOwn (model X.prog X.w) X.A X.env X.xe) (hc : PT X c (tDT W M E ft)) (hb : PSs X body (tS W M E fb)) : PS X (.While c body [] pos) (tS W M E (dWhl ft fb n)) :=
  psI (ps_while hp hc hb) fun D σ H ⟨io, hp, as, rl, S, P⟩ => by
    refine ⟨fun m σ2 H2 => ∃ io2 hp2 as2, Rl W io2 hp2 H2 ∧ M.rel io2 H2 as2 σ2 ∧ Pss W M E D io2 H2 (dWhl ft fb m as2 hp2), ⟨n, io, hp, as, rl, S, P⟩, ?_⟩
    rintro m σ2 H2 ⟨io2, hp2, as2, rl2, S2, P2⟩
    cases m with
    | zero => exact P2.elim
    | succ m =>
      refine (stepS (rh := fun _ _ b c => b = c) (f := ft) rl2 S2 P2).imp fun b H3 ⟨io3, hp3, b', e3, rl3, rb, P3⟩ => ?_
      subst rb
      cases b' with
      | false => exact iteF (P3 io3 H3 σ2 Ext.refl rl3 (M.mono e3 S2))
      | true =>
        refine iteT ⟨fun σ4 H4 => ∃ io4 hp4 as4, Rl W io4 hp4 H4 ∧ M.rel io4 H4 as4 σ4 ∧ Pss W M E D io4 H4 (dWhl ft fb m as4 hp4), fun σ' H' q => ⟨m, Nat.lt_succ_self m, q⟩, io3, hp3, as2, rl3, M.mono e3 S2, ?_⟩
        cases z3 : fb as2 hp3 with
        | nx s h =>
          simp only [z3] at P3
          exact fun io' H' σ2 e r S2 => ⟨io', h, s, r, S2, Pss.later P3 e⟩
        | ct s h =>
          simp only [z3] at P3
          exact fun io' H' σ2 e r S2 => ⟨io', h, s, r, S2, Pss.later P3 e⟩
        | bk s h =>
          simp only [z3] at P3
          exact P3
        | rt v h =>
          simp only [z3] at P3
          exact P3
        | exc t fs s h =>
          simp only [z3] at P3
          exact P3
        | stuck =>
          simp only [z3] at P3
          exact P3
end

/-! ### list comprehensions -/
def R.noX {T : Type} : R T → R T
  | .exc _ _ _ => .stuck
  | r => r
def wipeS (s : Sl) : List Nat → Sl
  | [] => s
  | v :: vs => (wipeS s vs).set v none
/-- one more item in the list at D -/
def addAt (D : Nat) (y : AV) (h : Hep) : Option Hep := match h[D]? with
  | some (.lst acc) => if acc.length < SZ then some (h.set D (.lst (acc ++ [y]))) else none
  | _ => none
def dLcL (src : Src) (g : DG) (tt : DT) (te : DE) (D : Nat) (s0 : Sl) : Nat → Nat → Hep → R AV
  | 0, _, _ => .stuck
  | k + 1, i, h => match src.next i h with
    | none => .stuck
    | some none => .ok (.ref D) h
    | some (some x) => match g x s0 with
      | none => .stuck
      | some s1 => (tt s1 h).noX.bind fun b h1 => match b with
        | false => dLcL src g tt te D s0 k (i + 1) h1
        | true => (te s1 h1).noX.bind fun y h2 => match addAt D y h2 with
          | none => .stuck
          | some h3 => dLcL src g tt te D s0 k (i + 1) h3
def dLc (f : DI) (g : DG) (tt : DT) (te : DE) (vs : List Nat) : DE := fun s h => (f s h).bind fun src h1 => dLcL src g tt te h1.length (wipeS s vs) (src.len h1 + 1) 0 (h1 ++ [.lst []])
def dYes : DT := fun _ h => .ok true h
abbrev E0x : WX := fun _ _ _ _ => False
section
variable {W : Wd} {M : Md W} {E : WX} {X : Cx} {pos : Pos}
theorem wipe_rel {io : List Addr} {H : Hp} {as : Sl} {σ : L2.St} (S : M.rel io H as σ) : ∀ {vs : List Nat}, (∀ v ∈ vs, M.ok v) → M.rel io H (wipeS as vs) (wipe σ vs)
  | [], _ => S
  | v :: vs, h => M.wipe (wipe_rel S fun w hw => h w (List.mem_cons_of_mem _ hw)) (h v List.mem_cons_self)
theorem step0 {T U T' U' : Type} {rh : Rel T U} {rh' : Rel T' U'} {σ σ0 : L2.St} {H : Hp} {io : List Addr} {hp : Hep} {as : Sl} {f : Sl → Hep → R T} {k : T → Hep → R T'} {Q : U' → Hp → Prop} (rl : Rl W io hp H) (S : M.rel io H as σ)
    (P : Pst W rh' E σ0 Q io H ((f as hp).noX.bind k)) : tG W M rh E0x f σ H (fun x H1 => ∃ io1 hp1 a, Ext W io H io1 H1 ∧ Rl W io1 hp1 H1 ∧ rh io1 H1 a x ∧ Pst W rh' E σ0 Q io1 H1 (k a hp1)) := by
  refine ⟨io, hp, as, rl, S, ?_⟩
  cases e : f as hp with
  | ok a hp1 =>
    rw [e] at P
    exact fun io' H' x e' r' q => ⟨io', hp1, a, e', r', q, Pst.later P e'⟩
  | exc t fs hp1 =>
    rw [e] at P
    exact P.elim
  | stuck =>
    rw [e] at P
    exact P
theorem lc_in {f : DI} {g : DG} {tt : DT} {te : DE} {vs : List Nat} {σ : L2.St} {H : Hp} {Q : VK} (ok : ∀ v ∈ vs, M.ok v)
    (h : tD W M E (dLc f g tt te vs) σ H Q) : tLc (tG W M (RSrc W) E f) (tgG W M (wipC vs) g) (tDT W M E0x tt) (tD W M E0x te) vs σ H Q := by
  obtain ⟨io, hp, as, rl, S, P⟩ := h
  refine (step (rh := RSrc W) (f := f) rl S P).imp fun J H1 ⟨io1, hp1, src, e1, rl1, rs, P1⟩ => ?_
  intro D hD
  have eD := Ext.new (W := W) io1 (.lst []) hD [D]
  have rlD : Rl W (io1 ++ [D]) (hp1 ++ [.lst []]) (upd H1 D (.lst [])) := rl1.new hD (.lst .nil)
  have wS : M.rel io1 H1 (wipeS as vs) (wipe σ vs) := wipe_rel (M.mono e1 S) ok
  have atD := rl1.atLen D
  refine ⟨fun i m H2 => ∃ io2 hp2, Ext W (io1 ++ [D]) (upd H1 D (.lst [])) io2 H2 ∧ Rl W io2 hp2 H2 ∧ Pst W (RV W) E σ Q io2 H2 (dLcL src g tt te hp1.length (wipeS as vs) m i hp2), ⟨_, _, _, Ext.refl, rlD, Pst.later P1 eD⟩, ?_⟩
  rintro i m H2 ⟨io2, hp2, e2, rl2, P2⟩
  have e12 := eD.trans e2
  obtain ⟨hstop, hgo⟩ := rs io2 H2 hp2 e12 rl2
  cases m with
  | zero => exact P2.elim
  | succ m =>
    unfold dLcL at P2
    cases z : src.next i hp2 with
    | none =>
      rw [z] at P2
      exact P2.elim
    | some o =>
      cases o with
      | none =>
        rw [z] at P2
        exact .inl ⟨hstop i z, P2.ok rl2 (.ref (e2.at atD))⟩
      | some x =>
        rw [z] at P2
        obtain ⟨go, hy⟩ := hgo i x z
        refine .inr ⟨go, fun H3 => ∃ io3 hp3, Ext W (io1 ++ [D]) (upd H1 D (.lst [])) io3 H3 ∧ Rl W io3 hp3 H3 ∧ Pst W (RV W) E σ Q io3 H3 (dLcL src g tt te hp1.length (wipeS as vs) m (i + 1) hp3), fun H' q => ⟨m, Nat.lt_succ_self m, q⟩, fun v H3 hyl => ?_⟩
        obtain ⟨e3, rl3, r3⟩ := hy v H3 hyl
        refine ⟨io2, hp2, wipeS as vs, x, rl3, M.mono e3 (M.mono e12 wS), r3, ?_⟩
        have P3 := Pst.later P2 e3
        cases z2 : g x (wipeS as vs) with
        | none =>
          simp only [z2] at P3
          exact P3
        | some as3 =>
          simp only [z2] at P3
          intro σ' S' hw
          refine ⟨Eq.trans hw (wipe_wipe σ vs), ?_⟩
          have S2' : M.rel io2 H3 as3 σ' := S'
          refine (step0 (rh := fun _ _ b c => b = c) (f := tt) (σ := σ') rl3 S2' P3).imp fun b H4 q4 => ?_
          · obtain ⟨io4, hp4, b', e4, rl4, rb, P4⟩ := q4
            subst rb
            cases b' with
            | false => exact iteF ⟨io4, hp4, (e2.trans e3).trans e4, rl4, P4⟩
            | true =>
              refine iteT ((step0 (rh := RV W) (f := te) (σ := σ') rl4 (M.mono e4 S2') P4).imp fun y H5 ⟨io5, hp5, a, e5, rl5, ra, P5⟩ => ?_)
              unfold addAt at P5
              have atD5 : io5[hp1.length]? = some D := e5.at (e4.at (e3.at (e2.at atD)))
              cases z5 : hp5[hp1.length]? with
              | none =>
                simp only [z5] at P5
                exact P5.elim
              | some o5 =>
                cases o5 with
                | lst acc =>
                  simp only [z5] at P5
                  by_cases hl : acc.length < SZ
                  · simp only [if_pos hl] at P5
                    obtain ⟨avs, ea, rac⟩ := rl5.lst atD5 z5
                    refine ⟨avs, ea, by rw [← rac.len]; exact szT hl, ?_⟩
                    have es : Ext W io5 H5 io5 (upd H5 D (.lst (avs ++ [y]))) := Ext.set _ ea trivial
                    exact ⟨io5, _, (((e2.trans e3).trans e4).trans e5).trans es, rl5.set atD5 ea trivial (.lst ((rac.app (.cons ra .nil)).mono es)), Pst.later P5 es⟩
                  · simp only [if_neg hl] at P5
                    exact P5.elim
                | _ =>
                  simp only [z5] at P5
                  exact P5.elim
theorem lcD {elt tg iter : Expr} {ifs : List Expr} {scope : Scope} {own : List (Str × Nat)} {f : DI} {g : DG} {tt : DT} {te : DE} (hc : X.calm = true) (hN : X.N.Nodup) (hi : PI X tg iter (tG W M (RSrc W) E f)) (ok : BlkOk X.N X.env.scope scope own)
    (hg : ∀ (s : Shared) (H : Hp) (C : Addr) (cl : List (Str × Addr)) (fp : List Addr), PG (X.blk s H scope (compEnvC scope cl C X.env) fp) tg (tgG W M (wipC (own.map (·.2))) g))
    (ht : ∀ (s : Shared) (H : Hp) (C : Addr) (cl : List (Str × Addr)) (fp : List Addr), PTs (X.blk s H scope (compEnvC scope cl C X.env) fp) ifs (tDT W M E0x tt))
    (he : ∀ (s : Shared) (H : Hp) (C : Addr) (cl : List (Str × Addr)) (fp : List Addr), PE (X.blk s H scope (compEnvC scope cl C X.env) fp) elt (tD W M E0x te)) (ho : ∀ v ∈ own.map (·.2), M.ok v) (hs : ∀ x, foldedSetIterable iter X.env x = pure x := by intro _; rfl) :
    PE X (.ListComp elt [⟨tg, iter, ifs, 0⟩] scope pos) (tD W M E (dLc f g tt te (own.map (·.2)))) := peI (pe_lc hc hN hi ok hg ht he hs) fun _ _ _ h => lc_in ho h
theorem sSetLc {i : Nat} {y : Str} {py spos : Pos} {elt tg iter : Expr} {ifs : List Expr} {scope : Scope} {own : List (Str × Nat)} {f : DI} {g : DG} {tt : DT} {te : DE} (hc : X.calm = true) (hN : X.N.Nodup) (hy : X.N[i]? = some y) (hyl : X.env.scope.names.lookup y = some .local)
    (hsw : swapsWith (.ListComp elt [⟨tg, iter, ifs, 0⟩] scope pos) (some (.Name y py)) spos.line X.env = pure true) (hi : PI X tg iter (tG W M (RSrc W) E f)) (ok : BlkOk X.N X.env.scope scope own)
    (hg : ∀ (s : Shared) (H : Hp) (C : Addr) (cl : List (Str × Addr)) (fp : List Addr), PG (X.blk s H scope (compEnvC scope cl C X.env) fp) tg (tgG W M (wipC (own.map (·.2))) g))
    (ht : ∀ (s : Shared) (H : Hp) (C : Addr) (cl : List (Str × Addr)) (fp : List Addr), PTs (X.blk s H scope (compEnvC scope cl C X.env) fp) ifs (tDT W M E0x tt))
    (he : ∀ (s : Shared) (H : Hp) (C : Addr) (cl : List (Str × Addr)) (fp : List Addr), PE (X.blk s H scope (compEnvC scope cl C X.env) fp) elt (tD W M E0x te)) (ho : ∀ v ∈ own.map (·.2), M.ok v) (hoi : M.ok i) (hs : ∀ x, foldedSetIterable iter X.env x = pure x := by intro _; rfl) :
    PS X (.Assign [.Name y py] (.ListComp elt [⟨tg, iter, ifs, 0⟩] scope pos) spos) (tS W M E (dSet i (dLc f g tt te (own.map (·.2))))) := psI (ps_setLc hc hN hy hyl hsw hi ok hg ht he hs) fun D σ H ⟨io, hp, as, rl, S, P⟩ => by
  refine lc_in (M := M) (E := E) ho ?_
  refine (stepS (rh := RV W) (f := dLc f g tt te (own.map (·.2))) rl S P).imp fun x H1 ⟨io2, hp2, a, e2, rl2, ra, P2⟩ => ?_
  exact P2 io2 H1 _ Ext.refl rl2 (M.set (M.mono e2 S) ra hoi)
theorem yesD : PTs X [] (tDT W M E0x dYes) := ⟨fun pins s σ H Q I ⟨io, hp, as, rl, S, P⟩ => pts_nil.run pins s σ H Q I (P.ok rl rfl)⟩
theorem oneT {c : Expr} {ft : DT} (h : PT X c (tDT W M E0x ft)) : PTs X [c] (tDT W M E0x ft) := pts_one h
end

/-! ### the sources -/
def dSrc (f : DE) : DI := fun s h => (f s h).bind fun a h1 => match a with
  | .ref n => (match h1[n]? with
    | some (.lst _) => .ok (.at n) h1
    | _ => .stuck)
  | .tup xs => .ok (.fix xs) h1
  | .rol xs => .ok (.fix xs) h1
  | .str x => .ok (.fix (x.cps.toList.map fun c => .str ⟨#[c]⟩)) h1
  | _ => .stuck
def rngL (lo : Int) (n : Nat) : List AV := (List.range n).map fun i => .int (lo + (i : Nat))
def dRg1 (f : DA) : DI := fun s h => (f s h).bind fun as h1 => match as with
  | [.int j] => if -(2 ^ 62) ≤ j ∧ j < 2 ^ 62 then .ok (.fix (rngL 0 j.toNat)) h1 else .stuck
  | _ => .stuck
def dRg2 (f : DA) : DI := fun s h => (f s h).bind fun as h1 => match as with
  | [.int i, .int j] => if -(2 ^ 62) ≤ i ∧ i < 2 ^ 62 ∧ -(2 ^ 62) ≤ j ∧ j < 2 ^ 62 then .ok (.fix (rngL i (j - i).toNat)) h1 else .stuck
  | _ => .stuck
section
variable {W : Wd} {M : Md W} {E : WX} {X : Cx} {tg : Expr}
theorem piI {e : Expr} {t t' : TI} (h : PI X tg e t) (i : ∀ σ H Q, t' σ H Q → t σ H Q) : PI X tg e t' := ⟨fun pins s σ H R I q => h.run pins s σ H R I (i σ H R q)⟩
theorem src_list {io : List Addr} {H : Hp} {n : Nat} {p : Addr} (hi : io[n]? = some p) : RSrc W io H (.at n) (Itl W.K p) := fun io' H' hp e rl => by
  have hp' := e.at hi
  refine ⟨fun i z => ?_, fun i x z => ?_⟩
  all_goals
    unfold Src.next at z
    dsimp only at z
    cases z1 : hp[n]? with
    | none =>
      rw [z1] at z
      cases z
    | some o =>
      rw [z1] at z
      cases o with
      | lst xs =>
        have z' := Option.some.inj z
        obtain ⟨vs, ev, rv⟩ := rl.lst hp' z1
        first
          | exact ⟨vs, SqL.of ev, by rw [← rv.len]; exact List.getElem?_eq_none_iff.mp z'⟩
          | (obtain ⟨v, e1, r1⟩ := rv.get z'
             refine ⟨⟨vs, v, SqL.of ev, e1⟩, fun w H2 ⟨eH, hw⟩ => ?_⟩
             subst eH
             have := hw vs (SqL.of ev)
             rw [e1] at this
             cases this
             exact ⟨Ext.refl, rl, r1⟩)
      | _ => cases z
theorem src_fixed {io : List Addr} {H : Hp} {xs : List AV} {vs : List V} {J : It} (r : RVs W io H xs vs) (h1 : ∀ i H', (∃ l, Ext W io H l H') → vs.length ≤ i → J.stop i H') (h2 : ∀ i v H', (∃ l, Ext W io H l H') → vs[i]? = some v → J.go i H' ∧ ∀ w H2, J.yld i H' w H2 → H2 = H' ∧ w = v) : RSrc W io H (.fix xs) J := fun io' H' hp e rl => by
  refine ⟨fun i z => ?_, fun i x z => ?_⟩
  · have z' : xs[i]? = none := Option.some.inj z
    exact h1 i H' ⟨_, e⟩ (by rw [← r.len]; exact List.getElem?_eq_none_iff.mp z')
  · have z' : xs[i]? = some x := Option.some.inj z
    obtain ⟨v, e1, r1⟩ := r.get z'
    obtain ⟨g, k⟩ := h2 i v H' ⟨_, e⟩ e1
    refine ⟨g, fun w H2 y => ?_⟩
    obtain ⟨rfl, rfl⟩ := k w H2 y
    exact ⟨Ext.refl, rl, r1.mono e⟩
theorem src_range {io : List Addr} {H : Hp} {lo : Int} {n : Nat} : RSrc W io H (.fix (rngL lo n)) (Itr lo n) := by
  have hv : RVs W io H (rngL lo n) ((List.range n).map fun i => V.int (lo + (i : Nat))) := by
    unfold rngL
    generalize List.range n = l
    induction l with
    | nil => exact .nil
    | cons a r ih => exact .cons (.int _) ih
  refine src_fixed hv (fun i H' _ h => ?_) fun i v H' _ h => ?_
  · rw [List.length_map, List.length_range] at h
    exact h
  · rw [List.getElem?_map] at h
    by_cases hi : i < n
    · rw [List.getElem?_range hi] at h
      cases h
      exact ⟨hi, fun w H2 ⟨a, b⟩ => ⟨a, b⟩⟩
    · rw [List.getElem?_eq_none (by simpa using hi)] at h
      cases h
/-- a list, a tuple, a text: what pyIter does with the value -/
theorem iter_val {pins : List (Addr × Obj)} {σ : L2.St} {H : Hp} {s : Shared} {R : It → Hp → Prop} {x : V} {v : Value} (I : Inv X pins σ H s) (r : RelV x v)
    (h : (∃ a, x = .ref a ∧ (∃ xs, SqL X.K H a xs) ∧ R (Itl X.K a) H) ∨ (∃ a, x = .ref a ∧ (∃ xs, SqT X.K H a xs) ∧ R (Itt X.K a) H) ∨ (∃ z, x = .str z ∧ R (Its z) H)) :
    wpAny (model X.prog X.w) X.A (pyIter v) (PIE X pins σ tg R) X.xe s := by
  have newFp : ∀ b ∈ [s.heap.objs.size], FpOk X pins H b := fun b hb => by
    rw [List.mem_singleton] at hb
    subst hb
    exact I.fpOk (Nat.le_refl _) (I.hok.fresh (Nat.le_refl _))
  rcases h with ⟨a, ex, ⟨xs, hq⟩, q⟩ | ⟨a, ex, ⟨xs, hq⟩, q⟩ | ⟨z, ex, q⟩
  · subst ex
    obtain rfl : v = Value.ref a := r
    obtain ⟨its, _, pl, _⟩ := I.list hq
    exact wpAny_pyIter_list pl.isList ⟨_, _, _, _, H, rfl, I.kept (t' := s.toks) fun b o e => Heap.get?_push_of_some _ e, turn_list a _, ⟨_, Heap.get?_push_size _ rfl, rfl, rfl⟩, newFp, q⟩
  · subst ex
    obtain rfl : v = Value.ref a := r
    obtain ⟨its, _, pt, _⟩ := I.tuple hq
    exact wpAny_pyIter_tuple (items := its.toArray) pt ⟨_, _, _, _, H, rfl, I.kept (t' := s.toks) fun b o e => Heap.get?_push_of_some _ e, turn_tuple a _, ⟨_, Heap.get?_push_size _ rfl, rfl, rfl⟩, newFp, q⟩
  · subst ex
    obtain ⟨t, rfl⟩ := r
    cases hz : z.cps.all (· < 128) with
    | true => exact wpAny_pyIter_ascii hz (pi_one (tk := s.toks) I _ (turn_str _ z t "str_ascii_iterator" (.inl rfl)) ⟨_, Heap.get?_push_size _ rfl, rfl, rfl⟩ q)
    | false => exact wpAny_pyIter_wide hz (pi_one (tk := s.toks) I _ (turn_str _ z t "str_iterator" (.inr rfl)) ⟨_, Heap.get?_push_size _ rfl, rfl, rfl⟩ q)
theorem chars_rv {io : List Addr} {H : Hp} (l : List Nat) : RVs W io H (l.map fun c => .str ⟨#[c]⟩) (l.map fun c => .str ⟨#[c]⟩) := by
  induction l with
  | nil => exact .nil
  | cons a r ih => exact .cons (.str _) ih
/-- for .. in e -/
theorem srcD {e : Expr} {f : DE} (hK : X.K = W.K) (he : PE X e (tD W M E f)) : PI X tg e (tG W M (RSrc W) E (dSrc f)) := by
  refine ⟨fun pins s σ H R I ⟨io, hp, as, rl, S, P⟩ => ?_⟩
  refine thn (he.run pins s σ H _ I (step (rh := RV W) (f := f) rl S P)) fun v s1 ⟨x, H1, I1, r1, io2, hp2, a, e2, rl2, ra, P2⟩ => ?_
  refine iter_val I1 r1 ?_
  rw [hK]
  cases a with
  | ref n =>
    cases ra with
    | @ref _ p hi =>
      have P3 : Pst W (RSrc W) E σ R io2 H1 (match hp2[n]? with
        | some (.lst _) => .ok (.at n) hp2
        | _ => .stuck) := P2
      cases z : hp2[n]? with
      | none =>
        rw [z] at P3
        exact P3.elim
      | some o =>
        rw [z] at P3
        cases o with
        | lst xs =>
          obtain ⟨vs, ev, _⟩ := rl2.lst hi z
          exact .inl ⟨p, rfl, ⟨vs, SqL.of ev⟩, Pst.ok P3 rl2 (src_list hi)⟩
        | _ => exact P3.elim
  | tup xs =>
    obtain ⟨p, vs, ex, h1, rtu⟩ := tupOf_in (xs := xs) rfl ra
    subst ex
    refine .inr (.inl ⟨p, rfl, ⟨vs, h1⟩, Pst.ok P2 rl2 (src_fixed rtu (fun i H' ⟨l, e⟩ h => ⟨vs, e.tup _ _ h1, h⟩) fun i w H' ⟨l, e⟩ h => ⟨⟨vs, w, e.tup _ _ h1, h⟩, fun w' H2 ⟨eH, hw⟩ => ⟨eH, ?_⟩⟩)⟩)
    have := hw vs (e.tup _ _ h1)
    rw [h] at this
    exact (Option.some.inj this).symm
  | rol xs =>
    cases ra with
    | rol hro rro =>
      refine .inl ⟨_, rfl, ⟨_, roL_sq hro⟩, Pst.ok P2 rl2 (src_fixed rro (fun i H' ⟨l, e⟩ h => ⟨_, roL_sq (e.rol _ _ hro), h⟩) fun i w H' ⟨l, e⟩ h => ⟨⟨_, w, roL_sq (e.rol _ _ hro), h⟩, fun w' H2 ⟨eH, hw⟩ => ⟨eH, ?_⟩⟩)⟩
      have := hw _ (roL_sq (e.rol _ _ hro))
      rw [h] at this
      exact (Option.some.inj this).symm
  | str z =>
    obtain rfl := ra.str_inv
    refine .inr (.inr ⟨z, rfl, Pst.ok P2 rl2 (src_fixed (chars_rv z.cps.toList) (fun i H' _ h => ?_) fun i w H' _ h => ?_)⟩)
    · rw [List.length_map, Array.length_toList] at h
      exact h
    · rw [List.getElem?_map, Array.getElem?_toList] at h
      obtain ⟨c, hc, rfl⟩ := Option.map_eq_some_iff.mp h
      obtain ⟨hl, _⟩ := Array.getElem?_eq_some_iff.mp hc
      refine ⟨hl, fun w' H2 ⟨eH, c', hc', ew⟩ => ⟨eH, ?_⟩⟩
      rw [hc] at hc'
      cases hc'
      exact ew
  | _ => exact P2.elim
theorem rg1D {a : Expr} {fa : DA} {p pos : Pos} (hg : Gl X "range") (hm : X.mg "range" = none) (ha : PA X [a] (tDA W M E fa)) (hs : starEach [a] X.env = [(false, eval a X.env)] := by rfl) : PI X tg (.Call (.Name "range" p) [a] [] pos) (tG W M (RSrc W) E (dRg1 fa)) :=
  piI (pi_range1 hg hm ha hs) fun σ H Q ⟨io, hp, as, rl, S, P⟩ => (step (rh := RVs W) (f := fa) rl S P).imp fun xs H1 ⟨io2, hp2, bs, e2, rl2, ra, P2⟩ => by
    match bs, ra, P2 with
    | [.int j], .cons (.int _) .nil, P2 =>
      have P3 : Pst W (RSrc W) E σ Q io2 H1 (if -(2 ^ 62) ≤ j ∧ j < 2 ^ 62 then .ok (.fix (rngL 0 j.toNat)) hp2 else .stuck) := P2
      by_cases h : -(2 ^ 62) ≤ j ∧ j < 2 ^ 62
      · rw [if_pos h] at P3
        exact ⟨j, rfl, h.1, h.2, Pst.ok P3 rl2 src_range⟩
      · rw [if_neg h] at P3
        exact P3.elim
theorem rg2D {a b : Expr} {fa : DA} {p pos : Pos} (hg : Gl X "range") (hm : X.mg "range" = none) (ha : PA X [a, b] (tDA W M E fa)) (hs : starEach [a, b] X.env = [(false, eval a X.env), (false, eval b X.env)] := by rfl) (hs2 : starEach [b] X.env = [(false, eval b X.env)] := by rfl) :
    PI X tg (.Call (.Name "range" p) [a, b] [] pos) (tG W M (RSrc W) E (dRg2 fa)) :=
  piI (pi_range2 hg hm ha hs hs2) fun σ H Q ⟨io, hp, as, rl, S, P⟩ => (step (rh := RVs W) (f := fa) rl S P).imp fun xs H1 ⟨io2, hp2, bs, e2, rl2, ra, P2⟩ => by
    match bs, ra, P2 with
    | [.int i, .int j], .cons (.int _) (.cons (.int _) .nil), P2 =>
      have P3 : Pst W (RSrc W) E σ Q io2 H1 (if -(2 ^ 62) ≤ i ∧ i < 2 ^ 62 ∧ -(2 ^ 62) ≤ j ∧ j < 2 ^ 62 then .ok (.fix (rngL i (j - i).toNat)) hp2 else .stuck) := P2
      by_cases h : -(2 ^ 62) ≤ i ∧ i < 2 ^ 62 ∧ -(2 ^ 62) ≤ j ∧ j < 2 ^ 62
      · rw [if_pos h] at P3
        exact ⟨i, j, rfl, h, Pst.ok P3 rl2 src_range⟩
      · rw [if_neg h] at P3
        exact P3.elim
end
end Dn
namespace Dn
open PySem PySem.Spec PyProof.Rows L2

/-! ### defs -/
abbrev DF := List AV → Hep → R AV
def Pfn (W : Wd) (E : XK) (Q : VK) (io : List Addr) (H : Hp) : R AV → Prop
  | .ok v hp => ∀ io' H' x, Ext W io H io' H' → Rl W io' hp H' → RV W io' H' v x → Q x H'
  | .exc t fs hp => ∀ io' H' cls d, Ext W io H io' H' → Rl W io' hp H' → RX W io' H' t fs cls d → E cls d H'
  | .stuck => False
def spD (W : Wd) (n : Nat) (f : DF) : Sp := fun vs H Q E => ∃ io hp as, as.length = n ∧ Rl W io hp H ∧ RVs W io H as vs ∧ Pfn W E Q io H (f as hp)
def SR.fin : SR → R AV
  | .nx _ h => .ok .non h
  | .rt v h => .ok v h
  | .exc t fs _ h => .exc t fs h
  | _ => .stuck
/-- the slots at the entry -/
def dStart (N : Nat) (as : List AV) : Sl := as.map some ++ List.replicate (N - as.length) none
def dFun (N : Nat) (b : DS) : DF := fun as h => (b (dStart N as) h).fin
theorem Pfn.later {W : Wd} {E : XK} {Q : VK} {io io1 : List Addr} {H H1 : Hp} {r : R AV} (h : Pfn W E Q io H r) (e : Ext W io H io1 H1) : Pfn W E Q io1 H1 r := by
  cases r with
  | ok v hp => exact fun io' H' x e' => h io' H' x (e.trans e')
  | exc t fs hp => exact fun io' H' c d e' => h io' H' c d (e.trans e')
  | stuck => exact h
theorem RVs.at_inv {W : Wd} {io : List Addr} {H : Hp} : ∀ {xs : List AV} {vs : List V}, RVs W io H xs vs → ∀ {i : Nat} {x : AV}, xs[i]? = some x → ∃ v, vs[i]? = some v ∧ RV W io H x v := fun h => fun e => h.get e
theorem start_rel {W : Wd} {io : List Addr} {H : Hp} {as : List AV} {vs : List V} {N : List Str} {n : Nat} (r : RVs W io H as vs) (hN : N.length = n) : (std W).rel io H (dStart n as) (L2.start N vs) := by
  subst hN
  refine ⟨?_, fun i v a => ?_⟩
  · unfold dStart L2.start
    simp [r.len]
  · unfold dStart at a
    have hi : i < as.length := by
      by_cases hi : i < as.length
      · exact hi
      · rw [List.getElem?_append_right (by simpa using hi), List.getElem?_replicate] at a
        split at a <;> cases a
    rw [List.getElem?_append_left (by simpa using hi), List.getElem?_map] at a
    cases e : as[i]? with
    | none =>
      rw [e] at a
      cases a
    | some y =>
      rw [e] at a
      cases a
      obtain ⟨x, e2, rx⟩ := r.get e
      refine ⟨x, ?_, rx⟩
      unfold L2.start
      rw [List.getElem?_append_left (by simpa [← r.len] using hi), List.getElem?_map, e2]
      rfl

section
variable {P : Program} {w : World} {mg : Str → Option Value} {base : Heap} {W : Wd} {x qual : Str} {params : Arguments} {body : List Stmt} {scope : Scope} {dvs : List V} {kws : List (Str × V)} {f : Addr} {fd : FuncData}
/-- the context of a def's body -/
abbrev cxD (W : Wd) (P : Program) (w : World) (mg : Str → Option Value) (base : Heap) (N : List Str) (qual : Str) (scope : Scope) (f : Addr) (cdv : Value) (A : Around) (outer : List Env) (s : Shared) (H : Hp) (E : XK) : Cx :=
  cxOf (L2.CX P w) P w W.K mg base N qual scope f cdv A outer s H E
/-- what a def's body may let out -/
abbrev wxE (E : XK) : WX := fun cls d _ H => E cls d H
/-- THE RULE: a def keeps its promise if its body is read as b -/
theorem fnD {N ps : List Str} {k n : Nat} {b : DS} (F : FunD W.K x qual params body scope dvs kws f fd) (S : FnScope N ps scope) (hn : ps.length = n)
    (hb : ∀ (cdv : Value) (A : Around) (outer : List Env) (s : Shared) (H : Hp) (E : XK), Room k (A.deeper (envOfC qual scope s.heap.objs.size f cdv)) → Takes (cxD W P w mg base N qual scope f cdv A outer s H E) (wxE E) →
      PSs (cxD W P w mg base N qual scope f cdv A outer s H E) body (tS W (std W) (wxE E) b)) : FnOk P w W.K mg base (L2.CX P w) (k + 1) f fd ps (spD W n (dFun N.length b)) := by
  refine F.ok S (fun vs H Q E h => ?_) fun cdv A outer s H vs Q E hr h => ⟨_, hb cdv A outer s H E hr (takes_of rfl rfl rfl rfl), ?_⟩
  · obtain ⟨io, hp, as, hl, _, r, _⟩ := h
    rw [← r.len, hl, hn]
  · obtain ⟨io, hp, as, hl, rl, r, P⟩ := h
    refine ⟨io, hp, dStart N.length as, rl, start_rel r rfl, ?_⟩
    unfold dFun at P
    cases e : b (dStart N.length as) hp with
    | nx s h =>
      rw [e] at P
      exact fun io' H' σ' e' rl' _ => P io' H' .non e' rl' .non
    | rt s h =>
      rw [e] at P
      exact P
    | bk s h =>
      rw [e] at P
      exact P.elim
    | ct s h =>
      rw [e] at P
      exact P.elim
    | exc t fs s h =>
      rw [e] at P
      exact fun io' H' σ' cls d e' rl' _ rx => P io' H' cls d e' rl' rx
    | stuck =>
      rw [e] at P
      exact P
end

/-! ### how arguments are bound: the positional ones, the defaults, the keywords', by their places in one row -/
def sel {α : Type} (ix : List Nat) (xs : List α) : List α := ix.filterMap (xs[·]?)
theorem sel_vals {vs : List V} {us : List Value} (h : Vals vs us) : ∀ ix : List Nat, Vals (sel ix vs) (sel ix us)
  | [] => .nil
  | i :: ix => by
    show Vals ((i :: ix).filterMap _) ((i :: ix).filterMap _)
    rw [List.filterMap_cons, List.filterMap_cons]
    cases e : vs[i]? with
    | none =>
      have : us[i]? = none := by
        rw [List.getElem?_eq_none_iff] at e ⊢
        rw [← h.length]
        exact e
      rw [this]
      exact sel_vals h ix
    | some v =>
      obtain ⟨u, e2, r⟩ := h.get e
      rw [e2]
      exact .cons r (sel_vals h ix)
theorem sel_rel {W : Wd} {io : List Addr} {H : Hp} {as : List AV} {vs : List V} (h : RVs W io H as vs) : ∀ ix : List Nat, RVs W io H (sel ix as) (sel ix vs)
  | [] => .nil
  | i :: ix => by
    show RVs W io H ((i :: ix).filterMap _) ((i :: ix).filterMap _)
    rw [List.filterMap_cons, List.filterMap_cons]
    cases e : as[i]? with
    | none =>
      have : vs[i]? = none := by
        rw [List.getElem?_eq_none_iff] at e ⊢
        rw [← h.len]
        exact e
      rw [this]
      exact sel_rel h ix
    | some v =>
      obtain ⟨u, e2, r⟩ := h.get e
      rw [e2]
      exact .cons r (sel_rel h ix)
/-- n positional values, keywords ks: the bound ones are those at ix of: positional ++ dfl ++ keywords' -/
def BnD (W : Wd) (fd : FuncData) (ps : List Str) (n : Nat) (ks : List Str) (ix : List Nat) (dfl : List AV) : Prop :=
  ∃ (g : List Value → List Value → List Value) (gV : List V → List V → List V), KBn W.K fd ps n ks g gV ∧
    ∀ io H as bs vs zs, RVs W io H as vs → RVs W io H bs zs → RVs W io H (sel ix (as ++ dfl ++ bs)) (gV vs zs)
/-- defaults are the same in every heap -/
def RW0s (W : Wd) (as : List AV) (vs : List V) : Prop := ∀ io H, RVs W io H as vs
section
variable {W : Wd} {x qual : Str} {params : Arguments} {body : List Stmt} {scope : Scope} {dvs : List V} {kws : List (Str × V)} {f : Addr} {fd : FuncData} {ps : List Str}
/-- no default is taken, the def has none -/
theorem bnN (F : FunD W.K x qual params body scope [] kws f fd) (n : Nat) (ks : List Str) (ix : List Nat)
    (h : ∀ (kV doc pm : Value) (an : Option Addr) (cdv ct : Value) (us ws : List Value), us.length = n → ws.length = ks.length → bindArgs (PySem.W.fnOf x qual params body scope .none kV doc pm an cdv ct) ⟨us, ks.zip ws⟩ = pure (ps.zip (sel ix (us ++ ws)))) : BnD W fd ps n ks ix [] := by
  obtain ⟨oc, od, dV, kV, doc, pm, an, cdv, ct, osl, rfl, lk, hcd, hD, hK⟩ := F.ex
  rcases hD with ⟨_, rfl⟩ | ⟨e, _⟩
  · refine ⟨fun us ws => sel ix (us ++ ws), fun vs zs => sel ix (vs ++ zs), ⟨fun s us ws X l1 l2 => .of_eq (h kV doc pm an cdv ct us ws l1 l2), fun r1 r2 => sel_vals (r1.append r2) ix⟩, fun io H as bs vs zs r1 r2 => ?_⟩
    rw [List.append_nil]
    exact sel_rel (r1.app r2) ix
  · exact absurd rfl e
/-- the def has defaults: its :: us :: keywords -/
theorem bnP (F : FunD W.K x qual params body scope dvs kws f fd) (n : Nat) (ks : List Str) (ix : List Nat) (hd : dvs ≠ []) {dfl : List AV} (hf : RW0s W dfl dvs)
    (h : ∀ (T : Addr) (kV doc pm : Value) (an : Option Addr) (cdv ct : Value) (us its ws : List Value), us.length = n → its.length = dvs.length → ws.length = ks.length →
      ∃ k, bindArgs (PySem.W.fnOf x qual params body scope (.ref T) kV doc pm an cdv ct) ⟨us, ks.zip ws⟩ = seqItems? (.ref T) >>= k ∧ k (some its.toArray) = pure (ps.zip (sel ix (us ++ its ++ ws)))) : BnD W fd ps n ks ix dfl := by
  obtain ⟨oc, od, dV, kV, doc, pm, an, cdv, ct, osl, rfl, lk, hcd, hD, hK⟩ := F.ex
  rcases hD with ⟨e, _⟩ | ⟨_, T, o, its, m, rfl, lT, oT, rT⟩
  · exact absurd e hd
  · refine ⟨fun us ws => sel ix (us ++ its ++ ws), fun vs zs => sel ix (vs ++ dvs ++ zs), ⟨fun s us ws X l1 l2 => ?_, fun r1 r2 => sel_vals ((r1.append rT).append r2) ix⟩, fun io H as bs vs zs r1 r2 => sel_rel ((r1.app (hf io H)).app r2) ix⟩
    obtain ⟨k, e1, e2⟩ := h T kV doc pm an cdv ct us its ws l1 rT.length.symm l2
    refine BindsTo.of_looks fun M => ?_
    rw [e1]
    exact looks_items X lT oT (.of_pure e2)
/-- keyword-only parameters lack, no positional default -/
theorem bnK (F : FunD W.K x qual params body scope [] kws f fd) (n : Nat) (ks : List Str) (ms : List (Str × V)) (ix : List Nat) (hk : kws ≠ []) (hms : ∀ q ∈ ms, q ∈ kws) {dfl : List AV} (hf : RW0s W dfl (ms.map (·.2)))
    (h : ∀ (D : Addr) (doc pm : Value) (an : Option Addr) (cdv ct : Value) (us mv ws : List Value), us.length = n → mv.length = ms.length → ws.length = ks.length →
      KwChain D ((ms.map (·.1)).zip mv) (bindArgs (PySem.W.fnOf x qual params body scope .none (.ref D) doc pm an cdv ct) ⟨us, ks.zip ws⟩) (ps.zip (sel ix (us ++ mv ++ ws)))) : BnD W fd ps n ks ix dfl := by
  obtain ⟨mv, hb⟩ := FunD.kbinds0 F n ks ms (fun us mv ws => sel ix (us ++ mv ++ ws)) hk hms (fun r1 r2 r3 => sel_vals ((r1.append r2).append r3) ix) h
  exact ⟨_, _, hb, fun io H as bs vs zs r1 r2 => sel_rel ((r1.app (hf io H)).app r2) ix⟩
end

/-! ### calls -/
section
variable {W : Wd} {M : Md W} {E : WX} {X : Cx} {k j n m : Nat} {f : Addr} {fd : FuncData} {ps ks : List Str} {F : DF} {x : Str} {p pos apos kpos : Pos} {e o : Expr} {es : List Expr} {kws : List Keyword} {fa fk : DA} {fe : DE} {ix : List Nat} {dfl : List AV}
/-- f(a, .., k = v, ..): the positional values, then the keywords' -/
def dCall (F : DF) (n m : Nat) (ix : List Nat) (dfl : List AV) (fa fk : DA) : DE := fun s h => (fa s h).bind fun a h1 => (fk s h1).bind fun b h2 => if a.length = n ∧ b.length = m then F (sel ix (a ++ dfl ++ b)) h2 else .stuck
theorem run_gen {pins : List (Addr × Obj)} {σ : L2.St} {H : Hp} {s : Shared} {Q : VK} {us ws : List Value} {vs zs : List V} {sp : Sp} {g : List Value → List Value → List Value} {gV : List V → List V → List V}
    (hF : FnOk X.prog X.w X.K X.mg X.base (L2.CX X.prog X.w) j f fd ps sp) (hr : Room j X.A) (hb : KBn X.K fd ps n ks g gV) (tk : Takes X E)
    (I : Inv X pins σ H s) (r : Vals vs us) (rz : Vals zs ws) (l1 : vs.length = n) (l2 : zs.length = ks.length) (h : sp (gV vs zs) H Q (WE E σ)) : wpAny (model X.prog X.w) X.A (call (.ref f) us (ks.zip ws)) (EP X pins σ Q) X.xe s := by
  have r2 := hb.rel r rz
  refine wpAny_call (codeAny_mono (hF.run X.A X.stack s H ⟨us, ks.zip ws⟩ (g us ws) (gV vs zs) Q (WE E σ) hr I.env0 (hb.to s us ws I.kIn (r.length.symm.trans l1) (rz.length.symm.trans l2)) r2 h) fun r s' hq => ?_)
  cases r with
  | error e => exact passAt tk σ pins H s e s' I hq
  | ok fl =>
    cases fl with
    | ret u => exact I.after hq
    | next => exact False.elim hq
    | brk => exact False.elim hq
    | cont => exact False.elim hq
theorem Pst.fn {σ : L2.St} {Q : VK} {io : List Addr} {H : Hp} {r : R AV} (h : Pst W (RV W) E σ Q io H r) : Pfn W (WE E σ) Q io H r := by
  cases r with
  | ok v hp => exact h
  | exc t fs hp => exact h
  | stuck => exact h
/-- behind the arguments -/
theorem call_at {σ : L2.St} {io : List Addr} {hp : Hep} {H : Hp} {Q : VK} {a b : List AV} {vs zs : List V} {gV : List V → List V → List V} (rl : Rl W io hp H) (ra : RVs W io H a vs) (rb : RVs W io H b zs)
    (hg : ∀ io H as bs vs zs, RVs W io H as vs → RVs W io H bs zs → RVs W io H (sel ix (as ++ dfl ++ bs)) (gV vs zs)) (hl : (sel ix (a ++ dfl ++ b)).length = j)
    (P : Pst W (RV W) E σ Q io H (F (sel ix (a ++ dfl ++ b)) hp)) : spD W j F (gV vs zs) H Q (WE E σ) :=
  ⟨io, hp, _, hl, rl, hg _ _ _ _ _ _ ra rb, P.fn⟩
/-- dCall, and the places are as many as the parameters -/
def dCallC (F : DF) (n m q : Nat) (ix : List Nat) (dfl : List AV) (fa fk : DA) : DE := fun s h => (fa s h).bind fun a h1 => (fk s h1).bind fun b h2 => if a.length = n ∧ b.length = m ∧ (sel ix (a ++ dfl ++ b)).length = q then F (sel ix (a ++ dfl ++ b)) h2 else .stuck
theorem args_in {σ : L2.St} {H : Hp} {Q : VK} (h : tD W M E (dCallC F n m j ix dfl fa fk) σ H Q) :
    tDA W M E fa σ H fun vs H1 => tDA W M E fk σ H1 fun zs H2 => vs.length = n ∧ zs.length = m ∧ ∀ gV : List V → List V → List V, (∀ io H as bs vs zs, RVs W io H as vs → RVs W io H bs zs → RVs W io H (sel ix (as ++ dfl ++ bs)) (gV vs zs)) → spD W j F (gV vs zs) H2 Q (WE E σ) := by
  obtain ⟨io, hp, as, rl, S, P⟩ := h
  refine (step (rh := RVs W) (f := fa) rl S P).imp fun vs H1 ⟨io2, hp2, a, e2, rl2, ra, P2⟩ => ?_
  refine (step (rh := RVs W) (f := fk) rl2 (M.mono e2 S) P2).imp fun zs H4 ⟨io5, hp5, b, e5, rl5, rb, P5⟩ => ?_
  by_cases hc : a.length = n ∧ b.length = m ∧ (sel ix (a ++ dfl ++ b)).length = j
  · rw [if_pos hc] at P5
    have ra' := ra.mono e5
    exact ⟨ra'.len.symm.trans hc.1, rb.len.symm.trans hc.2.1, fun gV hg => call_at rl5 ra' rb hg hc.2.2 P5⟩
  · rw [if_neg hc] at P5
    exact P5.elim
theorem callD (hF : FnOk X.prog X.w X.K X.mg X.base (L2.CX X.prog X.w) j f fd ps (spD W n F)) (hr : Room k X.A) (hj : j ≤ k) (hm : X.mg x = some (.ref f)) (hkp : PySem.W.keepIn X.K (.ref f) = true) (hK : X.K = W.K) (hb : BnD W fd ps m ks ix dfl) (tk : Takes X E)
    (ha : PA X (e :: es) (tDA W M E fa)) (hkw : PK X kws (tDA W M E fk)) (hg : Gl X x := by rfl) (hall : (backToKw pos (keywordEach kws X.env)).all (·.1.isSome) = true := by rfl) (hks : (backToKw pos (keywordEach kws X.env)).filterMap (·.1) = ks := by rfl)
    (hdb : (x == ("__debug__" : Str)) = false := by decide) (he : starEach (e :: es) X.env = (false, eval e X.env) :: starEach es X.env := by rfl)
    (hpl : ((backTo pos (starEach (e :: es) X.env)).any (·.1) || (backToKw pos (keywordEach kws X.env)).any (·.1.isNone)) = false := by rfl) :
    PE X (.Call (.Name x p) (e :: es) kws pos) (tD W M E (dCallC F m ks.length n ix dfl fa fk)) := by
  obtain ⟨g, gV, kb, hg2⟩ := hb
  rw [← hK] at kb
  refine ⟨fun pins s σ H Q I h => ?_⟩
  refine wpAny_Call_Name_kw (ld_glob I hg hm ?_ hdb)
  refine PySem.W.callWith_KW (h₀ := X.base) I.ok.mod.kin hkp hall (thn (ha.run pos pins s σ H _ I (args_in h)) fun us s1 ⟨vs, H1, I1, r, q⟩ => ?_) hpl he
  refine thn (hkw.run pos pins s1 σ H1 _ I1 q) fun ws s2 ⟨zs, H2, I2, rz, l1, l2, q2⟩ => ⟨I2.kIn, ?_⟩
  rw [hks]
  exact run_gen hF (hr.mono hj) kb tk I2 r rz l1 l2 (q2 gV hg2)
theorem callD0 (hF : FnOk X.prog X.w X.K X.mg X.base (L2.CX X.prog X.w) j f fd ps (spD W n F)) (hr : Room k X.A) (hj : j ≤ k) (hm : X.mg x = some (.ref f)) (hkp : PySem.W.keepIn X.K (.ref f) = true) (hK : X.K = W.K) (hb : BnD W fd ps 0 ks ix dfl) (tk : Takes X E)
    (hkw : PK X kws (tDA W M E fk)) (hg : Gl X x := by rfl) (hall : (backToKw pos (keywordEach kws X.env)).all (·.1.isSome) = true := by rfl) (hks : (backToKw pos (keywordEach kws X.env)).filterMap (·.1) = ks := by rfl)
    (hdb : (x == ("__debug__" : Str)) = false := by decide)
    (hpl : ((backTo pos (starEach [] X.env)).any (·.1) || (backToKw pos (keywordEach kws X.env)).any (·.1.isNone)) = false := by rfl) :
    PE X (.Call (.Name x p) [] kws pos) (tD W M E (dCallC F 0 ks.length n ix dfl dNil fk)) := by
  obtain ⟨g, gV, kb, hg2⟩ := hb
  rw [← hK] at kb
  refine ⟨fun pins s σ H Q I h => ?_⟩
  refine wpAny_Call_Name_kw (ld_glob I hg hm ?_ hdb)
  refine PySem.W.callWith_KW0 (h₀ := X.base) I.ok.mod.kin hkp hall ?_ hpl
  have h0 := nil_in (args_in h)
  refine thn (hkw.run pos pins s σ H _ I h0) fun ws s2 ⟨zs, H2, I2, rz, l1, l2, q2⟩ => ⟨I2.kIn, ?_⟩
  rw [hks]
  exact run_gen hF (hr.mono hj) kb tk I2 .nil rz l1 l2 (q2 gV hg2)
/-- keywords' values -/
theorem kNil : PK X [] (tDA W M E dNil) := ⟨fun pos pins s σ H Q I h => pk_nil.run pos pins s σ H Q I (nil_in h)⟩
theorem kCons {nm : Option Str} {f : DE} (ha : PE X e (tD W M E f)) (hr : PK X kws (tDA W M E fa)) : PK X (⟨nm, e, kpos⟩ :: kws) (tDA W M E (dCons f fa)) := ⟨fun pos pins s σ H Q I h => (pk_cons ha hr).run pos pins s σ H Q I (cons_in h)⟩

/-! ### a new instance -/
def dMake (t : Nat) (F : DF) (n m q : Nat) (ix : List Nat) (dfl : List AV) (fa fk : DA) : DE := fun s h => (fa s h).bind fun a h1 => (fk s h1).bind fun b h2 =>
  if a.length = n ∧ b.length = m ∧ (sel ix (.ref h2.length :: a ++ dfl ++ b)).length = q then
    (F (sel ix (.ref h2.length :: a ++ dfl ++ b)) (h2 ++ [.ins t []])).bind fun v h3 => match v with
      | .non => .ok (.ref h2.length) h3
      | _ => .stuck
  else .stuck
theorem mkargs_in {t : Nat} {C : Addr} (hC : W.cl t = C) {σ : L2.St} {H : Hp} {Q : VK} (h : tD W M E (dMake t F n m j ix dfl fa fk) σ H Q) :
    tDA W M E fa σ H fun vs H1 => tDA W M E fk σ H1 fun zs H2 => vs.length = n ∧ zs.length = m ∧ ∀ gV : List V → List V → List V, (∀ io H as bs vs zs, RVs W io H as vs → RVs W io H bs zs → RVs W io H (sel ix (as ++ dfl ++ bs)) (gV vs zs)) →
      ∀ x dx, H2 x = none → H2 dx = none → dx ≠ x → spD W j F (gV (.ref x :: vs) zs) (upd (upd H2 dx (.own x)) x (.ins C dx [])) (fun v H3 => v = .non ∧ Q (.ref x) H3) (WE E σ) := by
  subst hC
  obtain ⟨io, hp, as, rl, S, P⟩ := h
  refine (step (rh := RVs W) (f := fa) rl S P).imp fun vs H1 ⟨io2, hp2, a, e2, rl2, ra, P2⟩ => ?_
  refine (step (rh := RVs W) (f := fk) rl2 (M.mono e2 S) P2).imp fun zs H4 ⟨io5, hp5, b, e5, rl5, rb, P5⟩ => ?_
  by_cases hc : a.length = n ∧ b.length = m ∧ (sel ix (.ref hp5.length :: a ++ dfl ++ b)).length = j
  · rw [if_pos hc] at P5
    have ra' := ra.mono e5
    refine ⟨ra'.len.symm.trans hc.1, rb.len.symm.trans hc.2.1, fun gV hg x dx hx hdx hne => ?_⟩
    have rlA : Rl W io5 hp5 (upd H4 dx (.own x)) := rl5.other hdx
    have eA : Ext W io5 H4 io5 (upd H4 dx (.own x)) := Ext.new0 hdx
    have hx' : upd H4 dx (.own x) x = none := by
      rw [upd_ne (Ne.symm hne)]
      exact hx
    have eB : Ext W io5 (upd H4 dx (.own x)) (io5 ++ [x]) (upd (upd H4 dx (.own x)) x (.ins (W.cl t) dx [])) := Ext.new io5 _ hx' [x]
    have rlB : Rl W (io5 ++ [x]) (hp5 ++ [.ins t []]) (upd (upd H4 dx (.own x)) x (.ins (W.cl t) dx [])) := rlA.new hx' (.ins .nil)
    have eC := eA.trans eB
    refine ⟨io5 ++ [x], hp5 ++ [.ins t []], sel ix (.ref hp5.length :: a ++ dfl ++ b), hc.2.2, rlB, ?_, ?_⟩
    · refine hg _ _ (.ref hp5.length :: a) b (.ref x :: vs) zs (.cons (.ref ?_) (ra'.mono eC)) (rb.mono eC)
      rw [← rl5.len]
      simp
    · have P6 := Pst.later P5 eC
      cases z : F (sel ix (.ref hp5.length :: a ++ dfl ++ b)) (hp5 ++ [.ins t []]) with
      | ok v h3 =>
        rw [z] at P6
        cases v with
        | non =>
          intro io' H' y e' rl' ry
          refine ⟨ry.non_inv, P6 io' H' (.ref x) e' rl' (.ref (e'.at ?_))⟩
          rw [← rl5.len]
          simp
        | _ => exact P6.elim
      | exc t' fs h3 =>
        rw [z] at P6
        exact P6
      | stuck =>
        rw [z] at P6
        exact P6
  · rw [if_neg hc] at P5
    exact P5.elim
theorem run_mk {C : Addr} {pins : List (Addr × Obj)} {σ : L2.St} {H : Hp} {s : Shared} {Q : VK} {us ws : List Value} {vs zs : List V} {sp : Sp} {g : List Value → List Value → List Value} {gV : List V → List V → List V} (N : Mk X.K C f) (hF : FnOk X.prog X.w X.K X.mg X.base (L2.CX X.prog X.w) j f fd ps sp) (hr : Room (j + 1) X.A) (hb : KBn X.K fd ps (n + 1) ks g gV) (tk : Takes X E)
    (I : Inv X pins σ H s) (r : Vals vs us) (rz : Vals zs ws) (l1 : vs.length = n) (l2 : zs.length = ks.length)
    (h : ∀ x dx, H x = none → H dx = none → dx ≠ x → sp (gV (.ref x :: vs) zs) (upd (upd H dx (.own x)) x (.ins C dx [])) (fun v H2 => v = .non ∧ Q (.ref x) H2) (WE E σ)) :
    wpAny (model X.prog X.w) X.A (call (.ref C) us (ks.zip ws)) (EP X pins σ Q) X.xe s := by
  have hq := h (s.heap.objs.size + 1) s.heap.objs.size (I.hok.fresh (Nat.le_succ _)) (I.hok.fresh (Nat.le_refl _)) (Nat.ne_of_lt (Nat.lt_succ_self _))
  have I2 := Inv.made (C := C) I
  have r1 : Vals (V.ref (s.heap.objs.size + 1) :: vs) (Value.ref (s.heap.objs.size + 1) :: us) := .cons rfl r
  have r2 := hb.rel r1 rz
  have n1 : (Value.ref (s.heap.objs.size + 1) :: us).length = n + 1 := by
    rw [List.length_cons, ← r.length, l1]
  refine wpAny_call (make_map (f := f) I.kIn N.makes N.init (beq_iff_eq.mp N.fn) (codeAny_mono (hF.run _ X.stack _ _ ⟨Value.ref (s.heap.objs.size + 1) :: us, ks.zip ws⟩ (g (Value.ref (s.heap.objs.size + 1) :: us) ws) _ _ (WE E σ) (hr.make C us (ks.zip ws))
    (I2.env0.make C us (ks.zip ws)) (hb.to _ (Value.ref (s.heap.objs.size + 1) :: us) ws I2.kIn n1 (rz.length.symm.trans l2)) r2 hq) fun r s' hq' => ?_))
  cases r with
  | error e => exact passAt tk σ pins _ _ e s' I2 hq'
  | ok fl =>
    cases fl with
    | ret u =>
      obtain ⟨v, H', I3, rv, ev, q3⟩ := I2.after hq'
      subst ev
      exact ⟨rv, ⟨V.ref (s.heap.objs.size + 1), H', I3, rfl, q3⟩⟩
    | next => exact False.elim hq'
    | brk => exact False.elim hq'
    | cont => exact False.elim hq'
theorem makeD0 {t : Nat} {C : Addr} (hC : W.cl t = C) (N : Mk X.K C f) (hF : FnOk X.prog X.w X.K X.mg X.base (L2.CX X.prog X.w) j f fd ps (spD W n F)) (hr : Room k X.A) (hj : j + 1 ≤ k) (hm : X.mg x = some (.ref C)) (hK : X.K = W.K) (hb : BnD W fd ps 1 ks ix dfl) (tk : Takes X E)
    (hkw : PK X kws (tDA W M E fk)) (hg : Gl X x := by rfl) (hall : (backToKw pos (keywordEach kws X.env)).all (·.1.isSome) = true := by rfl) (hks : (backToKw pos (keywordEach kws X.env)).filterMap (·.1) = ks := by rfl)
    (hdb : (x == ("__debug__" : Str)) = false := by decide)
    (hpl : ((backTo pos (starEach [] X.env)).any (·.1) || (backToKw pos (keywordEach kws X.env)).any (·.1.isNone)) = false := by rfl) :
    PE X (.Call (.Name x p) [] kws pos) (tD W M E (dMake t F 0 ks.length n ix dfl dNil fk)) := by
  obtain ⟨g, gV, kb, hg2⟩ := hb
  rw [← hK] at kb
  refine ⟨fun pins s σ H Q I h => ?_⟩
  refine wpAny_Call_Name_kw (ld_glob I hg hm ?_ hdb)
  refine PySem.W.callWith_KW0 (h₀ := X.base) I.ok.mod.kin N.kp hall ?_ hpl
  have h0 := nil_in (mkargs_in hC h)
  refine thn (hkw.run pos pins s σ H _ I h0) fun ws s2 ⟨zs, H2, I2, rz, l1, l2, q2⟩ => ⟨I2.kIn, ?_⟩
  rw [hks]
  exact run_mk (us := []) (vs := []) N hF (hr.mono hj) kb tk I2 .nil rz l1 l2 (q2 gV hg2)
theorem makeD {t : Nat} {C : Addr} (hC : W.cl t = C) (N : Mk X.K C f) (hF : FnOk X.prog X.w X.K X.mg X.base (L2.CX X.prog X.w) j f fd ps (spD W n F)) (hr : Room k X.A) (hj : j + 1 ≤ k) (hm : X.mg x = some (.ref C)) (hK : X.K = W.K) (hb : BnD W fd ps (m + 1) ks ix dfl) (tk : Takes X E)
    (ha : PA X (e :: es) (tDA W M E fa)) (hkw : PK X kws (tDA W M E fk)) (hg : Gl X x := by rfl) (hall : (backToKw pos (keywordEach kws X.env)).all (·.1.isSome) = true := by rfl) (hks : (backToKw pos (keywordEach kws X.env)).filterMap (·.1) = ks := by rfl)
    (hdb : (x == ("__debug__" : Str)) = false := by decide) (he : starEach (e :: es) X.env = (false, eval e X.env) :: starEach es X.env := by rfl)
    (hpl : ((backTo pos (starEach (e :: es) X.env)).any (·.1) || (backToKw pos (keywordEach kws X.env)).any (·.1.isNone)) = false := by rfl) :
    PE X (.Call (.Name x p) (e :: es) kws pos) (tD W M E (dMake t F m ks.length n ix dfl fa fk)) := by
  obtain ⟨g, gV, kb, hg2⟩ := hb
  rw [← hK] at kb
  refine ⟨fun pins s σ H Q I h => ?_⟩
  refine wpAny_Call_Name_kw (ld_glob I hg hm ?_ hdb)
  refine PySem.W.callWith_KW (h₀ := X.base) I.ok.mod.kin N.kp hall (thn (ha.run pos pins s σ H _ I (mkargs_in hC h)) fun us s1 ⟨vs, H1, I1, r, q⟩ => ?_) hpl he
  refine thn (hkw.run pos pins s1 σ H1 _ I1 q) fun ws s2 ⟨zs, H2, I2, rz, l1, l2, q2⟩ => ⟨I2.kIn, ?_⟩
  rw [hks]
  exact run_mk N hF (hr.mono hj) kb tk I2 r rz l1 l2 (q2 gV hg2)
end
end Dn
namespace Dn
open PySem PySem.Spec PyProof.Rows L2

/-! ### what is never reached -/
section
variable {W : Wd} {M : Md W} {E : WX} {X : Cx}
def dStuck : DS := fun _ _ => .stuck
def eStuck : DE := fun _ _ => .stuck
theorem wallS {st : Stmt} : PS X st (tS W M E dStuck) := ⟨fun pins s σ H D I h => by
  obtain ⟨io, hp, as, _, _, P⟩ := h
  exact P.elim⟩
theorem wallSs {st : List Stmt} : PSs X st (tS W M E dStuck) := ⟨fun pins s σ H D I h => by
  obtain ⟨io, hp, as, _, _, P⟩ := h
  exact P.elim⟩
theorem wallE {e : Expr} : PE X e (tD W M E eStuck) := ⟨fun pins s σ H Q I h => by
  obtain ⟨io, hp, as, _, _, P⟩ := h
  exact P.elim⟩
end

/-! ### globals that hold values; assignments to targets -/
def dAsg (f : DE) (g : DG) : DS := fun s h => (f s h).st s fun v h1 => match g v s with
  | some s' => .nx s' h1
  | none => .stuck
def dPar2 (i j : Nat) (f : DA) : DS := fun s h => (f s h).st s fun xs h1 => match xs with
  | [a, b] => .nx ((s.set i (some a)).set j (some b)) h1
  | _ => .stuck
def dPar3 (i j l : Nat) (f : DA) : DS := fun s h => (f s h).st s fun xs h1 => match xs with
  | [a, b, c] => .nx (((s.set i (some a)).set j (some b)).set l (some c)) h1
  | _ => .stuck
section
variable {W : Wd} {M : Md W} {E : WX} {X : Cx} {f : DE} {fa : DA} {e a b c tg : Expr} {es : List Expr} {g : DG} {pos : Pos}
/-- a name of the top that holds a value of the written part -/
theorem gcD {x : Str} {v : AV} {y : V} {u : Value} (hm : X.mg x = some u) (hr : RelV y u) (r : RW0 W v y) (hg : Gl X x := by rfl) (hdb : (x == ("__debug__" : Str)) = false := by decide) :
    PE X (.Name x pos) (tD W M E (dC v)) := cD (pe_glob hg hm hr hdb) r
/-- a built-in type, by its name -/
theorem tyD {x : Str} {n : String} (hm : X.mg x = none) (hv : bootBuiltins x = some (.type n)) (hg : Gl X x := by rfl) (hn : x ≠ "__name__" := by decide) (hdb : (x == ("__debug__" : Str)) = false := by decide) :
    PE X (.Name x pos) (tD W M E (dC (.ty n))) := cD (pe_bltn hg hm hv (v := .ty n) rfl hn hdb) fun _ _ => .ty n
/-- an own class, by its name -/
theorem clD {x : Str} {t : Nat} {C : Addr} (hC : W.cl t = C) (hm : X.mg x = some (.ref C)) (hg : Gl X x := by rfl) (hdb : (x == ("__debug__" : Str)) = false := by decide) :
    PE X (.Name x pos) (tD W M E (dC (.cls t))) := cD (pe_glob hg hm (v := .ref C) rfl hdb) fun _ _ => by
  subst hC
  exact .cls t
theorem sAsg (he : PE X e (tD W M E f)) (hg : PG X tg (tgG W M anyC g)) (hs : swapsWithSole [tg] e pos.line X.env = pure false := by rfl) (hw : swappedStores [tg] e X.env = pure none := by rfl)
    (h1 : (assignEach [tg] X.env).map (·.2) = [assign tg X.env] := by rfl) : PS X (.Assign [tg] e pos) (tS W M E (dAsg f g)) := psI (ps_asg he hg hs hw h1) fun D σ H h => by
  obtain ⟨io, hp, as, rl, S, P⟩ := h
  refine (stepS (rh := RV W) (f := f) rl S P).imp fun x H1 ⟨io2, hp2, a, e2, rl2, ra, P2⟩ => ?_
  refine ⟨io2, hp2, as, a, rl2, M.mono e2 S, ra, ?_⟩
  cases z : g a as with
  | none =>
    rw [z] at P2
    exact P2.elim
  | some s' =>
    rw [z] at P2
    exact fun σ' S' _ => P2 io2 H1 σ' Ext.refl rl2 S'
theorem sPar2 {i j : Nat} {x y : Str} {px py pt : Pos} {kt k2 pt2} (hc : X.calm = true) (hN : X.N.Nodup) (hi : X.N[i]? = some x) (hj : X.N[j]? = some y) (hij : i ≠ j)
    (hx : X.env.scope.names.lookup x = some .local) (hy : X.env.scope.names.lookup y = some .local) (ha : PA X [a, b] (tDA W M E fa)) (o1 : M.ok i) (o2 : M.ok j)
    (hw : swappedStores [.Tuple [.Name x px, .Name y py] kt pt] (.Tuple [a, b] k2 pt2) X.env = pure (some [x, y]) := by rfl)
    (hs : swapsWithSole [.Tuple [.Name x px, .Name y py] kt pt] (.Tuple [a, b] k2 pt2) pos.line X.env = pure false := by rfl) :
    PS X (.Assign [.Tuple [.Name x px, .Name y py] kt pt] (.Tuple [a, b] k2 pt2) pos) (tS W M E (dPar2 i j fa)) := psI (ps_par hc hN hi hj hij hx hy ha hw hs) fun D σ H h => by
  obtain ⟨io, hp, as, rl, S, P⟩ := h
  refine (stepS (rh := RVs W) (f := fa) rl S P).imp fun x H1 ⟨io2, hp2, a, e2, rl2, ra, P2⟩ => ?_
  match a, ra, P2 with
  | [_, _], .cons r1 (.cons r2 .nil), P2 => exact ⟨_, _, rfl, P2 io2 H1 _ Ext.refl rl2 (M.set (M.set (M.mono e2 S) r1 o1) r2 o2)⟩
theorem sPar3 {i j l : Nat} {x y z : Str} {px py pz pt : Pos} {kt k2 pt2} (hc : X.calm = true) (hN : X.N.Nodup) (hi : X.N[i]? = some x) (hj : X.N[j]? = some y) (hl : X.N[l]? = some z) (hij : i ≠ j) (hil : i ≠ l) (hjl : j ≠ l)
    (hx : X.env.scope.names.lookup x = some .local) (hy : X.env.scope.names.lookup y = some .local) (hz : X.env.scope.names.lookup z = some .local) (ha : PA X [a, b, c] (tDA W M E fa)) (o1 : M.ok i) (o2 : M.ok j) (o3 : M.ok l)
    (hw : swappedStores [.Tuple [.Name x px, .Name y py, .Name z pz] kt pt] (.Tuple [a, b, c] k2 pt2) X.env = pure (some [x, y, z]) := by rfl)
    (hs : swapsWithSole [.Tuple [.Name x px, .Name y py, .Name z pz] kt pt] (.Tuple [a, b, c] k2 pt2) pos.line X.env = pure false := by rfl) :
    PS X (.Assign [.Tuple [.Name x px, .Name y py, .Name z pz] kt pt] (.Tuple [a, b, c] k2 pt2) pos) (tS W M E (dPar3 i j l fa)) := psI (ps_par3 hc hN hi hj hl hij hil hjl hx hy hz ha hw hs) fun D σ H h => by
  obtain ⟨io, hp, as, rl, S, P⟩ := h
  refine (stepS (rh := RVs W) (f := fa) rl S P).imp fun x H1 ⟨io2, hp2, a, e2, rl2, ra, P2⟩ => ?_
  match a, ra, P2 with
  | [_, _, _], .cons r1 (.cons r2 (.cons r3 .nil)), P2 => exact ⟨_, _, _, rfl, P2 io2 H1 _ Ext.refl rl2 (M.set (M.set (M.set (M.mono e2 S) r1 o1) r2 o2) r3 o3)⟩

/-! ### starred items -/
def dStar (f : DE) (g : DA) : DA := fun s h => (f s h).bind fun a h1 => match seqOf h1 a with
  | some xs => (g s h1).bind fun b h2 => .ok (xs ++ b) h2
  | none => .stuck
theorem star_at {pins : List (Addr × Obj)} {σ : L2.St} {H : Hp} {s : Shared} {p : Addr} {vs : List V} {Q : List Value → Shared → Prop} (I : Inv X pins σ H s) (h : SqL X.K H p vs ∨ SqT X.K H p vs)
    (q : ∀ (us : List Value) (h' : Heap), Vals vs us → Inv X pins σ H { s with heap := h' } → Q us { s with heap := h' }) : PySem.W.StarOf (model X.prog X.w) X.A X.xe (.ref p) Q s := by
  have go : ∀ (T : String) (its : List Value) (o : Obj) (n : Nat), Vals vs its → vs.length ≤ sizeLine → s.heap.get? p = some o → o.cls = .type T → o.data = .seq its.toArray n → (T = "list" ∨ T = "tuple") → PySem.W.StarOf (model X.prog X.w) X.A X.xe (.ref p) Q s := fun T its o n r hz ho hc hd hT => by
    have z : wpAny (model X.prog X.w) X.A (collect (.ref p)) Q X.xe s := by
      refine wpAny_collect_seq p hT ho hc hd (fun h' hk => ?_) (by rw [List.size_toArray, ← r.length]; exact hz)
      exact q its h' r (I.kept (t' := s.toks) hk)
    have hT' : s.TypeIs (.ref p) T := ⟨o, ho, hc⟩
    unfold PySem.W.StarOf notIterableAtAll
    rcases hT with rfl | rfl
    · exact wpAny_bind (wpAny_specialOf hT' PySem.F.slot_list_iter.lookup (wpAny_pure ⟨rfl, z⟩))
    · exact wpAny_bind (wpAny_specialOf hT' PySem.F.slot_tuple_iter.lookup (wpAny_pure ⟨rfl, z⟩))
  rcases h with h | h
  · obtain ⟨its, r, pl, hz⟩ := I.list h
    obtain ⟨o, ho, hc, n, hd⟩ := pl.isList
    exact go "list" its o n r hz ho hc hd (.inl rfl)
  · obtain ⟨its, r, pl, hz⟩ := I.tuple h
    obtain ⟨o, ho, hc, n, hd⟩ := pl
    exact go "tuple" its o n r hz ho hc hd (.inr rfl)
theorem starD {p : Pos} (hK : X.K = W.K) (he : PE X e (tD W M E f)) (hr : PA X es (tDA W M E fa)) (hs : starEach (.Starred e p :: es) X.env = (true, eval e X.env) :: starEach es X.env := by rfl) : PA X (.Starred e p :: es) (tDA W M E (dStar f fa)) := by
  refine ⟨fun pos pins s σ H Q I h => ?_⟩
  obtain ⟨io, hp, as, rl, S, P⟩ := h
  refine PySem.W.items_star ?_ hs
  refine thn (he.run pins s σ H _ I (step (rh := RV W) (f := f) rl S P)) fun v s1 ⟨x, H1, I1, rx, io2, hp2, a, e2, rl2, ra, P2⟩ => ?_
  cases z : seqOf hp2 a with
  | none =>
    rw [z] at P2
    exact P2.elim
  | some xs =>
    rw [z] at P2
    obtain ⟨q, vs, rfl, hq, rvs⟩ := seqOf_in z rl2 ra
    cases (show v = Value.ref q from rx)
    rw [← hK] at hq
    refine star_at I1 hq fun us h' r' I2 => ?_
    refine thn (hr.run pos pins _ σ H1 _ I2 (step (rh := RVs W) (f := fa) rl2 (M.mono e2 S) P2)) fun ws s3 ⟨zs, H3, I3, rz, io5, hp5, b, e5, rl5, rb, P5⟩ => ?_
    exact ⟨vs ++ zs, H3, I3, r'.append rz, P5.ok rl5 ((rvs.mono e5).app rb)⟩
end
end Dn
namespace Dn
open PySem PySem.Spec PyProof.Rows L2

/-! ### builtins -/
def lenA (h : Hep) : AV → Option Nat
  | .str x => if x.length ≤ SZ then some x.length else none
  | .tup xs => some xs.length
  | .rol xs => some xs.length
  | .ref n => match h[n]? with
    | some (.lst xs) => some xs.length
    | some (.dK kvs) => some kvs.length
    | _ => none
  | _ => none
def lenL : DL := fun as h => match as with
  | [a] => (lenA h a).map fun n => (.int (n : Nat), h)
  | _ => none
def absL : DL := fun as h => match as with
  | [.int i] => some (.int (i.natAbs : Nat), h)
  | _ => none
def maxL : DL := fun as h => match as with
  | [.int i, .int j] => some (.int (max i j), h)
  | _ => none
def minL : DL := fun as h => match as with
  | [.int i, .int j] => some (.int (min i j), h)
  | _ => none
def intL : DL := fun as h => match as with
  | [.int i] => some (.int i, h)
  | [.bl b] => some (.int (if b then 1 else 0), h)
  | _ => none
def blsOf : List AV → Option (List Bool)
  | [] => some []
  | .bl b :: r => (blsOf r).map (b :: ·)
  | _ => none
def intsOf : List AV → Option (List Int)
  | [] => some []
  | .int i :: r => (intsOf r).map (i :: ·)
  | _ => none
def allL : DL := fun as h => match as with
  | [a] => ((lstOf h a).bind blsOf).map fun bs => (.bl (bs.all id), h)
  | _ => none
def anyL : DL := fun as h => match as with
  | [a] => ((lstOf h a).bind blsOf).map fun bs => (.bl (bs.any id), h)
  | _ => none
def sumL : DL := fun as h => match as with
  | [a] => ((lstOf h a).bind intsOf).map fun ns => (.int ns.sum, h)
  | _ => none
def listL : DL := fun as h => match as with
  | [a] => match seqOf h a with
    | some xs => some (.ref h.length, h ++ [.lst xs])
    | none => match a with
      | .ref n => match h[n]? with
        | some (.dK kvs) => some (.ref h.length, h ++ [.lst (kvs.map fun kv => ofKey kv.1)])
        | _ => none
      | _ => none
  | _ => none
def tupleL : DL := fun as h => match as with
  | [a] => (seqOf h a).map fun xs => (.tup xs, h)
  | _ => none
section
variable {W : Wd} {M : Md W} {E : WX} {X : Cx}
theorem blsOf_in {io : List Addr} {H : Hp} : ∀ {xs : List AV} {vs : List V} {bs : List Bool}, blsOf xs = some bs → RVs W io H xs vs → vs = bs.map V.bl
  | [], _, _, e, .nil => by
    cases e
    rfl
  | x :: xs, _, _, e, .cons r t => by
    cases x with
    | bl b =>
      have e' : (blsOf xs).map (b :: ·) = some _ := e
      cases z : blsOf xs with
      | none =>
        rw [z] at e'
        cases e'
      | some l =>
        rw [z] at e'
        cases e'
        rw [r.bl_inv, blsOf_in z t]
        rfl
    | _ => cases e
theorem intsOf_in {io : List Addr} {H : Hp} : ∀ {xs : List AV} {vs : List V} {bs : List Int}, intsOf xs = some bs → RVs W io H xs vs → vs = bs.map V.int
  | [], _, _, e, .nil => by
    cases e
    rfl
  | x :: xs, _, _, e, .cons r t => by
    cases x with
    | int b =>
      have e' : (intsOf xs).map (b :: ·) = some _ := e
      cases z : intsOf xs with
      | none =>
        rw [z] at e'
        cases e'
      | some l =>
        rw [z] at e'
        cases e'
        rw [r.int_inv, intsOf_in z t]
        rfl
    | _ => cases e
theorem one_inv {io : List Addr} {H : Hp} {a : AV} {vs : List V} (r : RVs W io H [a] vs) : ∃ x, vs = [x] ∧ RV W io H a x := by
  cases r with
  | cons r t =>
    cases t
    exact ⟨_, rfl, r⟩
theorem two_inv {io : List Addr} {H : Hp} {a b : AV} {vs : List V} (r : RVs W io H [a, b] vs) : ∃ x y, vs = [x, y] ∧ RV W io H a x ∧ RV W io H b y := by
  cases r with
  | cons r t =>
    obtain ⟨y, rfl, r2⟩ := one_inv t
    exact ⟨_, _, rfl, r, r2⟩
theorem call_or {F : Value} {r r' : List V → Hp → VK → Prop} (h : CallR X F r) (h' : CallR X F r') : CallR X F (fun xs H Q => r xs H Q ∨ r' xs H Q) := fun pins s σ H xs us Q I rr q => q.elim (h pins s σ H xs us Q I rr) (h' pins s σ H xs us Q I rr)
theorem cLen (hK : X.K = W.K) : CallR X (.builtin "len") (tl W lenL) := call_imp (call_or call_len call_lenD) fun xs H Q ⟨io, hp, as, rl, ra, P⟩ => by
  match as, ra, P with
  | [a], ra, P =>
    obtain ⟨x, rfl, r⟩ := one_inv ra
    have P' : Pop W (RV W) Q io H ((lenA hp a).map fun n => (AV.int (n : Nat), hp)) := P
    cases z : lenA hp a with
    | none =>
      rw [z] at P'
      exact P'.elim
    | some n =>
      rw [z] at P'
      have q : Q (.int (n : Nat)) H := P'.ok rl (.int _)
      cases r with
      | str y =>
        left
        unfold lenA at z
        dsimp only at z
        by_cases hz : y.length ≤ SZ
        · rw [if_pos hz] at z
          cases z
          exact ⟨_, _, rfl, ⟨szL hz, rfl⟩, q⟩
        · rw [if_neg hz] at z
          cases z
      | tup h r =>
        left
        cases z
        refine ⟨_, _, rfl, .inr ⟨_, by rw [hK]; exact h, r.len⟩, q⟩
      | rol h r =>
        left
        cases z
        refine ⟨_, _, rfl, .inl ⟨_, by rw [hK]; exact roL_sq h, r.len⟩, q⟩
      | @ref n a h =>
        unfold lenA at z
        dsimp only at z
        cases e : hp[n]? with
        | none =>
          rw [e] at z
          cases z
        | some o =>
          rw [e] at z
          cases o with
          | lst xs =>
            cases z
            obtain ⟨vs, e1, r1⟩ := rl.lst h e
            left
            exact ⟨_, _, rfl, .inl ⟨vs, .inl (.inl e1), r1.len⟩, q⟩
          | dK kvs =>
            cases z
            obtain ⟨vs, e1, r1⟩ := rl.dK h e
            right
            refine ⟨_, vs, rfl, e1, ?_⟩
            rw [← r1.len]
            exact q
          | _ => cases z
      | _ => cases z
  | [], ra, P => exact P.elim
  | _ :: _ :: _, ra, P => exact P.elim
theorem cAbs : CallR X (.builtin "abs") (tl W absL) := call_imp call_abs fun xs H Q ⟨io, hp, as, rl, ra, P⟩ => by
  match as, ra, P with
  | [.int i], ra, P =>
    obtain ⟨x, rfl, r⟩ := one_inv ra
    obtain rfl := r.int_inv
    refine ⟨i, rfl, ?_⟩
    have q : Q (.int (i.natAbs : Nat)) H := P.ok rl (.int _)
    have e : (if i < 0 then -i else i) = ((i.natAbs : Nat) : Int) := by
      split <;> omega
    rw [e]
    exact q
theorem cMax (hc : X.calm = true) : CallR X (.builtin "max") (tl W maxL) := call_imp (call_max2 hc) fun xs H Q ⟨io, hp, as, rl, ra, P⟩ => by
  match as, ra, P with
  | [.int i, .int j], ra, P =>
    obtain ⟨x, y, rfl, r1, r2⟩ := two_inv ra
    obtain rfl := r1.int_inv
    obtain rfl := r2.int_inv
    have q : Q (.int (max i j)) H := P.ok rl (.int _)
    have e : (if j > i then j else i) = max i j := by
      split <;> omega
    refine ⟨i, j, rfl, ?_⟩
    rw [e]
    exact q
theorem cMin (hc : X.calm = true) : CallR X (.builtin "min") (tl W minL) := call_imp (call_min2 hc) fun xs H Q ⟨io, hp, as, rl, ra, P⟩ => by
  match as, ra, P with
  | [.int i, .int j], ra, P =>
    obtain ⟨x, y, rfl, r1, r2⟩ := two_inv ra
    obtain rfl := r1.int_inv
    obtain rfl := r2.int_inv
    have q : Q (.int (min i j)) H := P.ok rl (.int _)
    have e : (if j < i then j else i) = min i j := by
      split <;> omega
    refine ⟨i, j, rfl, ?_⟩
    rw [e]
    exact q
theorem cInt : CallR X (.type "int") (tl W intL) := call_imp call_int1 fun xs H Q ⟨io, hp, as, rl, ra, P⟩ => by
  match as, ra, P with
  | [.int i], ra, P =>
    obtain ⟨x, rfl, r⟩ := one_inv ra
    obtain rfl := r.int_inv
    exact .inl ⟨i, rfl, P.ok rl (.int _)⟩
  | [.bl i], ra, P =>
    obtain ⟨x, rfl, r⟩ := one_inv ra
    obtain rfl := r.bl_inv
    exact .inr ⟨i, rfl, P.ok rl (.int _)⟩
theorem cAll (hK : X.K = W.K) (hc : X.calm = true) : CallR X (.builtin "all") (tl W allL) := call_imp (cr_all hc) fun xs H Q ⟨io, hp, as, rl, ra, P⟩ => by
  match as, ra, P with
  | [a], ra, P =>
    obtain ⟨x, rfl, r⟩ := one_inv ra
    have P' : Pop W (RV W) Q io H (((lstOf hp a).bind blsOf).map fun bs => (AV.bl (bs.all id), hp)) := P
    cases z : lstOf hp a with
    | none =>
      rw [z] at P'
      exact P'.elim
    | some ys =>
      rw [z] at P'
      obtain ⟨p, vs, rfl, hs, rv⟩ := lstOf_in z rl r
      have P2 : Pop W (RV W) Q io H ((blsOf ys).map fun bs => (AV.bl (bs.all id), hp)) := P'
      cases z2 : blsOf ys with
      | none =>
        rw [z2] at P2
        exact P2.elim
      | some bs =>
        rw [z2] at P2
        have e := blsOf_in z2 rv
        subst e
        exact ⟨p, bs, rfl, by rw [hK]; exact hs, P2.ok rl (.bl _)⟩
  | [], ra, P => exact P.elim
  | _ :: _ :: _, ra, P => exact P.elim
theorem cAny (hK : X.K = W.K) (hc : X.calm = true) : CallR X (.builtin "any") (tl W anyL) := call_imp (cr_any hc) fun xs H Q ⟨io, hp, as, rl, ra, P⟩ => by
  match as, ra, P with
  | [a], ra, P =>
    obtain ⟨x, rfl, r⟩ := one_inv ra
    have P' : Pop W (RV W) Q io H (((lstOf hp a).bind blsOf).map fun bs => (AV.bl (bs.any id), hp)) := P
    cases z : lstOf hp a with
    | none =>
      rw [z] at P'
      exact P'.elim
    | some ys =>
      rw [z] at P'
      obtain ⟨p, vs, rfl, hs, rv⟩ := lstOf_in z rl r
      have P2 : Pop W (RV W) Q io H ((blsOf ys).map fun bs => (AV.bl (bs.any id), hp)) := P'
      cases z2 : blsOf ys with
      | none =>
        rw [z2] at P2
        exact P2.elim
      | some bs =>
        rw [z2] at P2
        have e := blsOf_in z2 rv
        subst e
        exact ⟨p, bs, rfl, by rw [hK]; exact hs, P2.ok rl (.bl _)⟩
  | [], ra, P => exact P.elim
  | _ :: _ :: _, ra, P => exact P.elim
theorem cSum (hK : X.K = W.K) (hc : X.calm = true) : CallR X (.builtin "sum") (tl W sumL) := call_imp (cr_sum hc) fun xs H Q ⟨io, hp, as, rl, ra, P⟩ => by
  match as, ra, P with
  | [a], ra, P =>
    obtain ⟨x, rfl, r⟩ := one_inv ra
    have P' : Pop W (RV W) Q io H (((lstOf hp a).bind intsOf).map fun bs => (AV.int (bs.sum), hp)) := P
    cases z : lstOf hp a with
    | none =>
      rw [z] at P'
      exact P'.elim
    | some ys =>
      rw [z] at P'
      obtain ⟨p, vs, rfl, hs, rv⟩ := lstOf_in z rl r
      have P2 : Pop W (RV W) Q io H ((intsOf ys).map fun bs => (AV.int bs.sum, hp)) := P'
      cases z2 : intsOf ys with
      | none =>
        rw [z2] at P2
        exact P2.elim
      | some bs =>
        rw [z2] at P2
        have e := intsOf_in z2 rv
        subst e
        exact ⟨p, bs, rfl, by rw [hK]; exact hs, P2.ok rl (.int _)⟩
  | [], ra, P => exact P.elim
  | _ :: _ :: _, ra, P => exact P.elim
/-- a new list is laid -/
theorem lay_lst {io : List Addr} {hp : Hep} {H : Hp} {Q : VK} {xs : List AV} {vs : List V} (P : Pop W (RV W) Q io H (some (AV.ref hp.length, hp ++ [.lst xs]))) (rl : Rl W io hp H) (r : RVs W io H xs vs) :
    ∀ l, H l = none → Q (.ref l) (upd H l (.lst vs)) := fun l hl => by
  have e : Ext W io H (io ++ [l]) (upd H l (.lst vs)) := Ext.new io _ hl [l]
  exact P _ _ _ e (rl.new hl (.lst (r.mono e))) (.ref (by rw [← rl.len]; simp))
theorem cList (hK : X.K = W.K) (hc : X.calm = true) : CallR X (.type "list") (tl W listL) := call_imp (call_or call_list_of (call_listD hc)) fun xs H Q ⟨io, hp, as, rl, ra, P⟩ => by
  match as, ra, P with
  | [a], ra, P =>
    obtain ⟨x, rfl, r⟩ := one_inv ra
    cases z : seqOf hp a with
    | some ys =>
      have P' : Pop W (RV W) Q io H (some (AV.ref hp.length, hp ++ [.lst ys])) := by
        unfold listL at P
        simp only [z] at P
        exact P
      obtain ⟨p, vs, rfl, hs, rv⟩ := seqOf_in z rl r
      left
      refine ⟨p, vs, rfl, by rw [hK]; exact hs, lay_lst P' rl rv⟩
    | none =>
      unfold listL at P
      simp only [z] at P
      cases r with
      | @ref n a h =>
        dsimp only at P
        cases e : hp[n]? with
        | none =>
          rw [e] at P
          exact P.elim
        | some o =>
          rw [e] at P
          cases o with
          | dK kvs =>
            obtain ⟨vs, e1, r1⟩ := rl.dK h e
            right
            refine ⟨_, vs, rfl, .inl e1, ?_⟩
            have q : RVs W io H (kvs.map fun kv => ofKey kv.1) (vs.map fun kv => kV kv.1) := by
              clear P e e1
              induction r1 with
              | nil => exact .nil
              | cons _ _ ih => exact .cons (rv_key _) ih
            exact lay_lst P rl q
          | _ => exact P.elim
      | _ => exact P.elim
  | [], ra, P => exact P.elim
  | _ :: _ :: _, ra, P => exact P.elim
theorem cTuple (hK : X.K = W.K) : CallR X (.type "tuple") (tl W tupleL) := call_imp call_tuple_of fun xs H Q ⟨io, hp, as, rl, ra, P⟩ => by
  match as, ra, P with
  | [a], ra, P =>
    obtain ⟨x, rfl, r⟩ := one_inv ra
    have P' : Pop W (RV W) Q io H ((seqOf hp a).map fun xs => (AV.tup xs, hp)) := P
    cases z : seqOf hp a with
    | none =>
      rw [z] at P'
      exact P'.elim
    | some ys =>
      rw [z] at P'
      obtain ⟨p, vs, rfl, hs, rv⟩ := seqOf_in z rl r
      refine ⟨p, vs, rfl, ?_⟩
      rcases hs with hs | hs
      · refine .inl ⟨by rw [hK]; exact hs, fun l hl => ?_⟩
        have e : Ext W io H io (upd H l (.tup vs)) := Ext.new0 hl
        exact P' io _ _ e (rl.other hl) (.tup (.inl (.inl upd_same)) (rv.mono e))
      · exact .inr ⟨by rw [hK]; exact hs, P'.ok rl (.tup hs rv)⟩
  | [], ra, P => exact P.elim
  | _ :: _ :: _, ra, P => exact P.elim

/-! ### isinstance -/
inductive TW where
  | ty (n : String)
  | cls (t : Nat)
def kitB (ct : CT) (t : Nat) : Option TW := if ct.kit t then some (.cls t) else none
def twO (ct : CT) : AO → Option TW
  | .lst _ => some (.ty "list")
  | .dK _ => some (.ty "dict")
  | .dT _ => some (.ty "dict")
  | .ins t _ => kitB ct t
  | .frz _ => none
def twOf (ct : CT) (h : Hep) : AV → Option TW
  | .non => some (.ty "NoneType")
  | .bl _ => some (.ty "bool")
  | .int _ => some (.ty "int")
  | .str _ => some (.ty "str")
  | .tup _ => some (.ty "tuple")
  | .ref n => (h[n]?).bind (twO ct)
  | _ => none
def twC (ct : CT) : AV → Option TW
  | .ty n => if n ∈ tyNames then some (.ty n) else none
  | .cls t => kitB ct t
  | _ => none
def TW.sub (ct : CT) : TW → TW → Bool
  | .ty a, .ty b => a == b || (a == "bool" && b == "int")
  | .cls s, .cls t => ct.sub s t
  | _, _ => false
def isiB (ct : CT) (h : Hep) (a c : AV) : Option Bool := match twOf ct h a, twC ct c with
  | some t, some u => some (t.sub ct u)
  | _, _ => none
def isiL (ct : CT) : DL := fun as h => match as with
  | [a, c] => (isiB ct h a c).map fun b => (.bl b, h)
  | _ => none
def TW.okk (W : Wd) : TW → Prop
  | .ty n => n ∈ tyNames
  | .cls t => W.ct.kit t = true
def TW.val (W : Wd) : TW → Value
  | .ty n => .type n
  | .cls t => .ref (W.cl t)
theorem kit_ty0 {K : PySem.W.Frag} {a b : String} (ha : a ∈ tyNames) (hb : b ∈ tyNames) : PySem.W.kitOne K (.type a) (.type b) = some (a == b || (a == "bool" && b == "int")) := by
  simp only [tyNames, List.mem_cons, List.not_mem_nil, or_false] at ha hb
  rcases ha with rfl | rfl | rfl | rfl | rfl | rfl | rfl <;> rcases hb with rfl | rfl | rfl | rfl | rfl | rfl | rfl <;> first | rfl | kernel_rfl
theorem TW.sub_in {a b : TW} (W : Wd) (ha : a.okk W) (hb : b.okk W) : PySem.W.kitOne W.K (a.val W) (b.val W) = some (a.sub W.ct b) := by
  cases a with
  | ty n =>
    cases b with
    | ty m => exact kit_ty0 ha hb
    | cls t => exact W.ctf n t ha hb
  | cls s =>
    cases b with
    | ty m => exact W.cty m s hb ha
    | cls t => exact W.csf s t ha hb
theorem twOf_in {io : List Addr} {hp : Hep} {H : Hp} {a : AV} {x : V} {t : TW} (e : twOf W.ct hp a = some t) (rl : Rl W io hp H) (r : RV W io H a x) :
    t.okk W ∧ TyX W.K H x (t.val W) := by
  cases r with
  | non => cases e; exact ⟨(by simp [TW.okk] : TW.okk W (.ty _)), .base .non⟩
  | bl b => cases e; exact ⟨(by simp [TW.okk] : TW.okk W (.ty _)), .base (.bl b)⟩
  | int b => cases e; exact ⟨(by simp [TW.okk] : TW.okk W (.ty _)), .base (.int b)⟩
  | str b => cases e; exact ⟨(by simp [TW.okk] : TW.okk W (.ty _)), .base (.str b)⟩
  | tup h r =>
    cases e
    refine ⟨(by simp [TW.okk] : TW.okk W (.ty _)), ?_⟩
    rcases h with (h | ⟨o, h⟩) | ⟨o, its, n, h1, h2, _⟩
    · exact .base (.tup h)
    · exact .fTuple h
    · exact .kTuple h1 h2
  | @ref n a h =>
    unfold twOf at e
    dsimp only at e
    cases z : hp[n]? with
    | none =>
      rw [z] at e
      cases e
    | some o =>
      rw [z] at e
      have e' : twO W.ct o = some t := e
      cases o with
      | lst xs =>
        cases e'
        obtain ⟨vs, e1, _⟩ := rl.lst h z
        exact ⟨(by simp [TW.okk] : TW.okk W (.ty _)), .base (.lst e1)⟩
      | dK xs =>
        cases e'
        obtain ⟨vs, e1, _⟩ := rl.dK h z
        exact ⟨(by simp [TW.okk] : TW.okk W (.ty _)), .base (.dK e1)⟩
      | dT xs =>
        cases e'
        obtain ⟨vs, e1, _⟩ := rl.dT h z
        exact ⟨(by simp [TW.okk] : TW.okk W (.ty _)), .base (.dT e1)⟩
      | ins c fs =>
        have e2 : kitB W.ct c = some t := e'
        unfold kitB at e2
        split at e2
        · rename_i hk
          cases e2
          obtain ⟨dx, vs, e1, _⟩ := rl.ins h z
          obtain ⟨c1, c2, c3⟩ := W.cg c hk
          exact ⟨hk, .base (.ins e1 c1 c2 W.cd W.ck c3)⟩
        · cases e2
      | frz o => cases e'
  | _ => cases e
theorem twC_in {io : List Addr} {H : Hp} {a : AV} {x : V} {t : TW} (e : twC W.ct a = some t) (r : RV W io H a x) :
    t.okk W ∧ ClsV x (t.val W) := by
  cases r with
  | ty n =>
    unfold twC at e
    dsimp only at e
    split at e
    · rename_i h
      cases e
      exact ⟨h, .ty n⟩
    · cases e
  | cls c =>
    have e2 : kitB W.ct c = some t := e
    unfold kitB at e2
    split at e2
    · rename_i hk
      cases e2
      exact ⟨hk, .own _⟩
    · cases e2
  | _ => cases e
theorem cIsi (hK : X.K = W.K) : CallR X (.builtin "isinstance") (tl W (isiL W.ct)) := call_imp call_isi fun xs H Q ⟨io, hp, as, rl, ra, P⟩ => by
  match as, ra, P with
  | [a, c], ra, P =>
    obtain ⟨x, y, rfl, r1, r2⟩ := two_inv ra
    have P' : Pop W (RV W) Q io H ((isiB W.ct hp a c).map fun b => (AV.bl b, hp)) := P
    unfold isiB at P'
    cases z1 : twOf W.ct hp a with
    | none =>
      rw [z1] at P'
      exact P'.elim
    | some t =>
      rw [z1] at P'
      cases z2 : twC W.ct c with
      | none =>
        rw [z2] at P'
        exact P'.elim
      | some u =>
        rw [z2] at P'
        obtain ⟨k1, t1⟩ := twOf_in z1 rl r1
        obtain ⟨k2, t2⟩ := twC_in z2 r2
        refine ⟨x, y, t.val W, u.val W, t.sub W.ct u, rfl, t2, ?_, ?_, P'.ok rl (.bl _)⟩
        · rw [hK]
          exact t1
        · rw [hK]
          exact TW.sub_in W k1 k2
  | [], ra, P => exact P.elim
  | [_], ra, P => exact P.elim
  | _ :: _ :: _ :: _, ra, P => exact P.elim

/-! ### calls of builtins, of their methods -/
variable {e o : Expr} {es : List Expr} {fa : DA} {f : DE} {x : Str} {p pos apos : Pos} {r : DL} {id T : String}
theorem bD (hc : CallR X (.builtin id) (tl W r)) (hm : X.mg x = none) (hv : bootBuiltins x = some (.builtin id)) (ha : PA X (e :: es) (tDA W M E fa)) (hg : Gl X x := by rfl) (hn : x ≠ "__name__" := by decide) (hdb : (x == ("__debug__" : Str)) = false := by decide)
    (he : starEach (e :: es) X.env = (false, eval e X.env) :: starEach es X.env := by rfl) (hpl : (backTo pos (starEach es X.env)).any (·.1) = false := by rfl) : PE X (.Call (.Name x p) (e :: es) [] pos) (tD W M E (dCB r fa)) :=
  peI (pe_callB hc hg hm hv ha hn hdb he hpl) fun _ _ _ h => cb_in h
theorem yD (hc : CallR X (.type T) (tl W r)) (hm : X.mg x = none) (hv : bootBuiltins x = some (.type T)) (ha : PA X (e :: es) (tDA W M E fa)) (hg : Gl X x := by rfl) (hn : x ≠ "__name__" := by decide) (hdb : (x == ("__debug__" : Str)) = false := by decide)
    (he : starEach (e :: es) X.env = (false, eval e X.env) :: starEach es X.env := by rfl) (hpl : (backTo pos (starEach es X.env)).any (·.1) = false := by rfl) : PE X (.Call (.Name x p) (e :: es) [] pos) (tD W M E (dCB r fa)) :=
  peI (pe_callTy hc hg hm hv ha hn hdb he hpl) fun _ _ _ h => cb_in h
/-- by receiver and arguments -/
abbrev DMt := AV → List AV → Hep → Op AV
def tm (W : Wd) (r : DMt) : V → List V → Hp → VK → Prop := fun x vs H Q => ∃ io hp a as, Rl W io hp H ∧ RV W io H a x ∧ RVs W io H as vs ∧ Pop W (RV W) Q io H (r a as hp)
theorem mt_imp {r r' : V → List V → Hp → VK → Prop} (h : MtR X id r) (i : ∀ x xs H Q, r' x xs H Q → r x xs H Q) : MtR X id r' := fun pins s σ H x xs v us Q I rx rxs q => h pins s σ H x xs v us Q I rx rxs (i x xs H Q q)
/-- is it such a builtin value? -/
def tyA (T : String) (h : Hep) : AV → Bool
  | .str _ => T == "str"
  | .ref n => match h[n]? with
    | some (.lst _) => T == "list"
    | some (.dK _) => T == "dict"
    | some (.dT _) => T == "dict"
    | _ => false
  | _ => false
def dMt (T : String) (r : DMt) (f : DE) (fa : DA) : DE := fun s h => (f s h).bind fun a h1 => if tyA T h1 a then (fa s h1).bind fun b h2 => R.of (r a b h2) else .stuck
theorem tyA_in {io : List Addr} {hp : Hep} {H : Hp} {a : AV} {x : V} (e : tyA T hp a = true) (rl : Rl W io hp H) (r : RV W io H a x) : tyV W.K T x H := by
  cases r with
  | str y => exact beq_iff_eq.mp e
  | @ref n a h =>
    unfold tyA at e
    dsimp only at e
    cases z : hp[n]? with
    | none =>
      rw [z] at e
      cases e
    | some o =>
      rw [z] at e
      cases o with
      | lst xs =>
        obtain ⟨vs, e1, _⟩ := rl.lst h z
        exact .inl ⟨beq_iff_eq.mp e, vs, .inl (.inl e1)⟩
      | dK xs =>
        obtain ⟨vs, e1, _⟩ := rl.dK h z
        exact .inr (.inr (.inl ⟨beq_iff_eq.mp e, .inl ⟨vs, e1⟩⟩))
      | dT xs =>
        obtain ⟨vs, e1, _⟩ := rl.dT h z
        exact .inr (.inr (.inl ⟨beq_iff_eq.mp e, .inr ⟨vs, e1⟩⟩))
      | _ => cases e
  | _ => cases e
theorem mt_in {r : DMt} {σ : L2.St} {H : Hp} {Q : VK} (h : tD W M E (dMt T r f fa) σ H Q) : tBM W.K T (tm W r) (tD W M E f) (tDA W M E fa) σ H Q := by
  obtain ⟨io, hp, as, rl, S, P⟩ := h
  refine (step (rh := RV W) (f := f) rl S P).imp fun x H1 ⟨io2, hp2, a, e2, rl2, ra, P2⟩ => ?_
  by_cases ht : tyA T hp2 a = true
  · rw [if_pos ht] at P2
    refine ⟨tyA_in ht rl2 ra, ?_⟩
    refine (step (rh := RVs W) (f := fa) rl2 (M.mono e2 S) P2).imp fun y H4 ⟨io5, hp5, b, e5, rl5, rb, P5⟩ => ?_
    exact ⟨io5, hp5, a, b, rl5, ra.mono e5, rb, P5.of⟩
  · rw [if_neg ht] at P2
    exact P2.elim
variable {name : Str} {r : DMt}
theorem mD (hK : X.K = W.K) (pa : PlainAttrs T) (slot : Slot T name id) (hm : MtR X id (tm W r)) (ho : PE X o (tD W M E f)) (ha : PA X (e :: es) (tDA W M E fa)) (hty : typeOf (.builtin id) = pure (.type "method_descriptor") := by rfl)
    (hbase : attributeBase o name X.env (eval o X.env) = eval o X.env := by rfl)
    (hfew : ((backTo pos (starEach (e :: es) X.env)).all (fun x => !x.1) && (backToKw pos (keywordEach [] X.env)).all (fun x => x.1.isSome)
      && decide ((e :: es).length + ([] : List Keyword).length + (if ([] : List Keyword).isEmpty then 0 else 1) < 30)) = true := by rfl)
    (hline : (apos.endLine == pos.line) = true := by rfl) (hs : starEach (e :: es) X.env = (false, eval e X.env) :: starEach es X.env := by rfl) (hplain : (backTo pos (starEach es X.env)).any (·.1) = false := by rfl) :
    PE X (.Call (.Attribute o name apos) (e :: es) [] pos) (tD W M E (dMt T r f fa)) :=
  peI (pe_bm pa slot hty hm ho ha hbase hfew hline hs hplain) fun σ H Q h => by
    rw [hK]
    exact mt_in h
theorem mD0 (hK : X.K = W.K) (pa : PlainAttrs T) (slot : Slot T name id) (hm : MtR X id (tm W r)) (ho : PE X o (tD W M E f)) (hty : typeOf (.builtin id) = pure (.type "method_descriptor") := by rfl)
    (hbase : attributeBase o name X.env (eval o X.env) = eval o X.env := by rfl)
    (hline : (apos.endLine == pos.line) = true := by rfl) :
    PE X (.Call (.Attribute o name apos) [] [] pos) (tD W M E (dMt T r f dNil)) :=
  peI (pe_bm0 pa slot hty hm ho hbase hline) fun σ H Q h => by
    rw [hK]
    have z := mt_in h
    refine z.imp fun x H1 ⟨a, b⟩ => ⟨a, nil_in b⟩

/-! ### the methods of lists -/
def lstAt (h : Hep) : AV → Option (Nat × List AV)
  | .ref n => match h[n]? with
    | some (.lst xs) => some (n, xs)
    | _ => none
  | _ => none
theorem lstAt_in {io : List Addr} {hp : Hep} {H : Hp} {a : AV} {x : V} {n : Nat} {xs : List AV} (e : lstAt hp a = some (n, xs)) (rl : Rl W io hp H) (r : RV W io H a x) : ∃ p vs, x = .ref p ∧ io[n]? = some p ∧ H p = some (.lst vs) ∧ RVs W io H xs vs := by
  cases r with
  | @ref m a h =>
    unfold lstAt at e
    dsimp only at e
    cases z : hp[m]? with
    | none =>
      rw [z] at e
      cases e
    | some o =>
      rw [z] at e
      cases o with
      | lst ys =>
        cases e
        obtain ⟨vs, e1, r1⟩ := rl.lst h z
        exact ⟨a, vs, rfl, h, e1, r1⟩
      | _ => cases e
  | _ => cases e
def mAppend : DMt := fun a as h => match lstAt h a, as with
  | some (n, xs), [b] => if xs.length < SZ then some (.non, h.set n (.lst (xs ++ [b]))) else none
  | _, _ => none
def mExtend : DMt := fun a as h => match lstAt h a, as with
  | some (n, xs), [b] => match lstAt h b with
    | some (_, ys) => if xs.length + ys.length ≤ SZ then some (.non, h.set n (.lst (xs ++ ys))) else none
    | none => none
  | _, _ => none
def mPop : DMt := fun a as h => match lstAt h a, as with
  | some (n, xs), [] => match xs[xs.length - 1]? with
    | some b => some (b, h.set n (.lst xs.dropLast))
    | none => none
  | some (n, xs), [b] => match b with
    | .int i => if -(2 ^ 63) ≤ i ∧ i < 2 ^ 63 then match seqIndex? i xs.length with
        | some k => match xs[k]? with
          | some b => some (b, h.set n (.lst (xs.eraseIdx k)))
          | none => none
        | none => none
      else none
    | _ => none
  | _, _ => none
def mReverse : DMt := fun a as h => match lstAt h a, as with
  | some (n, xs), [] => some (.non, h.set n (.lst xs.reverse))
  | _, _ => none
def mClear : DMt := fun a as h => match lstAt h a, as with
  | some (n, xs), [] => some (.non, h.set n (.lst []))
  | _, _ => none
def mInsert : DMt := fun a as h => match lstAt h a, as with
  | some (n, xs), [c, b] => match c with
    | .int i => if xs.length < SZ ∧ 0 ≤ i ∧ i < 2 ^ 63 then some (.non, h.set n (.lst (xs.take i.toNat ++ [b] ++ xs.drop i.toNat))) else none
    | _ => none
  | _, _ => none
theorem set_lst {io : List Addr} {hp : Hep} {H : Hp} {Q : VK} {n : Nat} {p : Addr} {ys : List AV} {vs ws : List V} {b : AV} {y : V} (P : Pop W (RV W) Q io H (some (b, hp.set n (.lst ys)))) (rl : Rl W io hp H) (hi : io[n]? = some p) (hu : H p = some (.lst vs)) (r : RVs W io H ys ws) (rb : RV W io H b y) :
    Q y (upd H p (.lst ws)) := by
  have e : Ext W io H io (upd H p (.lst ws)) := Ext.set _ hu trivial
  exact P io _ y e (rl.set hi hu trivial (.lst (r.mono e))) (rb.mono e)
theorem meAppend : MtR X "list.append" (tm W mAppend) := mt_imp mt_append fun x xs H Q ⟨io, hp, a, as, rl, ra, ras, P⟩ => by
  unfold mAppend at P
  cases z : lstAt hp a with
  | none =>
    rw [z] at P
    exact P.elim
  | some q =>
    obtain ⟨n, ys⟩ := q
    rw [z] at P
    match as, ras, P with
    | [b], ras, P =>
      obtain ⟨y, rfl, rb⟩ := one_inv ras
      obtain ⟨p, vs, rfl, hi, hu, rv⟩ := lstAt_in z rl ra
      dsimp only at P
      split at P
      · rename_i hz
        refine ⟨p, vs, y, rfl, rfl, hu, by rw [← rv.len]; exact szT hz, ?_⟩
        exact set_lst P rl hi hu (rv.app (.cons rb .nil)) .non
      · exact P.elim
    | [], _, P => exact P.elim
    | _ :: _ :: _, _, P => exact P.elim
theorem meExtend : MtR X "list.extend" (tm W mExtend) := mt_imp mt_extend fun x xs H Q ⟨io, hp, a, as, rl, ra, ras, P⟩ => by
  unfold mExtend at P
  cases z : lstAt hp a with
  | none =>
    rw [z] at P
    exact P.elim
  | some q =>
    obtain ⟨n, ys⟩ := q
    rw [z] at P
    match as, ras, P with
    | [b], ras, P =>
      obtain ⟨y, rfl, rb⟩ := one_inv ras
      obtain ⟨p, vs, rfl, hi, hu, rv⟩ := lstAt_in z rl ra
      dsimp only at P
      cases z2 : lstAt hp b with
      | none =>
        rw [z2] at P
        exact P.elim
      | some q =>
        obtain ⟨m, zs⟩ := q
        rw [z2] at P
        obtain ⟨p2, ws, rfl, hi2, hu2, rv2⟩ := lstAt_in z2 rl rb
        dsimp only at P
        split at P
        · rename_i hz
          refine ⟨p, p2, vs, ws, rfl, rfl, hu, hu2, by rw [← rv.len, ← rv2.len]; exact szL hz, ?_⟩
          exact set_lst P rl hi hu (rv.app rv2) .non
        · exact P.elim
    | [], _, P => exact P.elim
    | _ :: _ :: _, _, P => exact P.elim
theorem mePop : MtR X "list.pop" (tm W mPop) := mt_imp (MtR.or mt_pop mt_popAt) fun x xs H Q ⟨io, hp, a, as, rl, ra, ras, P⟩ => by
  unfold mPop at P
  cases z : lstAt hp a with
  | none =>
    rw [z] at P
    exact P.elim
  | some q =>
    obtain ⟨n, ys⟩ := q
    rw [z] at P
    obtain ⟨p, vs, rfl, hi, hu, rv⟩ := lstAt_in z rl ra
    match as, ras, P with
    | [], .nil, P =>
      left
      dsimp only at P
      cases z2 : ys[ys.length - 1]? with
      | none =>
        rw [z2] at P
        exact P.elim
      | some b =>
        rw [z2] at P
        obtain ⟨y, ey, ry⟩ := rv.get z2
        rw [rv.len] at ey
        exact ⟨p, vs, y, rfl, rfl, hu, ey, set_lst P rl hi hu rv.dropLast ry⟩
    | [c], ras, P =>
      right
      obtain ⟨y, rfl, rb⟩ := one_inv ras
      cases c with
      | int i =>
        obtain rfl := rb.int_inv
        dsimp only at P
        split at P
        · rename_i hz
          cases z2 : seqIndex? i ys.length with
          | none =>
            rw [z2] at P
            exact P.elim
          | some k =>
            rw [z2] at P
            dsimp only at P
            cases z3 : ys[k]? with
            | none =>
              rw [z3] at P
              exact P.elim
            | some b =>
              rw [z3] at P
              obtain ⟨y, ey, ry⟩ := rv.get z3
              rw [rv.len] at z2
              exact ⟨p, vs, i, k, y, rfl, rfl, hu, hz.1, hz.2, z2, ey, set_lst P rl hi hu (rv.erase k) ry⟩
        · exact P.elim
      | _ => exact P.elim
    | _ :: _ :: _, _, P => exact P.elim
theorem meReverse : MtR X "list.reverse" (tm W mReverse) := mt_imp mt_reverse fun x xs H Q ⟨io, hp, a, as, rl, ra, ras, P⟩ => by
  unfold mReverse at P
  cases z : lstAt hp a with
  | none =>
    rw [z] at P
    exact P.elim
  | some q =>
    obtain ⟨n, ys⟩ := q
    rw [z] at P
    obtain ⟨p, vs, rfl, hi, hu, rv⟩ := lstAt_in z rl ra
    match as, ras, P with
    | [], .nil, P => exact ⟨p, vs, rfl, rfl, hu, set_lst P rl hi hu rv.rev .non⟩
    | _ :: _, _, P => exact P.elim
theorem meClear : MtR X "list.clear" (tm W mClear) := mt_imp mt_clear fun x xs H Q ⟨io, hp, a, as, rl, ra, ras, P⟩ => by
  unfold mClear at P
  cases z : lstAt hp a with
  | none =>
    rw [z] at P
    exact P.elim
  | some q =>
    obtain ⟨n, ys⟩ := q
    rw [z] at P
    obtain ⟨p, vs, rfl, hi, hu, rv⟩ := lstAt_in z rl ra
    match as, ras, P with
    | [], .nil, P => exact ⟨p, vs, rfl, rfl, hu, set_lst P rl hi hu .nil .non⟩
    | _ :: _, _, P => exact P.elim
theorem meInsert : MtR X "list.insert" (tm W mInsert) := mt_imp mt_insert fun x xs H Q ⟨io, hp, a, as, rl, ra, ras, P⟩ => by
  unfold mInsert at P
  cases z : lstAt hp a with
  | none =>
    rw [z] at P
    exact P.elim
  | some q =>
    obtain ⟨n, ys⟩ := q
    rw [z] at P
    obtain ⟨p, vs, rfl, hi, hu, rv⟩ := lstAt_in z rl ra
    match as, ras, P with
    | [c, b], ras, P =>
      obtain ⟨y, w, rfl, r1, r2⟩ := two_inv ras
      cases c with
      | int i =>
        obtain rfl := r1.int_inv
        dsimp only at P
        split at P
        · rename_i hz
          exact ⟨p, vs, i, w, rfl, rfl, hu, by rw [← rv.len]; exact szT hz.1, hz.2.1, hz.2.2, set_lst P rl hi hu (((rv.take _).app (.cons r2 .nil)).app (rv.drop _)) .non⟩
        · exact P.elim
      | _ => exact P.elim
    | [], _, P => exact P.elim
    | [_], _, P => exact P.elim
    | _ :: _ :: _ :: _, _, P => exact P.elim
end
end Dn
namespace PySem
open Sem (wp)
set_option maxHeartbeats 4000000 in
theorem dn_meets_enumerate_newB {v : Value} {o : Obj} {H : Heap → Prop} (B : Begins v o H) :
    Meets (Builtin.«enumerate.__new__» ⟨[.type "enumerate", v], []⟩) (fun _ R s => H s.heap ∧
      R (.ok (.ret (.ref (s.heap.push o).objs.size))) { s with heap := (s.heap.push o).push { cls := .type "enumerate", data := .fields #[.none, .bool false, .ref s.heap.objs.size, rawInt 0, .none, .none] } }) :=
  .of_wp fun prog w A R s h => by
    obtain ⟨hp, g, d, tk, os⟩ := s; obtain ⟨h1, h⟩ := h
    have hsub := sub_enumerate
    have q1 : ∀ {A' : Around} {E : Value → Shared → Prop} {Q : Value → Shared → Prop}, Q (.ref hp.objs.size) ⟨hp.push o, g, d, tk, os⟩ → wpAny (model prog w) A' (pyIter v) Q E ⟨hp, g, d, tk, os⟩ :=
      fun q => B.iter prog w _ _ ⟨hp, g, d, tk, os⟩ _ h1 q
    wp_walk using q1
    refine wpAny_stack_any fun st => wpAny_pure ?_
    split
    · rename_i c _ _ _ _ _
      cases (c == Value.type "enumerate")
      · wp_walk using q1
        exact ⟨_, rfl, h⟩
      · wp_walk using q1
        exact ⟨_, rfl, h⟩
    · wp_walk using q1
      exact ⟨_, rfl, h⟩
section
variable {prog : Program} {w : World} {A : Around} {E : Value → Shared → Prop} {s : Shared}
theorem dn_enum_begins {v : Value} {o : Obj} {H : Heap → Prop} {Q : Value → Shared → Prop} (B : Begins v o H) (h1 : H s.heap)
    (h : ∀ h', IsEnum h' (s.heap.objs.size + 1) s.heap.objs.size 0 .none → h'.get? s.heap.objs.size = some o → h'.objs.size = s.heap.objs.size + 2 →
      (∀ b o, s.heap.get? b = some o → h'.get? b = some o) → Q (.ref (s.heap.objs.size + 1)) { s with heap := h' }) :
    wpAny (model prog w) A (call (.type "enumerate") [v]) Q E s := by
  refine callType_new F.called_enumerate (by decide) (F.typeCall_enumerate_1 _) (F.newCall_enumerate_1 _) (fun obj => F.args_object_init_2 obj _) F.entry_enumerate_new
    (dn_meets_enumerate_newB B) ⟨h1, ?_⟩
  have hz : (s.heap.push o).objs.size = s.heap.objs.size + 1 := Heap.size_push ..
  show _ ∧ _
  rw [hz]
  have he : IsEnum ((s.heap.push o).push { cls := .type "enumerate", data := .fields #[.none, .bool false, .ref s.heap.objs.size, rawInt 0, .none, .none] }) (s.heap.objs.size + 1) s.heap.objs.size 0 .none := by
    have := Heap.get?_push_size (s.heap.push o) (o := { cls := .type "enumerate", data := .fields #[.none, .bool false, .ref s.heap.objs.size, rawInt 0, .none, .none] }) rfl
    rw [hz] at this; exact this
  refine ⟨⟨_, he, rfl⟩, h _ he (Heap.get?_push_of_some _ (Heap.get?_push_size _ B.free)) (by rw [Heap.size_push, hz]) fun b o x => Heap.get?_push_of_some _ (Heap.get?_push_of_some _ x)⟩
end
end PySem
namespace Dn
open PySem PySem.Spec PyProof.Rows L2

/-! ### enumerate(tuple) -/
def IteT (K : PySem.W.Frag) (a : Addr) : It :=
  ⟨fun i H => ∃ (xs : List V) (x : V), SqT K H a xs ∧ xs[i]? = some x, fun i H v H' => ∃ T x, v = .ref T ∧ H T = none ∧ H' = upd H T (.tup [.int (i : Nat), x]) ∧ ∀ xs, SqT K H a xs → xs[i]? = some x, fun i H => ∃ xs : List V, SqT K H a xs ∧ xs.length ≤ i⟩
theorem turn_enumT {P : Program} {w : World} {K : PySem.W.Frag} {elts : List Expr} {kk : Nat} {tpos : Pos} (a e it : Addr) :
    Turn P w K (.Tuple elts kk tpos) (IteT K a) [e, it] e (fun i h => (∃ old, IsEnum h e it ((i : Nat) : Int) old) ∧ h.IsTupleIter it a i ∧ e ≠ it ∧ a ≠ it) where
  mem := by simp
  obj := fun i h st b hb => by
    obtain ⟨⟨old, he⟩, ⟨o, ho, hc, hd⟩, _⟩ := st
    have e' : b = e ∨ b = it := by simpa using hb
    rcases e' with z | z
    · rw [z]; exact ⟨_, he, fun v q => nomatch q⟩
    · rw [z]; exact ⟨o, ho, fun v q => by rw [hd] at q; cases q⟩
  keep := fun i h h' st k => let ⟨⟨old, he⟩, hi, hne⟩ := st; ⟨⟨old, k e (by simp) _ he⟩, hi.at fun o q => k it (by simp) o q, hne⟩
  item := by
    intro X hP hw hK hc i pins s σ H E I hf st hg
    subst hP hw hK
    obtain ⟨⟨old, he⟩, hit, hne, hai⟩ := st
    obtain ⟨xs, x, hq, hx⟩ := hg
    obtain ⟨its, rv, p, hz⟩ := I.tuple hq
    obtain ⟨u, hu, ru⟩ := rv.get hx
    have hel : e < s.heap.objs.size := Heap.lt_size he
    have hil : it < s.heap.objs.size := by obtain ⟨_, q, _⟩ := hit; exact Heap.lt_size q
    have D : Draws X.prog X.w X.A.in1 it [it, a] its.toArray.size (fun i v => its.toArray[i]? = some v) (fun i h => h.IsTupleIter it a i ∧ h.IsTuple a its.toArray) := Draws.tuple (show X.A.in1.handled = none from I.ok.hd hc) it a hai its.toArray
    have hlt : i < its.toArray.size := by
      obtain ⟨hl, _⟩ := List.getElem?_eq_some_iff.mp hu
      rw [List.size_toArray]
      exact hl
    have hef : e ∉ [it, a] := fun hm => by
      rcases List.mem_cons.mp hm with z | hm
      · exact hne z
      · have z : e = a := by simpa using hm
        subst z
        obtain ⟨o, h1, h2, _⟩ := p
        rw [he] at h1
        cases h1
        exact absurd (show Value.type "enumerate" = Value.type "tuple" from h2) (by decide)
    refine wpAny_pyNext_enum_itemC D he ⟨hit, p⟩ hlt hne hef fun y h' tk hP ho hit' hT hsz hk => ?_
    have ey : y = u := by
      have : its.toArray[i]? = some u := by simpa using hu
      rw [this] at hP
      exact (Option.some.inj hP).symm
    subst ey
    refine ⟨_, rfl, wpAny_letOwnedTupleGo_enum (s := { s with heap := h', toks := tk + 1 }) ho fun h'' he' sb => ?_⟩
    have hT2 : h''.get? s.heap.objs.size = some { cls := .type "tuple", data := .seq #[.int i tk, y] } := (sb.2 _ (Nat.ne_of_gt hel)).trans hT
    have new : ObjOk X.prog X.w (upd H s.heap.objs.size (.tup [.int (i : Nat), x])) h'' s.heap.objs.size (.tup [.int (i : Nat), x]) :=
      ⟨by show 2 ≤ sizeLine; decide, [.int i tk, y], .cons ⟨_, rfl⟩ (.cons ru .nil), ⟨_, hT2, rfl, _, rfl⟩⟩
    have I1 : Inv X pins σ (upd H s.heap.objs.size (.tup [.int (i : Nat), x])) { s with heap := h'', toks := tk + 1 } :=
      I.turnedNew (ch := [e, it]) (fun b ob hb q => (sb.2 b (fun z => hb (by simp [z]))).trans (hk b ob (fun z => hb (by simp [z])) (fun z => hb (by simp [z])) q)) hf (Nat.le_refl _) new
    refine ⟨.ref s.heap.objs.size, _, I1, rfl, ⟨_, x, rfl, I.hok.fresh (Nat.le_refl _), rfl, fun ys hy => by rw [I.tuple_inj hy hq]; exact hx⟩, ⟨⟨y, ?_⟩, hit'.1.at fun o q => (sb.2 it (Ne.symm hne)).trans q, hne, hai⟩, fun b hb => ?_⟩
    · have e1 : ((i + 1 : Nat) : Int) = (i : Int) + 1 := by omega
      rw [e1]; exact he'
    · have hb' : b < s.heap.objs.size := by
        have e' : b = e ∨ b = it := by simpa using hb
        rcases e' with z | z
        · rw [z]; exact hel
        · rw [z]; exact hil
      rw [upd_ne (Nat.ne_of_lt hb')]
      exact (hf b hb).1
  done := by
    intro X hP hw hK hc i pins s σ H E I hf st hg
    subst hP hw hK
    obtain ⟨⟨old, he⟩, hit, hne, hai⟩ := st
    obtain ⟨xs, hq, hx⟩ := hg
    obtain ⟨its, rv, p, hz⟩ := I.tuple hq
    obtain ⟨f0, f1, f2, f3, f4, f5⟩ := hf it (by simp)
    have hl := rv.length
    have D : Draws X.prog X.w X.A.in1 it [it, a] i (fun i v => its.toArray[i]? = some v) (fun j h => j = i ∧ h.IsTupleIter it a j ∧ h.IsTuple a its.toArray) :=
      { live := fun _ _ st => let ⟨o, ho, _⟩ := st.2.1; ⟨o, ho⟩
        frame := fun _ _ _ st hk => ⟨st.1, st.2.1.at fun o e => hk it (by simp) o e, st.2.2.at fun o e => hk a (by simp) o e⟩
        item := fun j s Q E hi st hQ => absurd st.1 (Nat.ne_of_lt hi)
        done := fun s Q E st hE => wpAny_nextOf_tuple_end (show X.A.in1.handled = none from I.ok.hd hc) st.2.1 st.2.2 (by simp; omega) hE }
    exact wpAny_pyNext_enum_endD D he ⟨rfl, hit, p⟩ fun h' eb => ⟨rfl, I.turned (t' := s.toks) (fun b o hb q => eb b o hb q) f0 f1 f3 f4 f5⟩
  self := fun A i s Q E st h => let ⟨⟨_, he⟩, _⟩ := st; wpAny_pyIter_enum he h
theorem src_enA {W : Wd} {io : List Addr} {H : Hp} {n : Nat} {p : Addr} (hi : io[n]? = some p) : RSrc W io H (.enA n) (Ite W.K p) := fun io' H' hp e rl => by
  have hp' := e.at hi
  refine ⟨fun i z => ?_, fun i x z => ?_⟩
  all_goals
    unfold Src.next at z
    dsimp only at z
    cases z1 : hp[n]? with
    | none =>
      rw [z1] at z
      cases z
    | some o =>
      rw [z1] at z
      cases o with
      | lst xs =>
        have z' := Option.some.inj z
        obtain ⟨vs, ev, rv⟩ := rl.lst hp' z1
        first
          | exact ⟨vs, SqL.of ev, by
              rw [← rv.len]
              cases z3 : xs[i]? with
              | none => exact List.getElem?_eq_none_iff.mp z3
              | some y =>
                rw [z3] at z'
                cases z'⟩
          | (cases z3 : xs[i]? with
             | none =>
               rw [z3] at z'
               cases z'
             | some y =>
               rw [z3] at z'
               have z4 : x = .tup [.int i, y] := (Option.some.inj z').symm
               subst z4
               obtain ⟨v, e1, r1⟩ := rv.get z3
               refine ⟨⟨vs, v, SqL.of ev, e1⟩, fun w H2 ⟨T, x, ew, hT, eH, hw⟩ => ?_⟩
               subst ew eH
               have := hw vs (SqL.of ev)
               rw [e1] at this
               cases this
               have e3 : Ext W io' H' io' (upd H' T (.tup [.int (i : Nat), v])) := Ext.new0 hT
               exact ⟨e3, rl.other hT, .tup (.inl (.inl upd_same)) (.cons (.int _) (.cons (r1.mono e3) .nil))⟩)
      | _ => cases z
theorem src_enF {W : Wd} {io : List Addr} {H : Hp} {p : Addr} {xs : List AV} {vs : List V} (h1 : SqT W.K H p vs) (r : RVs W io H xs vs) : RSrc W io H (.enF xs) (IteT W.K p) := fun io' H' hp e rl => by
  have h2 := e.tup _ _ h1
  have r2 := r.mono e
  refine ⟨fun i z => ?_, fun i x z => ?_⟩
  · have z' : (xs[i]?.map fun x => AV.tup [.int i, x]) = none := Option.some.inj z
    cases z3 : xs[i]? with
    | none => exact ⟨vs, h2, by rw [← r2.len]; exact List.getElem?_eq_none_iff.mp z3⟩
    | some y =>
      rw [z3] at z'
      cases z'
  · have z' : (xs[i]?.map fun x => AV.tup [.int i, x]) = some x := Option.some.inj z
    cases z3 : xs[i]? with
    | none =>
      rw [z3] at z'
      cases z'
    | some y =>
      rw [z3] at z'
      have z4 : x = .tup [.int i, y] := (Option.some.inj z').symm
      subst z4
      obtain ⟨v, e1, r1⟩ := r2.get z3
      refine ⟨⟨vs, v, h2, e1⟩, fun w H2 ⟨T, x, ew, hT, eH, hw⟩ => ?_⟩
      subst ew eH
      have := hw vs h2
      rw [e1] at this
      cases this
      have e3 : Ext W io' H' io' (upd H' T (.tup [.int (i : Nat), v])) := Ext.new0 hT
      exact ⟨e3, rl.other hT, .tup (.inl (.inl upd_same)) (.cons (.int _) (.cons (r1.mono e3) .nil))⟩
def dEnm (f : DE) : DI := fun s h => (f s h).bind fun a h1 => match a with
  | .tup xs => .ok (.enF xs) h1
  | .ref n => match h1[n]? with
    | some (.lst _) => .ok (.enA n) h1
    | _ => .stuck
  | _ => .stuck
section
variable {W : Wd} {M : Md W} {E : WX} {X : Cx} {e : Expr} {f : DE} {p pos tpos : Pos} {elts : List Expr} {kk : Nat}
theorem enmD (hK : X.K = W.K) (he : PE X e (tD W M E f)) (hm : X.mg "enumerate" = none) (hg : Gl X "enumerate" := by rfl) (hs : starEach [e] X.env = [(false, eval e X.env)] := by rfl) :
    PI X (.Tuple elts kk tpos) (.Call (.Name "enumerate" p) [e] [] pos) (tG W M (RSrc W) E (dEnm f)) := by
  refine ⟨fun pins s σ H R I ⟨io, hp, as, rl, S, P⟩ => ?_⟩
  have h0 : tCons (tD W M E f) tNil σ H (fun vs H1 => ∃ x io2 hp2 a, vs = [x] ∧ Ext W io H io2 H1 ∧ Rl W io2 hp2 H1 ∧ RV W io2 H1 a x ∧ Pst W (RSrc W) E σ R io2 H1 (match a with
      | .tup xs => .ok (.enF xs) hp2
      | .ref n => match hp2[n]? with
        | some (.lst _) => .ok (.enA n) hp2
        | _ => .stuck
      | _ => .stuck)) := (step (rh := RV W) (f := f) rl S P).imp fun x H1 ⟨io2, hp2, a, e2, rl2, ra, P2⟩ => ⟨x, io2, hp2, a, rfl, e2, rl2, ra, P2⟩
  refine Call_ (ld_blt I hg hm boot_enumerate (PyProof.Rows.callWith_type1 (thn ((pa_cons he pa_nil hs).run pos pins s σ H _ I h0) fun us s1 ⟨vs, H1, I1, r1, q1⟩ => ?_) hs rfl))
  obtain ⟨x, io2, hp2, a, rfl, e2, rl2, ra, P2⟩ := q1
  obtain ⟨u, rfl, ru⟩ := vals1 r1
  have fp : ∀ b ∈ [s1.heap.objs.size + 1, s1.heap.objs.size], FpOk X pins H1 b := fun b hb => by
    have e' : b = s1.heap.objs.size + 1 ∨ b = s1.heap.objs.size := by simpa using hb
    have hle : s1.heap.objs.size ≤ b := by
      rcases e' with z | z
      · rw [z]; exact Nat.le_add_right _ _
      · rw [z]; exact Nat.le_refl _
    exact I1.fpOk hle (I1.hok.fresh hle)
  cases ra with
  | @ref n p hi =>
    dsimp only at P2
    cases z : hp2[n]? with
    | none =>
      rw [z] at P2
      exact P2.elim
    | some o =>
      rw [z] at P2
      cases o with
      | lst xs =>
        obtain ⟨vs, ev, rv⟩ := rl2.lst hi z
        obtain rfl : u = Value.ref p := ru
        obtain ⟨its, _, p', hz⟩ := I1.list (SqL.of ev)
        refine call_enumerate_list p'.isList fun h' he hit hsz hk => wpAny_pyIter_enum he ?_
        have I2 : Inv X pins σ H1 { s1 with heap := h' } := I1.kept (t' := s1.toks) hk
        refine ⟨s1.heap.objs.size + 1, [s1.heap.objs.size + 1, s1.heap.objs.size], _, Ite X.K p, H1, rfl, I2, turn_enum p (s1.heap.objs.size + 1) s1.heap.objs.size, ⟨⟨.none, he⟩, hit, Nat.succ_ne_self _⟩, fp, ?_⟩
        rw [hK]
        exact Pst.ok P2 rl2 (src_enA hi)
      | _ => exact P2.elim
  | @tup p vs xs h r =>
    obtain rfl : u = Value.ref p := ru
    rw [← hK] at h
    obtain ⟨its, _, p', hz⟩ := I1.tuple h
    have hlt : p < s1.heap.objs.size := by obtain ⟨o, ho, _⟩ := p'; exact Heap.lt_size ho
    refine dn_enum_begins (begins_tuple p its.toArray) p' fun h' he hit hsz hk => wpAny_pyIter_enum he ?_
    have I2 : Inv X pins σ H1 { s1 with heap := h' } := I1.kept (t' := s1.toks) hk
    refine ⟨s1.heap.objs.size + 1, [s1.heap.objs.size + 1, s1.heap.objs.size], _, IteT X.K p, H1, rfl, I2, turn_enumT p (s1.heap.objs.size + 1) s1.heap.objs.size, ⟨⟨.none, he⟩, ⟨_, hit, rfl, rfl⟩, Nat.succ_ne_self _, Nat.ne_of_lt hlt⟩, fp, ?_⟩
    rw [hK] at h ⊢
    exact Pst.ok P2 rl2 (src_enF h r)
  | _ => exact P2.elim
end
end Dn
namespace Dn
open PySem PySem.Spec PyProof.Rows L2

/-! ### a, .., *rest = a tuple -/
theorem star_unpack {prog : Program} {w : World} {A : Around} {E : Value → Shared → Prop} {s : Shared} {l : Addr} {items : Array Value} {i : Nat} {Q : List Value → Shared → Prop} (hl : IsTup s.heap l items) (hh : A.handled = none) (hn : i ≤ items.size) (hz : items.size ≤ 16384)
    (h : ∀ h' tk, Heap.ExtBut s.heap.objs.size s.heap h' → Q (items.toList.take i ++ [.ref h'.objs.size]) { s with heap := h'.push { cls := .type "list", data := .seq (items.toList.drop i).toArray }, toks := tk }) :
    wpAny (model prog w) A (unpackItems (.ref l) (i + 1) (some i)) Q E s := by
  have hlt : l ≠ s.heap.objs.size := by obtain ⟨o, ho, _⟩ := hl; exact Nat.ne_of_lt (Heap.lt_size ho)
  have hll : l < s.heap.objs.size := by obtain ⟨o, ho, _⟩ := hl; exact Heap.lt_size ho
  unfold unpackItems
  refine wpAny_bind ?_
  unfold notIterableAtAll
  refine wpAny_bind (wpAny_specialOf hl.typeIs slot_tuple_iter.lookup ?_)
  refine wpAny_pure ?_
  simp only [Bool.false_eq_true, if_false]
  refine wpAny_bind (wpAny_holding (iter_tuple hl ?_))
  refine wpAny_bind (wpAny_holding (draw_tuple hlt i 0 _ _ ⟨_, Heap.get?_push_size _ rfl, rfl, rfl⟩ (hl.push _) (by omega) fun h₁ hit₁ hs₁ => ?_))
  have hl₁ : IsTup h₁ l items := (hl.push _).extBut hs₁.extBut hlt
  rw [Nat.zero_add] at hit₁
  have hit₁' := hit₁
  obtain ⟨oi, hoi, _⟩ := hit₁'
  have hl₁' := hl₁
  obtain ⟨ol, hol, _⟩ := hl₁'
  rw [List.drop_zero]
  have hfl : (items.toList.take i).length = i := by rw [List.length_take, Array.length_toList]; omega
  rw [if_neg (show ¬ ((items.toList.take i).length < i) by rw [hfl]; omega)]
  refine wpAny_bind (wpAny_holding (PySem.W.kun_collect (s := { s with heap := h₁ }) (T := "tuple_iterator") (.inr (.inr (.inr rfl))) (Walks.tuple (A := A.in1) hh s.heap.objs.size l hlt items) (fun j u st => st.1.typeIs) (k := i) (by omega) ⟨hit₁, hl₁⟩ (Heap.lt_size hoi) (Heap.lt_size hol) (fun h₂ tk hk => ?_) (by rw [sizeLine_eq]; omega)))
  have hrl : (items.toList.drop i).length = items.size - i := by rw [List.length_drop, Array.length_toList]
  have hmid : (items.toList.drop i).length - (i + 1 - 1 - i) = (items.toList.drop i).length := by omega
  show wpAny _ _ (if (items.toList.drop i).length < i + 1 - 1 - i then _ else _) _ _ _
  rw [if_neg (by rw [hrl]; omega)]
  show wpAny _ _ (newList ((items.toList.drop i).take ((items.toList.drop i).length - (i + 1 - 1 - i))) >>= fun d => pure (items.toList.take i ++ [d] ++ (items.toList.drop i).drop ((items.toList.drop i).length - (i + 1 - 1 - i)))) _ _ _
  rw [hmid, List.take_length, List.drop_length]
  have he : Heap.ExtBut s.heap.objs.size s.heap h₂ := fun b o hb e => hk b o hb (hs₁.extBut b o hb (Heap.get?_push_of_some _ e))
  refine wpAny_bind (wpAny_newObj_type (wpAny_pure ?_) (by show (items.toList.drop i).toArray.size ≤ sizeLine; rw [List.size_toArray, hrl, sizeLine_eq]; omega))
  rw [List.append_nil]
  exact h h₂ tk he
theorem pgs_star {X : Cx} {e : Expr} {es : List Expr} {t : TG} {u : TGs} {p : Pos} (h1 : PG X e t) (h2 : PGs X es u)
    (hs : (assignEach (.Starred e p :: es) X.env).map (·.2) = assign e X.env :: (assignEach es X.env).map (·.2) := by rfl) : PGs X (.Starred e p :: es) (gCons t u) := by
  refine ⟨fun pins s σ H vs us Q I r h => ?_⟩
  obtain ⟨v, vr, e1, h⟩ := h
  subst e1
  cases r with
  | cons r rr =>
    rw [hs]
    refine assignInOrder_cons (thn (h1.run pins s σ H _ _ _ I r h) fun _ s1 ⟨σ1, H1, I1, q1⟩ => ?_)
    exact h2.run pins s1 σ1 H1 _ _ Q I1 rr q1
def dStarS (i : Nat) (f : DE) (g : DGs) : DS := fun s h => (f s h).st s fun v h1 => match tupOf v with
  | some xs => if i ≤ xs.length ∧ xs.length ≤ 10000 then (match g (xs.take i ++ [.ref h1.length]) s with
      | some s' => .nx s' (h1 ++ [.lst (xs.drop i)])
      | none => .stuck) else .stuck
  | none => .stuck
section
variable {W : Wd} {M : Md W} {E : WX} {X : Cx} {f : DE} {e : Expr} {es : List Expr} {gs : DGs} {g : DG} {pos tpos p : Pos} {kk i : Nat} {C : CS}
theorem gsS (hC : CSok C) (h1 : PG X e (tgG W M C g)) (h2 : PGs X es (tgGs W M C gs)) (hs : (assignEach (.Starred e p :: es) X.env).map (·.2) = assign e X.env :: (assignEach es X.env).map (·.2) := by rfl) : PGs X (.Starred e p :: es) (tgGs W M C (dgC g gs)) :=
  pgsI (pgs_star h1 h2 hs) fun v σ H Q ⟨io, hp, as, xs, rl, S, r, k⟩ => by
    cases xs with
    | nil => exact k.elim
    | cons x t =>
      cases r with
      | cons r1 r2 =>
        refine ⟨_, _, rfl, io, hp, as, x, rl, S, r1, ?_⟩
        have k' : match (g x as).bind (fun s1 => gs t s1) with
          | some as' => ∀ σ', M.rel io H as' σ' → C σ σ' → Q σ' H
          | none => False := k
        cases z : g x as with
        | none =>
          rw [z] at k'
          exact k'
        | some as' =>
          rw [z] at k'
          have k2 : match gs t as' with
            | some as' => ∀ σ', M.rel io H as' σ' → C σ σ' → Q σ' H
            | none => False := k'
          intro σ' S' c1
          refine ⟨io, hp, as', t, rl, S', r2, ?_⟩
          cases z2 : gs t as' with
          | none =>
            rw [z2] at k2
            exact k2
          | some as3 =>
            rw [z2] at k2
            exact fun σ3 S3 c3 => k2 σ3 S3 (hC.tr _ _ _ c1 c3)
theorem sStar (hK : X.K = W.K) (hc : X.calm = true) (he : PE X e (tD W M E f)) (hg : PGs X es (tgGs W M anyC gs)) (hlen : (assignEach es X.env).length = i + 1 := by rfl) (hstar : (assignEach es X.env).findIdx? (·.1) = some i := by rfl)
    (hs : swapsWithSole [.Tuple es kk tpos] e pos.line X.env = pure false := by rfl) (hw : swappedStores [.Tuple es kk tpos] e X.env = pure none := by rfl)
    (h1 : (assignEach [.Tuple es kk tpos] X.env).map (·.2) = [assign (.Tuple es kk tpos) X.env] := by rfl) : PS X (.Assign [.Tuple es kk tpos] e pos) (tS W M E (dStarS i f gs)) := by
  refine ⟨fun pins s σ H D I ⟨io, hp, as, rl, S, P⟩ => ?_⟩
  refine wpAny_Assign_stores (thn (he.run pins s σ H _ I (stepS (rh := RV W) (f := f) rl S P)) fun v s1 ⟨x, H1, I1, rx, io2, hp2, a, e2, rl2, ra, P2⟩ => ?_) hs hw
  rw [h1]
  cases z : tupOf a with
  | none =>
    rw [z] at P2
    exact P2.elim
  | some xs =>
    rw [z] at P2
    dsimp only at P2
    obtain ⟨q, vs, rfl, hq, rv⟩ := tupOf_in z ra
    obtain rfl : v = Value.ref q := rx
    by_cases hz : i ≤ xs.length ∧ xs.length ≤ 10000
    · rw [if_pos hz] at P2
      rw [← hK] at hq
      obtain ⟨its, r', pt, hz'⟩ := I1.tuple hq
      have hlx : its.length = xs.length := by rw [rv.len, r'.length]
      show wpAny _ _ (assignAll (.ref q) [assign (.Tuple es kk tpos) X.env]) _ _ _
      have go : wpAny (model X.prog X.w) X.A (assign (.Tuple es kk tpos) X.env (.ref q)) (fun _ s' => ∃ σ' H', Inv X pins σ' H' s' ∧ D.nx σ' H') X.xe s1 := by
        rw [assign_Tuple]
        refine wpAny_bind (wpAny_standAt ?_)
        unfold unpack
        rw [hlen, hstar]
        refine wpAny_bind (wpAny_holding (star_unpack (items := its.toArray) pt (I1.ok.hd hc) (by simp; omega) (by simp; omega) fun h' tk he' => ?_))
        have I2 : Inv X pins σ H1 { s1 with heap := h', toks := tk } := I1.kept fun b o e => he' b o (Nat.ne_of_lt (Heap.lt_size e)) e
        have hnone : H1 h'.objs.size = none := I2.hok.fresh (Nat.le_refl _)
        have rd : Vals (vs.drop i) (its.drop i) := r'.drop i
        have hzd : (vs.drop i).length ≤ sizeLine := by rw [List.length_drop, ← rv.len, sizeLine_eq]; omega
        have I3 : Inv X pins σ (upd H1 h'.objs.size (.lst (vs.drop i))) { s1 with heap := h'.push { cls := .type "list", data := .seq (its.drop i).toArray }, toks := tk } := Inv.lnew (t' := tk) I2 rd hzd
        have e3 : Ext W io2 H1 (io2 ++ [h'.objs.size]) (upd H1 h'.objs.size (.lst (vs.drop i))) := Ext.new io2 _ hnone [h'.objs.size]
        have rl3 : Rl W (io2 ++ [h'.objs.size]) (hp2 ++ [.lst (xs.drop i)]) (upd H1 h'.objs.size (.lst (vs.drop i))) := rl2.new hnone (.lst ((rv.drop i).mono e3))
        have rr : RVs W (io2 ++ [h'.objs.size]) (upd H1 h'.objs.size (.lst (vs.drop i))) (xs.take i ++ [.ref hp2.length]) (vs.take i ++ [.ref h'.objs.size]) := ((rv.take i).mono e3).app (.cons (.ref (by rw [← rl2.len]; simp)) .nil)
        have rw' : Vals (vs.take i ++ [V.ref h'.objs.size]) (its.take i ++ [Value.ref h'.objs.size]) := (r'.take i).append (.cons rfl .nil)
        refine hg.run pins _ σ _ _ _ _ I3 rw' ⟨io2 ++ [h'.objs.size], hp2 ++ [.lst (xs.drop i)], as, xs.take i ++ [.ref hp2.length], rl3, M.mono (e2.trans e3) S, rr, ?_⟩
        cases z2 : gs (xs.take i ++ [.ref hp2.length]) as with
        | none =>
          rw [z2] at P2
          exact P2.elim
        | some s' =>
          rw [z2] at P2
          exact fun σ' S' _ => P2 _ _ _ e3 rl3 S'
      exact thn go fun _ s2 q => q
    · rw [if_neg hz] at P2
      exact P2.elim
end
end Dn
namespace Dn
open PySem PySem.Spec PyProof.Rows L2

/-! ### short words for derivations -/
section
variable {W : Wd} {M : Md W} {E : WX} {X : Cx} {k : Nat}
theorem ru (hr : Room k X.A) : X.A.units + 64 < cLine := by have := hr.un; omega
theorem ru5 (hr : Room k X.A) : X.A.units + 65 < cLine := by have := hr.un; omega
theorem ru1 (hr : Room k X.A) : X.A.units + 1 < cLine := by have := hr.un; omega
theorem tkE0 : Takes X E0x := fun u s' ⟨_, _, _, _, _, _, _, _, _, _, _, _, _, _, _, _, w⟩ => w.elim
theorem iD {i : Int} {j pos} : PE X (.Constant (.int i) j pos) (tD W M E (dC (.int i))) := cD pe_int fun _ _ => .int i
theorem bD0 {i : Bool} {j pos} : PE X (.Constant (.bool i) j pos) (tD W M E (dC (.bl i))) := cD pe_bl fun _ _ => .bl i
theorem sD {i : Str} {j pos} : PE X (.Constant (.str i) j pos) (tD W M E (dC (.str i))) := cD pe_str fun _ _ => .str i
theorem nD0 {j pos} : PE X (.Constant .none j pos) (tD W M E (dC .non)) := cD pe_non fun _ _ => .non
theorem vv (i : Nat) {x : Str} {pos : Pos} (hN : X.N[i]? = some x := by rfl) (hv : Vis X.env.scope x := by first | exact Or.inl rfl | exact Or.inr (Or.inl rfl) | exact Or.inr (Or.inr rfl)) (hd : (x == ("__debug__" : Str)) = false := by decide)
    (hcd : (x == ("__classdict__" : Str)) = false := by decide) : PE X (.Name x pos) (tD W M E (dVar i)) := vD (pe_var hN hv hd hcd)
end
theorem bt_len : bootBuiltins "len" = some (.builtin "len") := by decide +kernel
theorem bt_abs : bootBuiltins "abs" = some (.builtin "abs") := by decide +kernel
theorem bt_max : bootBuiltins "max" = some (.builtin "max") := by decide +kernel
theorem bt_min : bootBuiltins "min" = some (.builtin "min") := by decide +kernel
theorem bt_all : bootBuiltins "all" = some (.builtin "all") := by decide +kernel
theorem bt_any : bootBuiltins "any" = some (.builtin "any") := by decide +kernel
theorem bt_sum : bootBuiltins "sum" = some (.builtin "sum") := by decide +kernel
theorem bt_repr : bootBuiltins "repr" = some (.builtin "repr") := by decide +kernel
theorem bt_sorted : bootBuiltins "sorted" = some (.builtin "sorted") := by decide +kernel
theorem bt_isinstance : bootBuiltins "isinstance" = some (.builtin "isinstance") := by decide +kernel
theorem bt_int : bootBuiltins "int" = some (.type "int") := by decide +kernel
theorem bt_str : bootBuiltins "str" = some (.type "str") := by decide +kernel
theorem bt_bool : bootBuiltins "bool" = some (.type "bool") := by decide +kernel
theorem bt_list : bootBuiltins "list" = some (.type "list") := by decide +kernel
theorem bt_tuple : bootBuiltins "tuple" = some (.type "tuple") := by decide +kernel
theorem bt_dict : bootBuiltins "dict" = some (.type "dict") := by decide +kernel
theorem bt_set : bootBuiltins "set" = some (.type "set") := by decide +kernel

/-! ### a def of the text, with the ways it is called -/
abbrev Bs := List (Nat × List Str × List Nat × List AV)
def Has (P : Program) (w : World) (mg : Str → Option Value) (base : Heap) (W : Wd) (k : Nat) (x : Str) (ps : List Str) (n : Nat) (F : DF) (bs : Bs) : Prop :=
  ∃ (a : Addr) (fd : FuncData), mg x = some (.ref a) ∧ PySem.W.keepIn W.K (.ref a) = true ∧ FnOk P w W.K mg base (L2.CX P w) k a fd ps (spD W n F) ∧ ∀ b ∈ bs, BnD W fd ps b.1 b.2.1 b.2.2.1 b.2.2.2
section
variable {W : Wd} {M : Md W} {E : WX} {X : Cx} {k j n m q : Nat} {ps ks : List Str} {F : DF} {x : Str} {p pos : Pos} {e : Expr} {es : List Expr} {kws : List Keyword} {fa fk : DA} {ix : List Nat} {dfl : List AV} {bs : Bs}
theorem callH (H : Has X.prog X.w X.mg X.base W j x ps n F bs) (i : Nat) (hi : bs[i]? = some (m, ks, ix, dfl)) (hq : ks.length = q) (hr : Room k X.A) (hj : j ≤ k) (hK : X.K = W.K) (tk : Takes X E)
    (ha : PA X (e :: es) (tDA W M E fa)) (hkw : PK X kws (tDA W M E fk)) (hg : Gl X x := by rfl) (hall : (backToKw pos (keywordEach kws X.env)).all (·.1.isSome) = true := by rfl) (hks : (backToKw pos (keywordEach kws X.env)).filterMap (·.1) = ks := by rfl)
    (hdb : (x == ("__debug__" : Str)) = false := by decide) (he : starEach (e :: es) X.env = (false, eval e X.env) :: starEach es X.env := by rfl)
    (hpl : ((backTo pos (starEach (e :: es) X.env)).any (·.1) || (backToKw pos (keywordEach kws X.env)).any (·.1.isNone)) = false := by rfl) :
    PE X (.Call (.Name x p) (e :: es) kws pos) (tD W M E (dCallC F m q n ix dfl fa fk)) := by
  subst hq
  obtain ⟨a, fd, h1, h2, h3, h4⟩ := H
  have h5 := h4 _ (List.mem_of_getElem? hi)
  rw [← hK] at h2 h3
  exact callD h3 hr hj h1 h2 hK h5 tk ha hkw hg hall hks hdb he hpl
theorem callH0 (H : Has X.prog X.w X.mg X.base W j x ps n F bs) (i : Nat) (hi : bs[i]? = some (0, ks, ix, dfl)) (hq : ks.length = q) (hr : Room k X.A) (hj : j ≤ k) (hK : X.K = W.K) (tk : Takes X E)
    (hkw : PK X kws (tDA W M E fk)) (hg : Gl X x := by rfl) (hall : (backToKw pos (keywordEach kws X.env)).all (·.1.isSome) = true := by rfl) (hks : (backToKw pos (keywordEach kws X.env)).filterMap (·.1) = ks := by rfl)
    (hdb : (x == ("__debug__" : Str)) = false := by decide)
    (hpl : ((backTo pos (starEach [] X.env)).any (·.1) || (backToKw pos (keywordEach kws X.env)).any (·.1.isNone)) = false := by rfl) :
    PE X (.Call (.Name x p) [] kws pos) (tD W M E (dCallC F 0 q n ix dfl dNil fk)) := by
  subst hq
  obtain ⟨a, fd, h1, h2, h3, h4⟩ := H
  have h5 := h4 _ (List.mem_of_getElem? hi)
  rw [← hK] at h2 h3
  exact callD0 h3 hr hj h1 h2 hK h5 tk hkw hg hall hks hdb hpl
end

/-! ### values of the written part -/
/-- a tuple of the written part -/
def flatsB : List V → List Value → Bool
  | [], [] => true
  | v :: vs, u :: us => He.relB v u && flatsB vs us
  | _, _ => false
theorem flatsB_ok : ∀ {vs : List V} {us : List Value}, flatsB vs us = true → Vals vs us
  | [], [], _ => .nil
  | v :: vs, u :: us, h => by
    obtain ⟨h1, h2⟩ := He.ba (show (He.relB v u && flatsB vs us) = true from h)
    exact .cons (He.relB_ok h1) (flatsB_ok h2)
def tupB (x : Str) (vs : List V) (K : PySem.W.Frag) : Bool := match PySem.W.nsIn K mainGlobals x with
  | some (some (.ref a)) => (match K.lookup a with
    | some ⟨.type "tuple", _, .seq its _, _⟩ => decide (its.size ≤ 1000) && flatsB vs its.toList
    | _ => false)
  | _ => false
theorem tupB_ok {K : PySem.W.Frag} {h : Heap} {mg : Str → Option Value} {x : Str} {vs : List V} (X : K.In h) (G : h.Ns mainGlobals mg) (c : tupB x vs K = true) : ∃ a, mg x = some (.ref a) ∧ ∀ H, SqT K H a vs := by
  unfold tupB at c
  cases e : PySem.W.nsIn K mainGlobals x with
  | none =>
    rw [e] at c
    cases c
  | some o =>
    rw [e] at c
    cases o with
    | none => cases c
    | some v =>
      cases v with
      | ref a =>
        dsimp only at c
        split at c
        · rename_i dd its n sl z
          obtain ⟨c1, c2⟩ := He.ba c
          refine ⟨a, PySem.W.mg_of X G e, fun H => .inr ⟨_, its, n, z, rfl, rfl, ?_, flatsB_ok c2⟩⟩
          have := of_decide_eq_true c1
          rw [sizeLine_eq]
          omega
        · cases c
      | _ => cases c

/-! ### the head's facts, and more of one's own -/
def obsE (fa : List He.Fa) (fn : List He.DefD) (xt : List (PySem.W.Frag → Bool)) (K : PySem.W.Frag) : He.AlD := ((He.obsD fa fn K).1 && xt.all fun f => f K, (He.obsD fa fn K).2)
def SaysE (fa : List He.Fa) (fn : List He.DefD) (xt : List (PySem.W.Frag → Bool)) (K : PySem.W.Frag) : Prop := obsE fa fn xt K = He.valD fn
theorem SaysE.says {fa : List He.Fa} {fn : List He.DefD} {xt : List (PySem.W.Frag → Bool)} {K : PySem.W.Frag} (c : SaysE fa fn xt K) : He.SaysD fa fn K ∧ ∀ (i : Nat) (f : PySem.W.Frag → Bool), xt[i]? = some f → f K = true := by
  have c0 : obsE fa fn xt K = He.valD fn := c
  have d1 : (obsE fa fn xt K).1 = true := by
    rw [c0]
    rfl
  have c1 : ((He.obsD fa fn K).1 && xt.all fun f => f K) = true := d1
  have d2 : (obsE fa fn xt K).2 = (He.valD fn).2 := by rw [c0]
  have c2 : (He.obsD fa fn K).2 = (He.valD fn).2 := d2
  obtain ⟨c3, c4⟩ := He.ba c1
  refine ⟨?_, fun i f h => List.all_eq_true.mp c4 f (List.mem_of_getElem? h)⟩
  show He.obsD fa fn K = He.valD fn
  exact Prod.ext c3 c2
def obsEG (n : Nat) (fa : List He.Fa) (fn : List He.DefD) (xt : List (PySem.W.Frag → Bool)) (g : Addr → Option Obj) : He.AlD := obsE fa fn xt (He.frG g (He.asD g n))
def hookE (n : Nat) (fa : List He.Fa) (fn : List He.DefD) (xt : List (PySem.W.Frag → Bool)) : PySem.W.Hook where
  α := He.AlD
  obs := fun s => obsEG n fa fn xt s.heap.get?
  val := fun _ => He.valD fn
  says := fun _ h => ∃ K : PySem.W.Frag, K.In h ∧ SaysE fa fn xt K
  of := fun _ _ e => ⟨_, He.frG_in, e⟩
  keeps := fun _ _ _ ⟨K, hK, c⟩ k => ⟨K, PySem.W.Frag.In.keeps hK k, c⟩
theorem obsEG_eq {n : Nat} {fa : List He.Fa} {fn : List He.DefD} {xt : List (PySem.W.Frag → Bool)} {g : Addr → Option Obj} {s : Shared} (h : ∀ a, g a = s.heap.get? a) : obsEG n fa fn xt g = (hookE n fa fn xt).obs s := by
  have e : g = s.heap.get? := funext h
  rw [e] <;> rfl

/-! ### the law's promise -/
def spL (K : PySem.W.Frag) : Sp := fun vs H Q _ => ∃ (a : Addr) (ns : List Int), vs = [.ref a] ∧ ns.length ≤ 63 ∧ Only H ∧ SqL K H a (ns.map V.int) ∧ ∀ H', Q (.bl true) H'
theorem law_sp {W : Wd} {P : Program} {w : World} {mg : Str → Option Value} {base : Heap} {CX : CXT} {k : Nat} {f : Addr} {fd : FuncData} {ps : List Str} {F : DF} (hF : FnOk P w W.K mg base CX k f fd ps (spD W 1 F))
    (law : ∀ ns : List Int, ns.length ≤ 63 → ∃ h, F [.rol (ns.map .int)] [] = .ok (.bl true) h) : FnOk P w W.K mg base CX k f fd ps (spL W.K) := hF.imp fun vs H Q E ⟨a, ns, e, hl, hO, hS, hQ⟩ => by
  subst e
  obtain ⟨h, e⟩ := law ns hl
  refine ⟨[], [], [.rol (ns.map .int)], rfl, ⟨rfl, List.nodup_nil, fun i a o hi => by simp at hi⟩, .cons (.rol ?_ (RVs.ints ns)) .nil, ?_⟩
  · rcases hS with (z | ⟨o, z⟩) | z
    · rcases hO a with q | ⟨o, xs, q⟩
      · rw [q] at z
        cases z
      · rw [q] at z
        cases z
    · exact .inl ⟨o, z⟩
    · exact .inr (.inr z)
  · rw [e]
    intro io' H' x _ _ r
    obtain rfl := r.bl_inv
    exact hQ H'
end Dn
namespace Dn
open PySem PySem.Spec PyProof.Rows L2

/-! ### o[i] = v -/
def putAV (o i v : AV) (h : Hep) : Option Hep := match o with
  | .ref n => match h[n]? with
    | some (.lst xs) => (match i with
      | .int k => (ixN xs.length k).map fun j => h.set n (.lst (xs.set j v))
      | _ => none)
    | some (.dK kvs) => (match keyOf i with
      | some q => if kvs.length < SZ then some (h.set n (.dK (dput kvs q v))) else none
      | none => none)
    | _ => none
  | _ => none
def dPut (fo fi fv : DE) : DS := fun s h => (fv s h).st s fun v h1 => (fo s h1).st s fun o h2 => (fi s h2).st s fun i h3 => match putAV o i v h3 with
  | some h4 => .nx s h4
  | none => .stuck
section
variable {W : Wd} {M : Md W} {E : WX} {X : Cx} {k : Nat}
theorem sPut {o i v : Expr} {fo fi fv : DE} {p pos : Pos} (hr : Room k X.A) (ho : PE X o (tD W M E fo)) (hi : PE X i (tD W M E fi)) (hv : PE X v (tD W M E fv)) (hs : swapsWith v (some (.Subscript o i p)) pos.line X.env = pure false := by rfl) :
    PS X (.Assign [.Subscript o i p] v pos) (tS W M E (dPut fo fi fv)) := by
  refine ⟨fun pins s σ H D I ⟨io, hp, as, rl, S, P⟩ => ?_⟩
  refine wpAny_Assign_Subscript (thn (hv.run pins s σ H _ I (stepS (rh := RV W) (f := fv) rl S P)) fun uv s1 ⟨xv, H1, I1, rv, io1, hp1, a1, e1, rl1, r1, P1⟩ => ?_) hs
  refine thn (ho.run pins s1 σ H1 _ I1 (stepS (rh := RV W) (f := fo) rl1 (M.mono e1 S) P1)) fun uo s2 ⟨xo, H2, I2, ro, io2, hp2, a2, e2, rl2, r2, P2⟩ => ?_
  refine thn (hi.run pins s2 σ H2 _ I2 (stepS (rh := RV W) (f := fi) rl2 (M.mono (e1.trans e2) S) P2)) fun ui s3 ⟨xi, H3, I3, ri, io3, hp3, a3, e3, rl3, r3, P3⟩ => ?_
  have S3 := M.mono ((e1.trans e2).trans e3) S
  have q2 := r2.mono e3
  have q1 := r1.mono (e2.trans e3)
  have fin : ∀ {H4 : Hp} {s4 : Shared} {h4 : Hep}, putAV a2 a3 a1 hp3 = some h4 → Ext W io3 H3 io3 H4 → Rl W io3 h4 H4 → Inv X pins σ H4 s4 → SP X pins D .next s4 := fun {H4 s4 h4} z e rl4 I4 => by
    rw [z] at P3
    exact ⟨σ, H4, I4, P3 _ _ _ e rl4 (M.mono e S3)⟩
  cases q2 with
  | @ref n p hi' =>
    have P4 : Pss W M E D io3 H3 (match putAV (.ref n) a3 a1 hp3 with
      | some h4 => .nx as h4
      | none => .stuck) := P3
    cases z : hp3[n]? with
    | none =>
      simp only [putAV, z] at P4
      exact P4.elim
    | some ob =>
      cases ob with
      | lst xs =>
        obtain ⟨vs, ev, rvs⟩ := rl3.lst hi' z
        cases r3 with
        | int i =>
          cases z2 : ixN xs.length i with
          | none =>
            simp only [putAV, z, z2] at P4
            exact P4.elim
          | some j =>
            have z3 : putAV (.ref n) (.int i) a1 hp3 = some (hp3.set n (.lst (xs.set j a1))) := by simp only [putAV, z, z2, Option.map_some]
            have eS : Ext W io3 H3 io3 (upd H3 p (.lst (vs.set j xv))) := Ext.set _ ev trivial
            refine thn (set_list pins s3 σ H3 _ _ _ _ _ _ (fun H' => H' = upd H3 p (.lst (vs.set j xv))) I3 ro ri rv ⟨p, vs, i, j, rfl, rfl, ev, by rw [← rvs.len]; exact z2, rfl⟩) fun _ s4 ⟨H4, I4, e4⟩ => ?_
            subst e4
            exact fin z3 eS (rl3.set hi' ev trivial (.lst ((rvs.set j q1).mono eS))) I4
        | _ =>
          simp only [putAV, z] at P4
          exact P4.elim
      | dK kvs =>
        obtain ⟨vs, ev, rvs⟩ := rl3.dK hi' z
        cases z2 : keyOf a3 with
        | none =>
          simp only [putAV, z, z2] at P4
          exact P4.elim
        | some q =>
          by_cases hz : kvs.length < SZ
          · have z3 : putAV (.ref n) a3 a1 hp3 = some (hp3.set n (.dK (dput kvs q a1))) := by simp only [putAV, z, z2, if_pos hz]
            have eS : Ext W io3 H3 io3 (upd H3 p (.dK (putK vs q xv))) := Ext.set _ ev trivial
            have ek := keyOf_in z2 r3
            subst ek
            refine thn (set_dict (ru1 hr) pins s3 σ H3 _ _ _ _ _ _ (fun H' => H' = upd H3 p (.dK (putK vs q xv))) I3 ro ri rv ⟨p, _, rfl, DPut.k ev (by rw [← rvs.len]; exact szT hz), rfl⟩) fun _ s4 ⟨H4, I4, e4⟩ => ?_
            subst e4
            exact fin z3 eS (rl3.set hi' ev trivial (.dK ((RKs.put q q1 rvs).mono eS))) I4
          · simp only [putAV, z, z2, if_neg hz] at P4
            exact P4.elim
      | _ =>
        simp only [putAV, z] at P4
        exact P4.elim
  | _ => exact P3.elim

/-! ### list(range(..)) -/
def lrAV (i j : Int) (h : Hep) : Op AV := if -(2 ^ 62) ≤ i ∧ i < 2 ^ 62 ∧ -(2 ^ 62) ≤ j ∧ j < 2 ^ 62 ∧ (j - i).toNat ≤ SZ then some (.ref h.length, h ++ [.lst (rngL i (j - i).toNat)]) else none
def lr1L : DL := fun as h => match as with
  | [.int j] => lrAV 0 j h
  | _ => none
def lr2L : DL := fun as h => match as with
  | [.int i, .int j] => lrAV i j h
  | _ => none
theorem lr_at {io : List Addr} {hp : Hep} {H : Hp} {Q : VK} {i j : Int} (P : Pop W (RV W) Q io H (lrAV i j hp)) (rl : Rl W io hp H) : RgOk i j ∧ ∀ q, H q = none → Q (.ref q) (upd H q (.lst (rgV i j))) := by
  unfold lrAV at P
  split at P
  · rename_i h
    refine ⟨⟨h.1, h.2.1, h.2.2.1, h.2.2.2.1, by have := h.2.2.2.2; have z : SZ = 1000000 := rfl; omega⟩, lay_lst P rl ?_⟩
    unfold rngL rgV
    generalize List.range (j - i).toNat = l
    clear h P
    induction l with
    | nil => exact .nil
    | cons a r ih => exact .cons (.int _) ih
  · exact P.elim
abbrev dLR1 (f : DE) : DE := dUn (fun a h => lr1L [a] h) f
abbrev dLR2 (f g : DE) : DE := dOp (fun a b h => lr2L [a, b] h) f g
theorem lr1D {a : Expr} {f : DE} {p q pos : Pos} (hc : X.calm = true) (hl : X.mg "list" = none) (hm : X.mg "range" = none) (ha : PE X a (tD W M E f)) (hg : Gl X "list" := by rfl) (hg2 : Gl X "range" := by rfl)
    (na : starEach [a] X.env = (false, eval a X.env) :: starEach [] X.env := by rfl) (nb : starEach [.Call (.Name "range" q) [a] [] pos] X.env = (false, eval (.Call (.Name "range" q) [a] [] pos) X.env) :: starEach [] X.env := by rfl) {pos2 : Pos} :
    PE X (.Call (.Name "list" p) [.Call (.Name "range" q) [a] [] pos] [] pos2) (tD W M E (dLR1 f)) :=
  peI (pe_listRg hc hg hl (prg_1 hg2 hm ha na) nb) fun σ H Q h => by
    refine (un_in h).imp fun x H1 ⟨io, hp, a, rl, ra, P⟩ => ?_
    cases ra with
    | int i => exact ⟨i, rfl, lr_at P rl⟩
    | _ => exact P.elim
theorem lr2D {a b : Expr} {f g : DE} {p q pos : Pos} (hc : X.calm = true) (hl : X.mg "list" = none) (hm : X.mg "range" = none) (ha : PE X a (tD W M E f)) (hb : PE X b (tD W M E g)) (hg : Gl X "list" := by rfl) (hg2 : Gl X "range" := by rfl)
    (na : starEach [a, b] X.env = (false, eval a X.env) :: starEach [b] X.env := by rfl) (na2 : starEach [b] X.env = (false, eval b X.env) :: starEach [] X.env := by rfl) (hp : (backTo pos (starEach [b] X.env)).any (·.1) = false := by rfl)
    (nb : starEach [.Call (.Name "range" q) [a, b] [] pos] X.env = (false, eval (.Call (.Name "range" q) [a, b] [] pos) X.env) :: starEach [] X.env := by rfl) {pos2 : Pos} :
    PE X (.Call (.Name "list" p) [.Call (.Name "range" q) [a, b] [] pos] [] pos2) (tD W M E (dLR2 f g)) :=
  peI (pe_listRg hc hg hl (prg_2 hg2 hm ha hb na na2 hp) nb) fun σ H Q h => by
    refine tG.imp (op_in h) fun x H1 h1 => tG.imp h1 fun y H2 ⟨io, hp, a, b, rl, ra, rb, P⟩ => ?_
    cases ra with
    | int i =>
      cases rb with
      | int j => exact ⟨i, j, rfl, rfl, lr_at P rl⟩
      | _ => exact P.elim
    | _ => exact P.elim
/-- isinstance by the law's table of classes -/
theorem cIsiE {ct : CT} (hK : X.K = W.K) (hW : W.ct = ct) : CallR X (.builtin "isinstance") (tl W (isiL ct)) := by
  subst hW
  exact cIsi hK
def ctN : CT := ⟨fun _ => false, fun _ _ => false⟩
end
/-! ### a comprehension's own names, by a check -/
def blkB (N : List Str) (sc scope : Scope) (own : List (Str × Nat)) : Bool :=
  decide (scope.kind = .function) && ((scope.names.all fun y => decide (scope.names.lookup y.1 = some y.2)) && ((own.all fun p => decide (N[p.2]? = some p.1)) &&
    ((scope.names.all fun y => !decide (y.2 = .free) || (decide (sc.names.lookup y.1 = some .cell) || decide (sc.names.lookup y.1 = some .free))) &&
      scope.names.all fun y => !(decide (y.2 = .local) || decide (y.2 = .cell)) || (decide (y.1 ∈ own.map (·.1)) || decide (y.1 ∉ N)))))
theorem blkOk {N : List Str} {sc scope : Scope} {own : List (Str × Nat)} (h : blkB N sc scope own = true) : BlkOk N sc scope own := by
  obtain ⟨h1, h⟩ := He.ba h
  obtain ⟨h2, h⟩ := He.ba h
  obtain ⟨h3, h⟩ := He.ba h
  obtain ⟨h4, h5⟩ := He.ba h
  rw [List.all_eq_true] at h2 h3 h4 h5
  refine ⟨of_decide_eq_true h1, fun y hy => of_decide_eq_true (h2 y hy), fun p hp => of_decide_eq_true (h3 p hp), fun y hy e => ?_, fun y hy e => ?_⟩
  · have z := h4 y hy
    simpa [e] using z
  · have z := h5 y hy
    have e' : (decide (y.2 = .local) || decide (y.2 = .cell)) = true := by simpa using e
    rw [e'] at z
    simpa using z

/-! ### a text without classes -/
def cdB (K : PySem.W.Frag) : Bool := He.eqO (PySem.W.specialIn K (.builtin "object.__class__") "__get__") (some (some (.builtin "getset_descriptor.__get__")))
def ckB (K : PySem.W.Frag) : Bool := decide (PySem.W.takesIn K (.builtin "object.__class__") = some true)
theorem cdB_ok {K : PySem.W.Frag} (h : cdB K = true) : PySem.W.specialIn K (.builtin "object.__class__") "__get__" = some (some (.builtin "getset_descriptor.__get__")) := He.eqO_ok h
theorem ckB_ok {K : PySem.W.Frag} (h : ckB K = true) : PySem.W.takesIn K (.builtin "object.__class__") = some true := of_decide_eq_true h
def mkW (K : PySem.W.Frag) (h1 : PySem.W.specialIn K (.builtin "object.__class__") "__get__" = some (some (.builtin "getset_descriptor.__get__"))) (h2 : PySem.W.takesIn K (.builtin "object.__class__") = some true) : Wd where
  K := K
  cl := fun _ => 0
  fn := []
  fnd := .nil
  ct := ctN
  cg := fun _ h => nomatch h
  cd := h1
  ck := h2
  ctf := fun _ _ _ h => nomatch h
  cty := fun _ _ _ h => nomatch h
  csf := fun _ _ h => nomatch h
/-- the end of a law -/
theorem walk_ofW {l : PySem.W.OpenLaw} {n k : Nat} {q : Program} {loose : List Str} {XP : (Str → Option Value) → Heap → Prop} {YP : World → Heap → Prop} {d : DefRec} {x : Str}
    (hn : l.most = some n) (hn2 : n ≤ sizeLine) (hdf : d.params.defaults = []) (hr : Room k callerA)
    (F : ∀ (w : World) (mg : Str → Option Value) (fa : Addr) (h : Heap), YP w h → h.Ns mainGlobals mg → mg d.name = some (.ref fa) →
      ∃ (K : PySem.W.Frag) (fd : FuncData) (sp : Sp), K.In h ∧ (∀ (s : Shared) (u : Value), BindsTo s fd ⟨[u], []⟩ [(x, u)]) ∧
        (∀ (H : Hp) (a : Addr) (ns : List Int), ns.length ≤ n → Only H → SqL K H a (ns.map V.int) → sp [.ref a] H (fun v _ => v = .bl true) fun _ _ _ => False) ∧
        ∀ base : Heap, K.In base → base.Ns mainGlobals mg → FnOk l.prog w K mg base (L2.CX l.prog w) k fa fd [x] sp) :
    PySem.W.WalkO q loose XP YP l.row.toRowW d [] (fun f vs => PySem.call f vs) := by
  refine Att.attach_call hn hdf fun w s₀ s₁ mg mb fa o pm cd doc a vs ns G Y ho hd hcd hmg hobj hints hlen hg => ?_
  obtain ⟨K, fd, sp, KX, hb, hsp, hF⟩ := F w mg fa _ Y G.T.g hmg
  exact law_call KX G.T.g G.T.b G.T.builtins G.T.nolimit hg hobj hints (Nat.le_trans hlen hn2) hr hF hb (fun H hO hS => hsp H a ns hlen hO hS) fun H e s' ⟨_, _, _, _, _, _, _, _, _, _, _, _, z⟩ => z
end Dn
/-! plain laws: what a reading comes to -/
namespace Dn
open PySem

/-- it comes to a value, of which Q stands -/
def wE {T : Type} (r : R T) (Q : T → Hep → Prop) : Prop := ∃ a h, r = .ok a h ∧ Q a h
/-- it goes on, or returns -/
def wS (r : SR) (N : Sl → Hep → Prop) (V : AV → Hep → Prop) : Prop := match r with
  | .nx s h => N s h
  | .rt v h => V v h
  | _ => False
@[simp] theorem wE_ok {T : Type} {a : T} {h : Hep} {Q : T → Hep → Prop} : wE (.ok a h) Q ↔ Q a h := ⟨fun ⟨_, _, e, q⟩ => (by cases e; exact q), fun q => ⟨_, _, rfl, q⟩⟩
@[simp] theorem wE_bind {T U : Type} {r : R T} {k : T → Hep → R U} {Q : U → Hep → Prop} : wE (r.bind k) Q ↔ wE r fun a h => wE (k a h) Q := by
  constructor
  · rintro ⟨b, h, e, q⟩
    cases r with
    | ok a h1 => exact ⟨a, h1, rfl, b, h, e, q⟩
    | exc t fs h1 => cases e
    | stuck => cases e
  · rintro ⟨a, h, e, b, h2, e2, q⟩
    subst e
    exact ⟨b, h2, e2, q⟩
@[simp] theorem wE_noX {T : Type} {r : R T} {Q : T → Hep → Prop} : wE r.noX Q ↔ wE r Q := by
  cases r <;> simp [R.noX, wE]
@[simp] theorem wE_stuck {T : Type} {Q : T → Hep → Prop} : wE (.stuck : R T) Q ↔ False := ⟨fun ⟨_, _, e, _⟩ => (by cases e), fun h => h.elim⟩
@[simp] theorem wE_exc {T : Type} {t : Nat} {fs : List (Nat × AV)} {h : Hep} {Q : T → Hep → Prop} : wE (.exc t fs h : R T) Q ↔ False := ⟨fun ⟨_, _, e, _⟩ => (by cases e), fun h => h.elim⟩
@[simp] theorem wE_of {T : Type} {o : Op T} {Q : T → Hep → Prop} : wE (R.of o) Q ↔ ∃ a h, o = some (a, h) ∧ Q a h := by
  cases o with
  | none => simp [R.of]
  | some p =>
    obtain ⟨a, h⟩ := p
    show wE (.ok a h) Q ↔ _
    rw [wE_ok]
    exact ⟨fun q => ⟨a, h, rfl, q⟩, fun ⟨_, _, e, q⟩ => by cases e; exact q⟩
@[simp] theorem wS_nx {s : Sl} {h : Hep} {N : Sl → Hep → Prop} {V : AV → Hep → Prop} : wS (.nx s h) N V ↔ N s h := Iff.rfl
@[simp] theorem wS_rt {v : AV} {h : Hep} {N : Sl → Hep → Prop} {V : AV → Hep → Prop} : wS (.rt v h) N V ↔ V v h := Iff.rfl
@[simp] theorem wS_then {r : SR} {k : Sl → Hep → SR} {N : Sl → Hep → Prop} {V : AV → Hep → Prop} : wS (r.then k) N V ↔ wS r (fun s h => wS (k s h) N V) V := by
  cases r <;> simp [SR.then, wS]
@[simp] theorem wS_st {T : Type} {r : R T} {s : Sl} {k : T → Hep → SR} {N : Sl → Hep → Prop} {V : AV → Hep → Prop} : wS (R.st r s k) N V ↔ wE r fun a h => wS (k a h) N V := by
  cases r <;> simp [R.st, wS]
theorem wE_fin {r : SR} {Q : AV → Hep → Prop} : wE r.fin Q ↔ wS r (fun _ h => Q .non h) Q := by
  cases r <;> simp [SR.fin, wS]
theorem wE_imp {T : Type} {r : R T} {Q Q' : T → Hep → Prop} (h : wE r Q) (k : ∀ a h, Q a h → Q' a h) : wE r Q' := by
  obtain ⟨a, h, e, q⟩ := h
  exact ⟨a, h, e, k _ _ q⟩
theorem wS_imp {r : SR} {N N' : Sl → Hep → Prop} {V V' : AV → Hep → Prop} (h : wS r N V) (k : ∀ s h, N s h → N' s h) (l : ∀ s h, V s h → V' s h) : wS r N' V' := by
  cases r with
  | nx s h' => exact k _ _ h
  | rt s h' => exact l _ _ h
  | _ => exact h

/-! the heap goes on: all places but some are kept -/
def Fr (ex : List Nat) (h h' : Hep) : Prop := h.length ≤ h'.length ∧ ∀ i, i < h.length → i ∉ ex → h'[i]? = h[i]?
theorem Fr.refl {ex : List Nat} {h : Hep} : Fr ex h h := ⟨Nat.le_refl _, fun _ _ _ => rfl⟩
theorem Fr.trans {ex : List Nat} {h h' h'' : Hep} (a : Fr ex h h') (b : Fr ex h' h'') : Fr ex h h'' := ⟨Nat.le_trans a.1 b.1, fun i hi he => (b.2 i (Nat.lt_of_lt_of_le hi a.1) he).trans (a.2 i hi he)⟩
theorem Fr.mono {ex ex' : List Nat} {h h' : Hep} (a : Fr ex h h') (k : ∀ i, i < h.length → i ∈ ex → i ∈ ex') : Fr ex' h h' := ⟨a.1, fun i hi he => a.2 i hi fun z => he (k i hi z)⟩
theorem Fr.at {ex : List Nat} {h h' : Hep} (a : Fr ex h h') {i : Nat} {o : AO} (e : h[i]? = some o) (he : i ∉ ex) : h'[i]? = some o := by
  obtain ⟨hl, _⟩ := List.getElem?_eq_some_iff.mp e
  rw [a.2 i hl he]
  exact e
theorem Fr.new {ex : List Nat} {h : Hep} {o : AO} : Fr ex h (h ++ [o]) := ⟨by simp, fun i hi _ => List.getElem?_append_left hi⟩
theorem Fr.app {ex : List Nat} {h g : Hep} : Fr ex h (h ++ g) := ⟨by simp, fun i hi _ => List.getElem?_append_left hi⟩
theorem Fr.set {ex : List Nat} {h : Hep} {i : Nat} {o : AO} (he : i ∈ ex) : Fr ex h (h.set i o) := ⟨by simp, fun j hj hn => List.getElem?_set_ne (fun z => hn (by rw [← z]; exact he))⟩
theorem lt_of {h : Hep} {i : Nat} {o : AO} (e : h[i]? = some o) : i < h.length := (List.getElem?_eq_some_iff.mp e).1

/-! readings, step by step -/
section
variable {T U : Type} {a : T} {h h1 : Hep} {s s1 : Sl} {t : Nat} {fs : List (Nat × AV)} {v : AV}
@[simp] theorem R.bind_ok {k : T → Hep → R U} : (R.ok a h).bind k = k a h := rfl
@[simp] theorem R.bind_exc {k : T → Hep → R U} : (R.exc t fs h : R T).bind k = .exc t fs h := rfl
@[simp] theorem R.bind_stuck {k : T → Hep → R U} : (R.stuck : R T).bind k = .stuck := rfl
@[simp] theorem R.of_some : R.of (some (a, h)) = .ok a h := rfl
@[simp] theorem R.of_none : R.of (none : Op T) = .stuck := rfl
@[simp] theorem R.st_ok {k : T → Hep → SR} : (R.ok a h).st s k = k a h := rfl
@[simp] theorem R.st_exc {k : T → Hep → SR} : (R.exc t fs h : R T).st s k = .exc t fs s h := rfl
@[simp] theorem R.st_stuck {k : T → Hep → SR} : (R.stuck : R T).st s k = .stuck := rfl
@[simp] theorem R.noX_ok : (R.ok a h).noX = .ok a h := rfl
@[simp] theorem SR.then_nx {k : Sl → Hep → SR} : (SR.nx s h).then k = k s h := rfl
@[simp] theorem SR.then_rt {k : Sl → Hep → SR} : (SR.rt v h).then k = .rt v h := rfl
@[simp] theorem SR.then_bk {k : Sl → Hep → SR} : (SR.bk s h).then k = .bk s h := rfl
@[simp] theorem SR.then_ct {k : Sl → Hep → SR} : (SR.ct s h).then k = .ct s h := rfl
@[simp] theorem SR.then_exc {k : Sl → Hep → SR} : (SR.exc t fs s h).then k = .exc t fs s h := rfl
@[simp] theorem SR.then_stuck {k : Sl → Hep → SR} : SR.stuck.then k = .stuck := rfl
@[simp] theorem SR.loop_nx {k : Sl → Hep → SR} : (SR.nx s h).loop k = k s h := rfl
@[simp] theorem SR.loop_ct {k : Sl → Hep → SR} : (SR.ct s h).loop k = k s h := rfl
@[simp] theorem SR.loop_bk {k : Sl → Hep → SR} : (SR.bk s h).loop k = .nx s h := rfl
@[simp] theorem SR.loop_rt {k : Sl → Hep → SR} : (SR.rt v h).loop k = .rt v h := rfl
@[simp] theorem SR.fin_nx : (SR.nx s h).fin = .ok .non h := rfl
@[simp] theorem SR.fin_rt : (SR.rt v h).fin = .ok v h := rfl
@[simp] theorem SR.fin_exc : (SR.exc t fs s h).fin = .exc t fs h := rfl
variable {f g k : DE} {c d : DT} {x y : DS} {fa ga : DA} {r r' : D2} {u : D1} {l : DL} {i j m n q : Nat} {b : Bool} {gt : DG} {gs : DGs} {F : DF} {ix : List Nat} {dfl : List AV} {lo hi : DO} {ty : String} {dm : DMt}
@[simp] theorem xSkip : dSkip s h = .nx s h := rfl
@[simp] theorem xSeq : dSeq x y s h = (x s h).then y := rfl
@[simp] theorem xDrop : dDrop f s h = (f s h).st s fun _ h1 => .nx s h1 := rfl
@[simp] theorem xRet : dRet f s h = (f s h).st s fun v h1 => .rt v h1 := rfl
@[simp] theorem xRetN : dRetN s h = .rt .non h := rfl
@[simp] theorem xSet : dSet i f s h = (f s h).st s fun v h1 => .nx (s.set i (some v)) h1 := rfl
theorem xIfS0 : dIfS c x y s h = (c s h).st s fun b h1 => match b with
  | true => x s h1
  | false => y s h1 := rfl
@[simp] theorem xIfS : dIfS c x y s h = (c s h).st s fun b h1 => if b = true then x s h1 else y s h1 := by
  rw [xIfS0]
  congr
  funext b h1
  cases b <;> rfl
@[simp] theorem xBreak : dBreak s h = .bk s h := rfl
@[simp] theorem xCont : dCont s h = .ct s h := rfl
def AV.nx : AV → Bool
  | .exn _ _ => false
  | _ => true
@[simp] theorem nx_int {i : Int} : (AV.int i).nx = true := rfl
@[simp] theorem nx_bl {i : Bool} : (AV.bl i).nx = true := rfl
@[simp] theorem nx_str {i : Str} : (AV.str i).nx = true := rfl
@[simp] theorem nx_non : AV.non.nx = true := rfl
@[simp] theorem nx_tup {i : List AV} : (AV.tup i).nx = true := rfl
@[simp] theorem nx_rol {i : List AV} : (AV.rol i).nx = true := rfl
@[simp] theorem nx_ref {i : Nat} : (AV.ref i).nx = true := rfl
@[simp] theorem nx_adr {i : Addr} : (AV.adr i).nx = true := rfl
@[simp] theorem nx_ty {i : String} : (AV.ty i).nx = true := rfl
@[simp] theorem nx_cls {i : Nat} : (AV.cls i).nx = true := rfl
def getV (o : Option (Option AV)) (h : Hep) : R AV := match o with
  | some (some v) => if v.nx = true then .ok v h else .stuck
  | _ => .stuck
@[simp] theorem getV_some : getV (some (some v)) h = if v.nx = true then .ok v h else .stuck := rfl
@[simp] theorem getV_none : getV (some none) h = .stuck := rfl
@[simp] theorem getV_no : getV none h = .stuck := rfl
@[simp] theorem xVar : dVar i s h = getV s[i]? h := by
  unfold dVar getV
  cases s[i]? with
  | none => rfl
  | some o =>
    cases o with
    | none => rfl
    | some w => cases w <;> rfl
@[simp] theorem xC : dC v s h = .ok v h := rfl
@[simp] theorem xOp : dOp r f g s h = (f s h).bind fun a h1 => (g s h1).bind fun b h2 => R.of (r a b h2) := rfl
@[simp] theorem xUn : dUn u f s h = (f s h).bind fun a h1 => R.of (u a h1) := rfl
@[simp] theorem xCB : dCB l fa s h = (fa s h).bind fun a h1 => R.of (l a h1) := rfl
@[simp] theorem xNil : dNil s h = .ok [] h := rfl
@[simp] theorem xCons : dCons f fa s h = (f s h).bind fun a h1 => (fa s h1).bind fun b h2 => .ok (a :: b) h2 := rfl
def asB (a : AV) (h : Hep) : R Bool := match a with
  | .bl b => .ok b h
  | _ => .stuck
@[simp] theorem asB_bl : asB (.bl b) h = .ok b h := rfl
@[simp] theorem xTst : dTst f s h = (f s h).bind asB := by
  unfold dTst asB
  rfl
@[simp] theorem xVal : dVal c s h = (c s h).bind fun b h1 => .ok (.bl b) h1 := rfl
@[simp] theorem xAnd : dAnd c d s h = (c s h).bind fun b h1 => if b = true then d s h1 else .ok false h1 := by
  unfold dAnd
  congr
  funext b h1
  cases b <;> rfl
@[simp] theorem xOr : dOr c d s h = (c s h).bind fun b h1 => if b = true then .ok true h1 else d s h1 := by
  unfold dOr
  congr
  funext b h1
  cases b <;> rfl
@[simp] theorem xNot : dNot c s h = (c s h).bind fun b h1 => .ok (!b) h1 := rfl
@[simp] theorem xIf : dIf c f g s h = (c s h).bind fun b h1 => if b = true then f s h1 else g s h1 := by
  unfold dIf
  congr
  funext b h1
  cases b <;> rfl
def andK (g : DE) (s : Sl) (a : AV) (h : Hep) : R AV := match a with
  | .bl true => g s h
  | .bl false => .ok (.bl false) h
  | _ => .stuck
def orK (g : DE) (s : Sl) (a : AV) (h : Hep) : R AV := match a with
  | .bl true => .ok (.bl true) h
  | .bl false => g s h
  | _ => .stuck
@[simp] theorem andK_bl : andK g s (.bl b) h = if b = true then g s h else .ok (.bl false) h := by cases b <;> rfl
@[simp] theorem orK_bl : orK g s (.bl b) h = if b = true then .ok (.bl true) h else g s h := by cases b <;> rfl
@[simp] theorem xAndV : dAndV f g s h = (f s h).bind (andK g s) := by
  unfold dAndV andK
  rfl
@[simp] theorem xOrV : dOrV f g s h = (f s h).bind (orK g s) := by
  unfold dOrV orK
  rfl
def notK (a : AV) (h : Hep) : R AV := match a with
  | .bl b => .ok (.bl (!b)) h
  | _ => .stuck
@[simp] theorem notK_bl : notK (.bl b) h = .ok (.bl (!b)) h := rfl
@[simp] theorem xNotV : dNotV f s h = (f s h).bind notK := by
  unfold dNotV notK
  rfl
def chnK (k : DE) (s : Sl) (r' : D2) (y z : AV) (h : Hep) : R AV := match z with
  | .bl true => (k s h).bind fun c h4 => R.of (r' y c h4)
  | .bl false => .ok (.bl false) h
  | _ => .stuck
@[simp] theorem chnK_bl {y : AV} : chnK k s r' y (.bl b) h = if b = true then (k s h).bind fun c h4 => R.of (r' y c h4) else .ok (.bl false) h := by cases b <;> rfl
@[simp] theorem xChn : dChn r r' f g k s h = (f s h).bind fun a h1 => (g s h1).bind fun b h2 => (R.of (r a b h2)).bind fun z h3 => chnK k s r' b z h3 := by
  unfold dChn chnK
  rfl
@[simp] theorem xLst : dLst fa s h = (fa s h).bind fun xs h1 => R.of (mkL xs h1) := rfl
@[simp] theorem xTup : dTup fa s h = (fa s h).bind fun xs h1 => R.of (mkT xs h1) := rfl
def starK (g : DA) (s : Sl) (o : Option (List AV)) (h : Hep) : R (List AV) := match o with
  | some xs => (g s h).bind fun b h2 => .ok (xs ++ b) h2
  | none => .stuck
@[simp] theorem starK_some {xs : List AV} : starK ga s (some xs) h = (ga s h).bind fun b h2 => .ok (xs ++ b) h2 := rfl
@[simp] theorem starK_none : starK ga s none h = .stuck := rfl
@[simp] theorem xStar : dStar f ga s h = (f s h).bind fun a h1 => starK ga s (seqOf h1 a) h1 := by
  unfold dStar starK
  rfl
def slK (o : Option Sl) (h : Hep) : SR := match o with
  | some s' => .nx s' h
  | none => .stuck
@[simp] theorem slK_some : slK (some s) h = .nx s h := rfl
@[simp] theorem slK_none : slK none h = .stuck := rfl
@[simp] theorem xAsg : dAsg f gt s h = (f s h).st s fun v h1 => slK (gt v s) h1 := by
  unfold dAsg slK
  rfl
def tupK (gs : DGs) (s : Sl) (o : Option (List AV)) : Option Sl := match o with
  | some xs => gs xs s
  | none => none
@[simp] theorem tupK_some {xs : List AV} : tupK gs s (some xs) = gs xs s := rfl
@[simp] theorem xgN {v : AV} : dgN i v s = some (s.set i (some v)) := rfl
@[simp] theorem xgT {v : AV} : dgT gs v s = tupK gs s (tupOf v) := by
  unfold dgT tupK
  rfl
@[simp] theorem xg0 : dg0 [] s = some s := rfl
@[simp] theorem xgC {w : AV} {ws : List AV} : dgC gt gs (w :: ws) s = (gt w s).bind fun s1 => gs ws s1 := rfl
@[simp] theorem tupOf_tup {xs : List AV} : tupOf (.tup xs) = some xs := rfl
def par2K (i j : Nat) (s : Sl) (xs : List AV) (h : Hep) : SR := match xs with
  | [a, b] => .nx ((s.set i (some a)).set j (some b)) h
  | _ => .stuck
@[simp] theorem par2K_two {a b : AV} : par2K i j s [a, b] h = .nx ((s.set i (some a)).set j (some b)) h := rfl
@[simp] theorem xPar2 : dPar2 i j fa s h = (fa s h).st s fun xs h1 => par2K i j s xs h1 := by
  unfold dPar2 par2K
  rfl
def par3K (i j m : Nat) (s : Sl) (xs : List AV) (h : Hep) : SR := match xs with
  | [a, b, c] => .nx (((s.set i (some a)).set j (some b)).set m (some c)) h
  | _ => .stuck
@[simp] theorem par3K_three {a b c : AV} : par3K i j m s [a, b, c] h = .nx (((s.set i (some a)).set j (some b)).set m (some c)) h := rfl
@[simp] theorem xPar3 : dPar3 i j m fa s h = (fa s h).st s fun xs h1 => par3K i j m s xs h1 := by
  unfold dPar3 par3K
  rfl
@[simp] theorem xCall {fk : DA} : dCallC F n m q ix dfl fa fk s h = (fa s h).bind fun a h1 => (fk s h1).bind fun b h2 => if a.length = n ∧ b.length = m ∧ (sel ix (a ++ dfl ++ b)).length = q then F (sel ix (a ++ dfl ++ b)) h2 else .stuck := rfl
@[simp] theorem sel_nil {α : Type} {xs : List α} : sel [] xs = [] := rfl
@[simp] theorem sel_cons {α : Type} {xs : List α} : sel (i :: ix) xs = match xs[i]? with
  | some x => x :: sel ix xs
  | none => sel ix xs := by
  unfold sel
  rw [List.filterMap_cons]
  cases xs[i]? <;> rfl
@[simp] theorem xMt : dMt ty dm f fa s h = (f s h).bind fun a h1 => if tyA ty h1 a = true then (fa s h1).bind fun b h2 => R.of (dm a b h2) else .stuck := by
  unfold dMt
  rfl
def putK1 (s : Sl) (o : Option Hep) : SR := match o with
  | some h4 => .nx s h4
  | none => .stuck
@[simp] theorem putK1_some : putK1 s (some h) = .nx s h := rfl
@[simp] theorem xPut : dPut f g k s h = (k s h).st s fun v h1 => (f s h1).st s fun o h2 => (g s h2).st s fun i h3 => putK1 s (putAV o i v h3) := by
  unfold dPut putK1
  rfl
@[simp] theorem xNoP : dNoP s h = .ok none h := rfl
def prtK (a : AV) (h : Hep) : R (Option Int) := match a with
  | .int i => .ok (some i) h
  | _ => .stuck
@[simp] theorem prtK_int {i : Int} : prtK (.int i) h = .ok (some i) h := rfl
@[simp] theorem xPrt : dPrt f s h = (f s h).bind prtK := by
  unfold dPrt prtK
  rfl
@[simp] theorem xSlc : dSlc f lo hi s h = (f s h).bind fun a h1 => (lo s h1).bind fun l h2 => (hi s h2).bind fun u h3 => R.of (sliceAV a l u h3) := rfl
end

theorem lt1000 {n : Nat} (h : n < 2 ^ 200) : (n < 2 ^ 1000) = True := eq_true (Nat.lt_of_lt_of_le h (Nat.pow_le_pow_right (by decide) (by decide)))
theorem mulOk_l {i j : Int} (h1 : -(2 ^ 64) < i) (h2 : i < 2 ^ 64) : mulOk i j = true := by
  unfold mulOk
  rw [decide_eq_true (⟨h1, h2⟩ : -(2 ^ 64) < i ∧ i < 2 ^ 64), Bool.true_or]
theorem mulOk_r {i j : Int} (h1 : -(2 ^ 64) < j) (h2 : j < 2 ^ 64) : mulOk i j = true := by
  unfold mulOk
  rw [decide_eq_true (⟨h1, h2⟩ : -(2 ^ 64) < j ∧ j < 2 ^ 64), Bool.true_or, Bool.or_true]
section
variable {h : Hep} {i j : Int}
@[simp] theorem add_ii : addAV (.int i) (.int j) h = some (.int (i + j), h) := rfl
@[simp] theorem sub_ii : subAV (.int i) (.int j) h = some (.int (i - j), h) := rfl
@[simp] theorem mul_ii : mulAV (.int i) (.int j) h = if mulOk i j = true then some (.int (i * j), h) else none := rfl
@[simp] theorem fdiv_ii : fdivAV (.int i) (.int j) h = if 0 < j ∧ j < 1073741824 then some (.int (i / j), h) else none := rfl
@[simp] theorem mod_ii : modAV (.int i) (.int j) h = if 0 < j then some (.int (i % j), h) else none := rfl
@[simp] theorem neg_i : negAV (.int i) h = some (.int (-i), h) := rfl
theorem pow_ii (h0 : 0 ≤ j) (h1 : j ≤ 100) (h2 : i.natAbs < 2 ^ 200) : powAV (.int i) (.int j) h = some (.int (i ^ j.toNat), h) := by
  show (if 0 ≤ j ∧ j ≤ 100 ∧ i.natAbs < 2 ^ 1000 then some (AV.int (i ^ j.toNat), h) else none) = _
  rw [if_pos ⟨h0, h1, by rw [lt1000 h2]; trivial⟩]
@[simp] theorem lt_ii : ltAV (.int i) (.int j) h = some (.bl (decide (i < j)), h) := rfl
@[simp] theorem le_ii : leAV (.int i) (.int j) h = some (.bl (decide (i ≤ j)), h) := rfl
@[simp] theorem gt_ii : gtAV (.int i) (.int j) h = some (.bl (decide (j < i)), h) := rfl
@[simp] theorem ge_ii : geAV (.int i) (.int j) h = some (.bl (decide (j ≤ i)), h) := rfl
end
/-- items of a list at a place -/
theorem idx_lst {h : Hep} {n : Nat} {xs : List AV} {i : Int} {v : AV} (e : h[n]? = some (.lst xs)) (k : L2.atI xs i = some v) : idxAV (.ref n) (.int i) h = some (v, h) := by
  simp [idxAV, seqOf, tupOf, lstOf, e, k]
theorem idx_tup {h : Hep} {xs : List AV} {i : Int} {v : AV} (k : L2.atI xs i = some v) : idxAV (.tup xs) (.int i) h = some (v, h) := by
  simp [idxAV, seqOf, tupOf, k]
theorem idx_rol {h : Hep} {xs : List AV} {i : Int} {v : AV} (k : L2.atI xs i = some v) : idxAV (.rol xs) (.int i) h = some (v, h) := by
  simp [idxAV, seqOf, tupOf, lstOf, k]
theorem atI_nat {α : Type} {xs : List α} {n : Nat} {v : α} (e : xs[n]? = some v) : L2.atI xs (n : Int) = some v := by
  obtain ⟨hl, _⟩ := List.getElem?_eq_some_iff.mp e
  unfold L2.atI L2.ixN
  rw [if_pos (by omega), if_pos (by omega)]
  simpa using e
theorem put_lst {h : Hep} {n j : Nat} {xs : List AV} {v : AV} (e : h[n]? = some (.lst xs)) (hj : j < xs.length) : putAV (.ref n) (.int j) v h = some (h.set n (.lst (xs.set j v))) := by
  have : L2.ixN xs.length (j : Int) = some j := by
    unfold L2.ixN
    rw [if_pos (by omega), if_pos (by omega)]
    simp
  simp [putAV, e, this]
@[simp] theorem SZ_eq : SZ = 1000000 := rfl
theorem eq_ii {h : Hep} {i j : Int} : eqAV (.int i) (.int j) h = some (.bl (decide (i = j)), h) := by
  show ((if SeqAt.shaped (.int i) = true ∧ SeqAt.shaped (.int j) = true then some (PyData.eqv (.int i) (.int j)) else none).map fun c => (AV.bl c, h)) = _
  rw [if_pos ⟨rfl, rfl⟩]
  simp [PyData.eqv]
  rfl
theorem Fr.nil {ex : List Nat} {h h' : Hep} (f : Fr [] h h') : Fr ex h h' := f.mono fun _ _ z => by cases z
theorem Fr.set_new {ex : List Nat} {h h' : Hep} {D : Nat} {o : AO} (f : Fr ex h h') (hD : h.length ≤ D) : Fr ex h (h'.set D o) := ⟨by simpa using f.1, fun i hi he => by
  rw [List.getElem?_set_ne (by omega)]
  exact f.2 i hi he⟩
/-- behind the heap's end nothing stands -/
theorem Fr.drop {ex : List Nat} {h h' : Hep} (f : Fr ex h h') (k : ∀ i ∈ ex, h.length ≤ i) : Fr [] h h' := f.mono fun i hi he => absurd hi (Nat.not_lt.mpr (k i he))
theorem idx_new {h : Hep} {xs : List AV} {i : Int} {v : AV} (k : L2.atI xs i = some v) : idxAV (.ref h.length) (.int i) (h ++ [.lst xs]) = some (v, h ++ [.lst xs]) := idx_lst (by simp) k

/-! comprehensions over fixed items -/
theorem lcL_fix {xs : List AV} {g : DG} {te : DE} {D : Nat} {s0 : Sl} (I : Nat → List AV → Hep → Prop) (hx : xs.length ≤ 100000)
    (step : ∀ i acc h x, xs[i]? = some x → I i acc h → h[D]? = some (.lst acc) → ∃ s1 y h2, g x s0 = some s1 ∧ te s1 h = .ok y h2 ∧ h2[D]? = some (.lst acc) ∧ I (i + 1) (acc ++ [y]) (h2.set D (.lst (acc ++ [y])))) :
    ∀ (k i : Nat) (acc : List AV) (h : Hep), k + i = xs.length → I i acc h → h[D]? = some (.lst acc) → acc.length ≤ i → ∃ acc' h', dLcL (.fix xs) g dYes te D s0 (k + 1) i h = .ok (.ref D) h' ∧ I xs.length acc' h' ∧ h'[D]? = some (.lst acc')
  | k, i, acc, h, e, hI, hD, hl => by
    cases z : xs[i]? with
    | none =>
      have hi := List.getElem?_eq_none_iff.mp z
      have : i = xs.length := by omega
      subst this
      refine ⟨acc, h, ?_, hI, hD⟩
      simp only [dLcL, Src.next, z]
    | some x =>
      obtain ⟨hi, _⟩ := List.getElem?_eq_some_iff.mp z
      obtain ⟨k, rfl⟩ : ∃ m, k = m + 1 := ⟨k - 1, by omega⟩
      obtain ⟨s1, y, h2, e1, e2, e3, hI2⟩ := step i acc h x z hI hD
      have hz : acc.length < SZ := by
        have : SZ = 1000000 := rfl
        omega
      have e4 : addAt D y h2 = some (h2.set D (.lst (acc ++ [y]))) := by
        unfold addAt
        rw [e3]
        exact if_pos hz
      have hD2 : (h2.set D (.lst (acc ++ [y])))[D]? = some (.lst (acc ++ [y])) := by
        rw [List.getElem?_set_self (lt_of e3)]
      obtain ⟨acc', h', r1, r2, r3⟩ := lcL_fix I hx step k (i + 1) (acc ++ [y]) _ (by omega) hI2 hD2 (by simp; omega)
      refine ⟨acc', h', ?_, r2, r3⟩
      unfold dLcL
      simp only [Src.next, z, e1, dYes, R.noX_ok, R.bind_ok, e2, e4]
      exact r1
theorem lc_fix {f : DI} {xs : List AV} {g : DG} {te : DE} {vs : List Nat} {s : Sl} {h h1 : Hep} (I : Nat → List AV → Hep → Prop) (ef : f s h = .ok (.fix xs) h1) (hx : xs.length ≤ 100000) (h0 : I 0 [] (h1 ++ [.lst []]))
    (step : ∀ i acc h x, xs[i]? = some x → I i acc h → h[h1.length]? = some (.lst acc) → ∃ s1 y h2, g x (wipeS s vs) = some s1 ∧ te s1 h = .ok y h2 ∧ h2[h1.length]? = some (.lst acc) ∧ I (i + 1) (acc ++ [y]) (h2.set h1.length (.lst (acc ++ [y])))) :
    ∃ acc h', dLc f g dYes te vs s h = .ok (.ref h1.length) h' ∧ I xs.length acc h' ∧ h'[h1.length]? = some (.lst acc) := by
  obtain ⟨acc, h', e, a, b⟩ := lcL_fix (D := h1.length) (s0 := wipeS s vs) I hx step xs.length 0 [] _ (by omega) h0 (by simp) (by simp)
  refine ⟨acc, h', ?_, a, b⟩
  unfold dLc
  rw [ef]
  exact e
theorem two62 : (1000000 : Int) < 2 ^ 62 := by decide
theorem in_bounds {i : Int} (h0 : -1000000 ≤ i) (h1 : i ≤ 1000000) (B : Int) (a : (1000000 : Int) < B) : -B ≤ i ∧ i < B := by omega
theorem dRg1_eq {fa : DA} {s : Sl} {h h1 : Hep} {j : Int} (e : fa s h = .ok [.int j] h1) : dRg1 fa s h = if -(2 ^ 62) ≤ j ∧ j < 2 ^ 62 then .ok (.fix (rngL 0 j.toNat)) h1 else .stuck := by
  unfold dRg1
  rw [e]
  rfl
theorem dRg2_eq {fa : DA} {s : Sl} {h h1 : Hep} {i j : Int} (e : fa s h = .ok [.int i, .int j] h1) : dRg2 fa s h = if -(2 ^ 62) ≤ i ∧ i < 2 ^ 62 ∧ -(2 ^ 62) ≤ j ∧ j < 2 ^ 62 then .ok (.fix (rngL i (j - i).toNat)) h1 else .stuck := by
  unfold dRg2
  rw [e]
  rfl
theorem rg1_ok {fa : DA} {s : Sl} {h h1 : Hep} {j : Int} {n : Nat} (e : fa s h = .ok [.int j] h1) (hj : j = n) (hn : n ≤ 1000000) : dRg1 fa s h = .ok (.fix (rngL 0 n)) h1 := by
  subst hj
  rw [dRg1_eq e, if_pos (in_bounds (by omega) (by omega) _ two62), Int.toNat_natCast]
theorem rg2_ok {fa : DA} {s : Sl} {h h1 : Hep} {i j : Int} {n : Nat} (e : fa s h = .ok [.int i, .int j] h1) (hj : (j - i).toNat = n) (hi0 : -1000000 ≤ i) (hi1 : i ≤ 1000000) (hj0 : -1000000 ≤ j) (hj1 : j ≤ 1000000) : dRg2 fa s h = .ok (.fix (rngL i n)) h1 := by
  subst hj
  have a := in_bounds hi0 hi1 _ two62
  have b := in_bounds hj0 hj1 _ two62
  rw [dRg2_eq e, if_pos ⟨a.1, a.2, b.1, b.2⟩]
@[simp] theorem rngL_length {lo : Int} {n : Nat} : (rngL lo n).length = n := by simp [rngL]

/-! ### data, read off the heap -/
mutual
inductive Dr (h : Hep) : AV → PyData → Prop
  | non : Dr h .non .none
  | bl (b : Bool) : Dr h (.bl b) (.bool b)
  | int (i : Int) : Dr h (.int i) (.int i)
  | str (x : Str) : Dr h (.str x) (.str x)
  | tup {xs : List AV} {ds : List PyData} : DrA h xs ds → Dr h (.tup xs) (.tuple ds)
  | rol {xs : List AV} {ds : List PyData} : DrA h xs ds → Dr h (.rol xs) (.list ds)
  | ref {n : Nat} {xs : List AV} {ds : List PyData} : h[n]? = some (.lst xs) → DrA h xs ds → Dr h (.ref n) (.list ds)
inductive DrA (h : Hep) : List AV → List PyData → Prop
  | nil : DrA h [] []
  | cons {x : AV} {d : PyData} {xs : List AV} {ds : List PyData} : Dr h x d → DrA h xs ds → DrA h (x :: xs) (d :: ds)
end
theorem depth_tup {ds : List PyData} : (PyData.tuple ds).depth = PyData.depthAll ds + 1 := by rw [PyData.depth]
theorem depth_list {ds : List PyData} : (PyData.list ds).depth = PyData.depthAll ds + 1 := by rw [PyData.depth]
theorem depthAll_cons {d : PyData} {ds : List PyData} : PyData.depthAll (d :: ds) = max d.depth (PyData.depthAll ds) := by rw [PyData.depthAll]
mutual
theorem toD_dr {h : Hep} : ∀ {a : AV} {d : PyData}, Dr h a d → ∀ n, d.depth < n → toD n h a = some d
  | _, _, .non, n + 1, _ => rfl
  | _, _, .bl b, n + 1, _ => rfl
  | _, _, .int b, n + 1, _ => rfl
  | _, _, .str b, n + 1, _ => rfl
  | _, _, .tup (xs := xs) (ds := ds) r, n + 1, hn => by
    rw [depth_tup] at hn
    have := toD_drA r n (by omega)
    simp [toD, this]
  | _, _, .rol (xs := xs) (ds := ds) r, n + 1, hn => by
    rw [depth_list] at hn
    have := toD_drA r n (by omega)
    simp [toD, this]
  | _, _, .ref (xs := xs) (ds := ds) e r, n + 1, hn => by
    rw [depth_list] at hn
    have := toD_drA r n (by omega)
    simp [toD, this, e]
theorem toD_drA {h : Hep} : ∀ {xs : List AV} {ds : List PyData}, DrA h xs ds → ∀ n, PyData.depthAll ds < n → xs.mapM (toD n h) = some ds
  | _, _, .nil, n, _ => rfl
  | _, _, .cons r t, n, hn => by
    rw [depthAll_cons] at hn
    have h1 := toD_dr r n (by omega)
    have h2 := toD_drA t n (by omega)
    simp [h1, h2]
end
/-- data that may be compared -/
def DOk (d : PyData) : Prop := d.canLay0 = true ∧ d.depth < 50
theorem eqD_dr {h : Hep} {a b : AV} {d e : PyData} (ra : Dr h a d) (rb : Dr h b e) (o1 : DOk d) (o2 : DOk e) : eqD a b h = some (PyData.eqv d e) := by
  unfold eqD
  rw [toD_dr ra DD (by have := o1.2; have z : DD = 50 := rfl; omega), toD_dr rb DD (by have := o2.2; have z : DD = 50 := rfl; omega)]
  dsimp only
  rw [if_pos]
  constructor
  · unfold SeqAt.shaped
    rw [o1.1, decide_eq_true (by have := o1.2; omega)]
    rfl
  · unfold SeqAt.shaped
    rw [o2.1, decide_eq_true (by have := o2.2; omega)]
    rfl
theorem eqAV_dr {h : Hep} {a b : AV} {d e : PyData} (ra : Dr h a d) (rb : Dr h b e) (o1 : DOk d) (o2 : DOk e) : eqAV a b h = some (.bl (PyData.eqv d e), h) := by
  unfold eqAV
  rw [eqD_dr ra rb o1 o2]
  rfl
theorem neAV_dr {h : Hep} {a b : AV} {d e : PyData} (ra : Dr h a d) (rb : Dr h b e) (o1 : DOk d) (o2 : DOk e) : neAV a b h = some (.bl (!PyData.eqv d e), h) := by
  unfold neAV
  rw [eqD_dr ra rb o1 o2]
  rfl
/-- things that read as data by a function -/
theorem drA_map {T : Type} {h : Hep} {f : T → AV} {g : T → PyData} (k : ∀ x, Dr h (f x) (g x)) : ∀ l : List T, DrA h (l.map f) (l.map g)
  | [] => .nil
  | x :: l => .cons (k x) (drA_map k l)
theorem eqvAll_map {T : Type} [DecidableEq T] {g : T → PyData} (k : ∀ x y, PyData.eqv (g x) (g y) = decide (x = y)) : ∀ l m : List T, PyData.eqvAll (l.map g) (m.map g) = decide (l = m)
  | [], [] => by simp [PyData.eqvAll]
  | [], _ :: _ => by simp [PyData.eqvAll]
  | _ :: _, [] => by simp [PyData.eqvAll]
  | x :: l, y :: m => by
    simp only [List.map_cons, PyData.eqvAll, k, eqvAll_map k l m, List.cons.injEq, Bool.decide_and]
theorem canAll_map {T : Type} {g : T → PyData} (k : ∀ x, (g x).canLay0 = true) : ∀ l : List T, PyData.canLayAll0 (l.map g) = true
  | [] => by simp [PyData.canLayAll0]
  | x :: l => by simp [PyData.canLayAll0, k x, canAll_map k l]
theorem depthAll_map {T : Type} {g : T → PyData} {n : Nat} (k : ∀ x, (g x).depth ≤ n) : ∀ l : List T, PyData.depthAll (l.map g) ≤ n
  | [] => by simp [PyData.depthAll]
  | x :: l => by
    rw [List.map_cons, depthAll_cons]
    have := k x
    have := depthAll_map k l
    omega
theorem dOk_list {T : Type} {g : T → PyData} {n : Nat} (k : ∀ x, (g x).canLay0 = true) (k2 : ∀ x, (g x).depth ≤ n) (hn : n < 48) (l : List T) : DOk (.list (l.map g)) := by
  refine ⟨?_, ?_⟩
  · rw [PyData.canLay0]
    exact canAll_map k l
  · rw [depth_list]
    have := depthAll_map k2 l
    omega
theorem dOk_tup {T : Type} {g : T → PyData} {n : Nat} (k : ∀ x, (g x).canLay0 = true) (k2 : ∀ x, (g x).depth ≤ n) (hn : n < 48) (l : List T) : DOk (.tuple (l.map g)) := by
  refine ⟨?_, ?_⟩
  · rw [PyData.canLay0]
    exact canAll_map k l
  · rw [depth_tup]
    have := depthAll_map k2 l
    omega
theorem eq_ss {h : Hep} {x y : Str} (o1 : DOk (.str x)) (o2 : DOk (.str y)) : eqAV (.str x) (.str y) h = some (.bl (x == y), h) := by
  rw [eqAV_dr (.str x) (.str y) o1 o2, PyData.eqv]
theorem dOk_str {x : Str} (h : PyData.strOk x = true) : DOk (.str x) := ⟨by rw [PyData.canLay0]; exact h, by rw [PyData.depth]; decide⟩
theorem dOk_int {i : Int} : DOk (.int i) := ⟨by rw [PyData.canLay0], by rw [PyData.depth]; decide⟩
theorem eq_st {h : Hep} {x y : Str} {b : Bool} (o1 : PyData.strOk x = true) (o2 : PyData.strOk y = true) (e : (x == y) = b) : eqAV (.str x) (.str y) h = some (.bl b, h) := by
  rw [eq_ss (dOk_str o1) (dOk_str o2), e]
theorem ne_st {h : Hep} {x y : Str} {b : Bool} (o1 : PyData.strOk x = true) (o2 : PyData.strOk y = true) (e : (!(x == y)) = b) : neAV (.str x) (.str y) h = some (.bl b, h) := by
  rw [neAV_dr (.str x) (.str y) (dOk_str o1) (dOk_str o2), PyData.eqv, e]
theorem in_of {a c : AV} {b : Bool} {h : Hep} (e : inB a c h = some b) : inAV a c h = some (.bl b, h) := by
  unfold inAV
  rw [e]
  rfl
theorem cut_tail {xs : List AV} {k : Nat} : cutA xs (some (k : Int)) none = xs.drop k := by
  unfold cutA
  rw [HT.sIx_none, HT.sIx_nat]
  rcases Nat.lt_or_ge k xs.length with h | h
  · rw [Nat.min_eq_left (by omega), List.take_of_length_le (by simp)]
  · rw [Nat.min_eq_right h, List.drop_of_length_le (Nat.le_refl _), List.drop_of_length_le h, List.take_nil]
theorem cut_head {xs : List AV} {k : Nat} : cutA xs none (some (k : Int)) = xs.take k := by
  unfold cutA
  rw [HT.sIx_none, HT.sIx_nat, List.drop_zero, Nat.sub_zero]
  rcases Nat.lt_or_ge k xs.length with h | h
  · rw [Nat.min_eq_left (by omega)]
  · rw [Nat.min_eq_right h, List.take_of_length_le h, List.take_of_length_le (Nat.le_refl _)]
theorem cut_last {xs : List AV} : cutA xs none (some (-1)) = xs.dropLast := by
  unfold cutA HT.sIx
  simp [List.dropLast_eq_take]
  congr 1
  omega
theorem slice_ref {h : Hep} {n : Nat} {xs : List AV} {lo hi : Option Int} (e : h[n]? = some (.lst xs)) (hz : (cutA xs lo hi).length ≤ SZ) : sliceAV (.ref n) lo hi h = some (.ref h.length, h ++ [.lst (cutA xs lo hi)]) := by
  unfold sliceAV
  simp only [tupOf, lstOf, e]
  exact if_pos hz
theorem len_ref {h : Hep} {n : Nat} {xs : List AV} (e : h[n]? = some (.lst xs)) : lenL [.ref n] h = some (.int (xs.length : Nat), h) := by
  simp [lenL, lenA, e]
theorem mkL_ok {h : Hep} {xs : List AV} (hz : xs.length ≤ SZ) : mkL xs h = some (.ref h.length, h ++ [.lst xs]) := if_pos hz
theorem seq_ref {h : Hep} {n : Nat} {xs : List AV} (e : h[n]? = some (.lst xs)) : seqOf h (.ref n) = some xs := by
  simp [seqOf, tupOf, lstOf, e]
@[simp] theorem new_at {h : Hep} {o : AO} : (h ++ [o])[h.length]? = some o := by simp
def starS (i : Nat) (g : DGs) (s : Sl) (o : Option (List AV)) (h1 : Hep) : SR := match o with
  | some xs => if i ≤ xs.length ∧ xs.length ≤ 10000 then slK1 (g (xs.take i ++ [.ref h1.length]) s) (h1 ++ [.lst (xs.drop i)]) else .stuck
  | none => .stuck
where slK1 (o : Option Sl) (h : Hep) : SR := match o with
  | some s' => .nx s' h
  | none => .stuck
@[simp] theorem starS_some {i : Nat} {g : DGs} {s : Sl} {xs : List AV} {h1 : Hep} : starS i g s (some xs) h1 = if i ≤ xs.length ∧ xs.length ≤ 10000 then starS.slK1 (g (xs.take i ++ [.ref h1.length]) s) (h1 ++ [.lst (xs.drop i)]) else .stuck := rfl
@[simp] theorem slK1_some {s : Sl} {h : Hep} : starS.slK1 (some s) h = .nx s h := rfl
@[simp] theorem xStarS {i : Nat} {f : DE} {g : DGs} {s : Sl} {h : Hep} : dStarS i f g s h = (f s h).st s fun v h1 => starS i g s (tupOf v) h1 := by
  unfold dStarS starS starS.slK1
  rfl
theorem rev_ref {h : Hep} {n : Nat} {xs : List AV} (e : h[n]? = some (.lst xs)) (hz : xs.length ≤ 1000000) : ∃ m g, revAV (.ref n) h = some (.ref m, g) ∧ Fr [] h g ∧ h.length ≤ m ∧ g[m]? = some (.lst xs.reverse) := by
  refine ⟨_, _, ?_, Fr.app, Nat.le_refl _, new_at⟩
  simp only [revAV, lstOf, e]
  exact if_pos (by simpa using hz)
theorem mk_new (xs : List AV) (h : Hep) (hz : xs.length ≤ 1000000) : ∃ m g, mkL xs h = some (.ref m, g) ∧ Fr [] h g ∧ h.length ≤ m ∧ g[m]? = some (.lst xs) := ⟨_, _, mkL_ok hz, Fr.app, Nat.le_refl _, new_at⟩
theorem sl_new {xs : List AV} {h : Hep} {n : Nat} (lo hi : Option Int) (e : h[n]? = some (.lst xs)) (hz : (cutA xs lo hi).length ≤ 1000000) : ∃ m g, sliceAV (.ref n) lo hi h = some (.ref m, g) ∧ Fr [] h g ∧ h.length ≤ m ∧ g[m]? = some (.lst (cutA xs lo hi)) := ⟨_, _, slice_ref e hz, Fr.app, Nat.le_refl _, new_at⟩
theorem add_ll {h : Hep} {m n : Nat} {xs ys : List AV} (e1 : h[m]? = some (.lst xs)) (e2 : h[n]? = some (.lst ys)) (hz : xs.length + ys.length ≤ 1000000) : ∃ k g, addAV (.ref m) (.ref n) h = some (.ref k, g) ∧ Fr [] h g ∧ h.length ≤ k ∧ g[k]? = some (.lst (xs ++ ys)) := by
  refine ⟨_, _, ?_, Fr.app, Nat.le_refl _, new_at⟩
  simp only [addAV, e1, e2]
  exact if_pos (by simpa using hz)
/-- is the list empty -/
theorem eq_nil {T : Type} {f : T → AV} {p : T → PyData} {h : Hep} {m n : Nat} {l : List T} {d : Nat} (kr : ∀ x, Dr h (f x) (p x)) (k1 : ∀ x, (p x).canLay0 = true) (k2 : ∀ x, (p x).depth ≤ d) (hd : d < 48) (e1 : h[m]? = some (.lst (l.map f))) (e2 : h[n]? = some (.lst [])) :
    eqAV (.ref m) (.ref n) h = some (.bl l.isEmpty, h) := by
  rw [eqAV_dr (.ref e1 (drA_map kr l)) (.ref e2 .nil) (dOk_list k1 k2 hd l) ⟨by rw [PyData.canLay0, PyData.canLayAll0], by rw [depth_list, PyData.depthAll]; decide⟩, PyData.eqv]
  cases l <;> simp [PyData.eqvAll]
theorem two63 : (1000000 : Int) < 2 ^ 63 := by decide
theorem pop_last {h : Hep} {n : Nat} {xs : List AV} {x : AV} (e : h[n]? = some (.lst xs)) (hx : xs.getLast? = some x) : mPop (.ref n) [.int (-1)] h = some (x, h.set n (.lst xs.dropLast)) := by
  have hl : lstAt h (.ref n) = some (n, xs) := by simp [lstAt, e]
  have hb := in_bounds (i := -1) (by omega) (by omega) _ two63
  have hne : 0 < xs.length := by
    cases xs with
    | nil => cases hx
    | cons a r => simp
  have hi : seqIndex? (-1) xs.length = some (xs.length - 1) := by
    unfold seqIndex?
    simp
    omega
  have hk : xs[xs.length - 1]? = some x := by rw [← List.getLast?_eq_getElem?]; exact hx
  unfold mPop
  rw [hl]
  dsimp only
  rw [if_pos hb, hi]
  dsimp only
  rw [hk]
  dsimp only
  rw [List.eraseIdx_eq_dropLast (by omega)]
theorem pop_first {h : Hep} {n : Nat} {xs : List AV} {x : AV} (e : h[n]? = some (.lst (x :: xs))) : mPop (.ref n) [.int 0] h = some (x, h.set n (.lst xs)) := by
  have hl : lstAt h (.ref n) = some (n, x :: xs) := by simp [lstAt, e]
  have hb := in_bounds (i := 0) (by omega) (by omega) _ two63
  have hi : seqIndex? 0 (x :: xs).length = some 0 := by
    unfold seqIndex?
    simp
  unfold mPop
  rw [hl]
  dsimp only
  rw [if_pos hb, hi]
  rfl
theorem app_ok {h : Hep} {n : Nat} {xs : List AV} {x : AV} (e : h[n]? = some (.lst xs)) (hz : xs.length < 1000000) : mAppend (.ref n) [x] h = some (.non, h.set n (.lst (xs ++ [x]))) := by
  have hl : lstAt h (.ref n) = some (n, xs) := by simp [lstAt, e]
  unfold mAppend
  rw [hl]
  exact if_pos hz
theorem tyA_lst {h : Hep} {n : Nat} {xs : List AV} (e : h[n]? = some (.lst xs)) : tyA "list" h (.ref n) = true := by
  simp [tyA, e]
theorem mul_ref {h : Hep} {m : Nat} {xs : List AV} {k : Nat} (e : h[m]? = some (.lst xs)) (hk : k ≤ 1000) (hz : xs.length ≤ 1000) : ∃ n g, mulAV (.ref m) (.int k) h = some (.ref n, g) ∧ Fr [] h g ∧ h.length ≤ n ∧ g[n]? = some (.lst (List.replicate k xs).flatten) := by
  have hb := in_bounds (i := (k : Int)) (by omega) (by omega) _ two63
  refine ⟨_, _, ?_, Fr.app, Nat.le_refl _, new_at⟩
  unfold mulAV
  dsimp only
  rw [e]
  dsimp only
  rw [if_pos hb, Int.toNat_natCast]
  refine if_pos ?_
  have hl : (List.replicate k xs).flatten.length = k * xs.length := by simp
  rw [hl]
  calc k * xs.length ≤ 1000 * 1000 := Nat.mul_le_mul hk hz
    _ ≤ SZ := Nat.le_refl _
/-! for over fixed items, all turns go on -/
theorem loop_fix {xs : List AV} {g : DG} {body : DS} (I : Nat → Sl → Hep → Prop) (step : ∀ i s h x, xs[i]? = some x → I i s h → ∃ s1 s2 h2, g x s = some s1 ∧ (body s1 h = .nx s2 h2 ∨ body s1 h = .ct s2 h2) ∧ I (i + 1) s2 h2) :
    ∀ (k i : Nat) (s : Sl) (h : Hep), k + i = xs.length → I i s h → ∃ s' h', dLoop (.fix xs) g body (k + 1) i s h = .nx s' h' ∧ I xs.length s' h'
  | k, i, s, h, e, hI => by
    cases z : xs[i]? with
    | none =>
      have hi := List.getElem?_eq_none_iff.mp z
      have : i = xs.length := by omega
      subst this
      refine ⟨s, h, ?_, hI⟩
      simp only [dLoop, Src.next, z]
    | some x =>
      obtain ⟨hi, _⟩ := List.getElem?_eq_some_iff.mp z
      obtain ⟨k, rfl⟩ : ∃ m, k = m + 1 := ⟨k - 1, by omega⟩
      obtain ⟨s1, s2, h2, e1, e2, hI2⟩ := step i s h x z hI
      obtain ⟨s', h', r1, r2⟩ := loop_fix I step k (i + 1) s2 h2 (by omega) hI2
      refine ⟨s', h', ?_, r2⟩
      unfold dLoop
      simp only [Src.next, z, e1]
      rcases e2 with e2 | e2
      · rw [e2]
        exact r1
      · rw [e2]
        exact r1
theorem for_fix {f : DI} {xs : List AV} {g : DG} {body : DS} {s : Sl} {h h1 : Hep} (I : Nat → Sl → Hep → Prop) (ef : f s h = .ok (.fix xs) h1) (h0 : I 0 s h1)
    (step : ∀ i s h x, xs[i]? = some x → I i s h → ∃ s1 s2 h2, g x s = some s1 ∧ (body s1 h = .nx s2 h2 ∨ body s1 h = .ct s2 h2) ∧ I (i + 1) s2 h2) : ∃ s' h', dFor f g body s h = .nx s' h' ∧ I xs.length s' h' := by
  obtain ⟨s', h', e, r⟩ := loop_fix I step xs.length 0 s h1 (by omega) h0
  refine ⟨s', h', ?_, r⟩
  unfold dFor
  rw [ef]
  exact e
theorem lr2_ok {i j : Int} {n : Nat} {h : Hep} (hj : (j - i).toNat = n) (hi0 : -1000000 ≤ i) (hi1 : i ≤ 1000000) (hj0 : -1000000 ≤ j) (hj1 : j ≤ 1000000) (hn : n ≤ 1000000) : ∃ m g, lr2L [.int i, .int j] h = some (.ref m, g) ∧ Fr [] h g ∧ h.length ≤ m ∧ g[m]? = some (.lst (rngL i n)) := by
  subst hj
  have a := in_bounds hi0 hi1 _ two62
  have b := in_bounds hj0 hj1 _ two62
  exact ⟨_, _, if_pos ⟨a.1, a.2, b.1, b.2, hn⟩, Fr.app, Nat.le_refl _, new_at⟩
end Dn
namespace Q
open PySem Dn
abbrev ct0 : CT := ctN
def k_SINGLE : AV := .tup [(.str "pop"), (.str "pop_left"), (.str "reverse")]
def k_ADDING : AV := .tup [(.str "append"), (.str "append_left")]
def p__law_source : DS := (dSeq (dSet 2 (dC (.int 0))) (dSeq (dIfS (dTst (dOp ltAV (dVar 1) (dCB lenL (dCons (dVar 0) dNil))))
  (dSet 2 (dOp idxAV (dVar 0) (dVar 1)))
  dSkip) (dSeq (dSet 3 (dCB absL (dCons (dVar 2) dNil))) (dRet (dLst (dCons (dOp mulAV (dVar 3) (dCB intL (dCons (dOp geAV (dVar 3) (dOp powAV (dC (.int 10)) (dC (.int 18)))) dNil))) (dCons (dOp addAV (dOp addAV (dOp addAV (dOp modAV (dVar 2) (dC (.int 1000000000000000009))) (dOp mulAV (dOp mulAV (dC (.int 9439)) (dVar 1)) (dVar 1))) (dOp mulAV (dC (.int 47)) (dVar 1))) (dC (.int 13))) (dCons (dC (.int 0)) dNil))))))))
def f__law_source : DF := dFun 4 p__law_source
def p__law_draw : DS := (dSeq (dIfS (dTst (dOp gtAV (dOp idxAV (dVar 0) (dC (.int 0))) (dC (.int 0))))
  (dSeq (dSet 2 (dOp modAV (dOp idxAV (dVar 0) (dC (.int 0))) (dVar 1))) (dSeq (dPut (dVar 0) (dC (.int 0)) (dOp fdivAV (dOp idxAV (dVar 0) (dC (.int 0))) (dVar 1))) (dRet (dVar 2))))
  dSkip) (dSeq (dSet 3 (dTup (dCons (dC (.int 2147483647)) (dCons (dC (.int 2147483629)) (dCons (dC (.int 2147483587)) (dCons (dC (.int 2147483579)) (dCons (dC (.int 2147483563)) (dCons (dC (.int 2147483549)) (dCons (dC (.int 2147483543)) (dCons (dC (.int 2147483497)) dNil)))))))))) (dSeq (dPut (dVar 0) (dC (.int 2)) (dOp addAV (dOp idxAV (dVar 0) (dC (.int 2))) (dC (.int 1)))) (dSeq (dSet 4 (dOp idxAV (dVar 0) (dC (.int 2)))) (dSeq (dSet 5 (dOp addAV (dOp addAV (dOp mulAV (dOp idxAV (dVar 0) (dC (.int 1))) (dOp addAV (dOp mulAV (dC (.int 2)) (dVar 4)) (dC (.int 11)))) (dOp mulAV (dOp mulAV (dC (.int 6553)) (dVar 4)) (dVar 4))) (dC (.int 89)))) (dSeq (dSet 6 (dOp modAV (dOp powAV (dVar 5) (dC (.int 3))) (dOp idxAV (dVar 3) (dOp modAV (dVar 4) (dC (.int 8)))))) (dRet (dOp modAV (dOp fdivAV (dOp modAV (dOp mulAV (dVar 6) (dOp addAV (dOp fdivAV (dVar 6) (dC (.int 4093))) (dC (.int 31)))) (dOp idxAV (dVar 3) (dOp modAV (dOp addAV (dVar 4) (dC (.int 5))) (dC (.int 8))))) (dC (.int 16))) (dVar 1)))))))))
def f__law_draw : DF := dFun 7 p__law_draw
def p__law_deed : DS := (dSeq (dSet 1 (dCallC f__law_draw 2 0 2 [0, 1] [] (dCons (dVar 0) (dCons (dC (.int 9)) dNil)) dNil)) (dSeq (dIfS (dTst (dOp ltAV (dVar 1) (dC (.int 2))))
  (dRet (dTup (dCons (dOp idxAV (dLst (dCons (dC (.str "append")) (dCons (dC (.str "append_left")) dNil))) (dVar 1)) (dCons (dOp idxAV (dLst (dCons (dC (.str "x")) (dCons (dC (.str "y")) (dCons (dC (.int 5)) dNil)))) (dCallC f__law_draw 2 0 2 [0, 1] [] (dCons (dVar 0) (dCons (dC (.int 3)) dNil)) dNil)) dNil))))
  dSkip) (dSeq (dIfS (dTst (dOp ltAV (dVar 1) (dC (.int 4))))
  (dRet (dTup (dCons (dOp idxAV (dLst (dCons (dC (.str "pop")) (dCons (dC (.str "pop_left")) dNil))) (dOp subAV (dVar 1) (dC (.int 2)))) dNil)))
  dSkip) (dSeq (dIfS (dTst (dOp eqAV (dVar 1) (dC (.int 4))))
  (dRet (dTup (dCons (dC (.str "reverse")) dNil)))
  dSkip) (dRet (dTup (dCons (dC (.str "rotate")) (dCons (dOp subAV (dCallC f__law_draw 2 0 2 [0, 1] [] (dCons (dVar 0) (dCons (dC (.int 19)) dNil)) dNil) (dC (.int 9))) dNil))))))))
def f__law_deed : DF := dFun 2 p__law_deed
def e__law_row_1 : DE := (dCallC f__law_deed 1 0 1 [0] [] (dCons (dVar 0) dNil) dNil)
def p__law_row : DS := (dRet (dCB tupleL (dCons (dLc (dRg1 (dCons (dCallC f__law_draw 2 0 2 [0, 1] [] (dCons (dVar 0) (dCons (dOp addAV (dVar 1) (dC (.int 1))) dNil)) dNil) dNil)) (dgN 2) dYes e__law_row_1 [2]) dNil)))
def f__law_row : DF := dFun 3 p__law_row
def p_is_integer : DS := (dRet (dAndV (dCB (isiL ct0) (dCons (dVar 0) (dCons (dC (.ty "int")) dNil))) (dNotV (dCB (isiL ct0) (dCons (dVar 0) (dCons (dC (.ty "bool")) dNil))))))
def f_is_integer : DF := dFun 1 p_is_integer
def e_is_word_1 : DE := (dOp inAV (dVar 1) (dC (.str "abcdefghijklmnopqrstuvwxyz")))
def p_is_word : DS := (dRet (dAndV (dCB (isiL ct0) (dCons (dVar 0) (dCons (dC (.ty "str")) dNil))) (dAndV (dChn leAV leAV (dC (.int 1)) (dCB lenL (dCons (dVar 0) dNil)) (dC (.int 6))) (dCB allL (dCons (dLc (dSrc (dVar 0)) (dgN 1) dYes e_is_word_1 [1]) dNil)))))
def f_is_word : DF := dFun 2 p_is_word
def p_is_short : DS := (dRet (dAndV (dCallC f_is_integer 1 0 1 [0] [] (dCons (dVar 0) dNil) dNil) (dOp ltAV (dCB absL (dCons (dVar 0) dNil)) (dOp powAV (dC (.int 10)) (dC (.int 12))))))
def f_is_short : DF := dFun 1 p_is_short
def p_is_item : DS := (dRet (dOrV (dCallC f_is_word 1 0 1 [0] [] (dCons (dVar 0) dNil) dNil) (dCallC f_is_short 1 0 1 [0] [] (dCons (dVar 0) dNil) dNil)))
def f_is_item : DF := dFun 1 p_is_item
def p_is_deed : DS := (dSeq (dIfS (dOr (dNot (dTst (dCB (isiL ct0) (dCons (dVar 0) (dCons (dC (.ty "tuple")) dNil))))) (dOr (dNot (dTst (dChn leAV leAV (dC (.int 1)) (dCB lenL (dCons (dVar 0) dNil)) (dC (.int 2))))) (dNot (dTst (dCB (isiL ct0) (dCons (dOp idxAV (dVar 0) (dC (.int 0))) (dCons (dC (.ty "str")) dNil)))))))
  (dRet (dC (.bl false)))
  dSkip) (dSeq (dIfS (dTst (dOp eqAV (dCB lenL (dCons (dVar 0) dNil)) (dC (.int 1))))
  (dRet (dOp inAV (dOp idxAV (dVar 0) (dC (.int 0))) (dC k_SINGLE)))
  dSkip) (dSeq (dAsg (dVar 0) (dgT (dgC (dgN 1) (dgC (dgN 2) dg0)))) (dSeq (dIfS (dTst (dOp eqAV (dVar 1) (dC (.str "rotate"))))
  (dRet (dAndV (dCallC f_is_integer 1 0 1 [0] [] (dCons (dVar 2) dNil) dNil) (dOp leAV (dCB absL (dCons (dVar 2) dNil)) (dC (.int 9)))))
  dSkip) (dRet (dAndV (dOp inAV (dVar 1) (dC k_ADDING)) (dCallC f_is_item 1 0 1 [0] [] (dCons (dVar 2) dNil) dNil)))))))
def f_is_deed : DF := dFun 3 p_is_deed
def e_is_row_1 : DE := (dCallC f_is_deed 1 0 1 [0] [] (dCons (dVar 1) dNil) dNil)
def p_is_row : DS := (dRet (dAndV (dCB (isiL ct0) (dCons (dVar 0) (dCons (dC (.ty "tuple")) dNil))) (dAndV (dOp leAV (dCB lenL (dCons (dVar 0) dNil)) (dC (.int 12))) (dCB allL (dCons (dLc (dSrc (dVar 0)) (dgN 1) dYes e_is_row_1 [1]) dNil)))))
def f_is_row : DF := dFun 2 p_is_row
def p_added : DS := (dSeq (dAsg (dVar 1) (dgT (dgC (dgN 3) (dgC (dgN 4) dg0)))) (dSeq (dIfS (dTst (dOp eqAV (dVar 3) (dC (.str "append"))))
  (dSeq (dSet 5 (dLst (dStar (dVar 0) (dCons (dTup (dCons (dC (.str "item")) (dCons (dVar 4) dNil))) dNil)))) (dRet (dIf (dAnd (dTst (dOp notNonAV (dVar 2) (dC .non))) (dTst (dOp gtAV (dCB lenL (dCons (dVar 5) dNil)) (dVar 2)))) (dSlc (dVar 5) (dPrt (dC (.int 1))) dNoP) (dVar 5))))
  dSkip) (dSeq (dSet 5 (dLst (dCons (dTup (dCons (dC (.str "item")) (dCons (dVar 4) dNil))) (dStar (dVar 0) dNil)))) (dRet (dIf (dAnd (dTst (dOp notNonAV (dVar 2) (dC .non))) (dTst (dOp gtAV (dCB lenL (dCons (dVar 5) dNil)) (dVar 2)))) (dSlc (dVar 5) dNoP (dPrt (dUn negAV (dC (.int 1))))) (dVar 5))))))
def f_added : DF := dFun 6 p_added
def p_turned : DS := (dSeq (dStarS 1 (dVar 1) (dgC (dgN 2) (dgC (dgN 3) dg0))) (dSeq (dIfS (dOr (dTst (dOp eqAV (dVar 2) (dC (.str "reverse")))) (dTst (dOp eqAV (dVar 0) (dLst dNil))))
  (dRet (dUn revAV (dVar 0)))
  dSkip) (dSeq (dSet 4 (dOp modAV (dUn negAV (dOp idxAV (dVar 3) (dC (.int 0)))) (dCB lenL (dCons (dVar 0) dNil)))) (dRet (dOp addAV (dSlc (dVar 0) (dPrt (dVar 4)) dNoP) (dSlc (dVar 0) dNoP (dPrt (dVar 4))))))))
def f_turned : DF := dFun 5 p_turned
def e_carried_out_1 : DE := (dTup (dCons (dC (.str "at")) (dCons (dVar 5) dNil)))
def b_carried_out_1 : DS := (dIfS (dTst (dOp inAV (dOp idxAV (dVar 7) (dC (.int 0))) (dC k_ADDING)))
  (dSet 3 (dCallC f_added 3 0 3 [0, 1, 2] [] (dCons (dVar 3) (dCons (dVar 7) (dCons (dVar 2) dNil))) dNil))
  (dIfS (dTst (dOp inAV (dOp idxAV (dVar 7) (dC (.int 0))) (dTup (dCons (dC (.str "rotate")) (dCons (dC (.str "reverse")) dNil)))))
  (dSet 3 (dCallC f_turned 2 0 2 [0, 1] [] (dCons (dVar 3) (dCons (dVar 7) dNil)) dNil))
  (dIfS (dTst (dOp eqAV (dVar 3) (dLst dNil)))
  (dRet (dTup (dCons (dC (.str "empty")) (dCons (dVar 6) dNil))))
  (dDrop (dMt "list" mAppend (dVar 4) (dCons (dMt "list" mPop (dVar 3) (dCons (dIf (dTst (dOp eqAV (dVar 7) (dTup (dCons (dC (.str "pop")) dNil)))) (dUn negAV (dC (.int 1))) (dC (.int 0))) dNil)) dNil))))))
def p_carried_out : DS := (dSeq (dPar2 3 4 (dCons (dLc (dRg1 (dCons (dVar 1) dNil)) (dgN 5) dYes e_carried_out_1 [5]) (dCons (dLst dNil) dNil))) (dSeq (dFor (dEnm (dVar 0)) (dgT (dgC (dgN 6) (dgC (dgN 7) dg0))) b_carried_out_1) (dRet (dTup (dCons (dC (.str "done")) (dCons (dCB tupleL (dCons (dVar 3) dNil)) (dCons (dCB tupleL (dCons (dVar 4) dNil)) dNil)))))))
def f_carried_out : DF := dFun 8 p_carried_out
def p_effect : DS := (dSeq (dIfS (dNot (dTst (dCallC f_is_row 1 0 1 [0] [] (dCons (dVar 0) dNil) dNil)))
  dStuck
  dSkip) (dSeq (dSet 3 (dIf (dTst (dOp isNonAV (dVar 2) (dC .non))) (dC (.int 1000)) (dVar 2))) (dSeq (dIfS (dOr (dNot (dTst (dCallC f_is_integer 1 0 1 [0] [] (dCons (dVar 1) dNil) dNil))) (dNot (dTst (dChn leAV leAV (dC (.int 0)) (dVar 1) (dVar 3)))))
  dStuck
  dSkip) (dRet (dCallC f_carried_out 3 0 3 [0, 1, 2] [] (dCons (dVar 0) (dCons (dVar 1) (dCons (dVar 2) dNil))) dNil)))))
def f_effect : DF := dFun 4 p_effect
def p__law_near : DS := (dSeq (dAsg (dVar 0) (dgT (dgC (dgN 2) (dgC (dgN 3) dg0)))) (dSeq (dIfS (dTst (dOp eqAV (dVar 2) (dC (.str "item"))))
  (dRet (dVar 0))
  dSkip) (dRet (dIf (dTst (dOp ltAV (dVar 3) (dC (.int 121)))) (dTup (dCons (dC (.str "left")) (dCons (dVar 3) dNil))) (dIf (dTst (dOp ltAV (dOp subAV (dVar 1) (dVar 3)) (dC (.int 121)))) (dTup (dCons (dC (.str "right")) (dCons (dOp subAV (dVar 1) (dVar 3)) dNil))) (dTup (dCons (dC (.str "middle")) (dCons (dVar 3) dNil))))))))
def f__law_near : DF := dFun 4 p__law_near
def b__law_outline_1 : DS := (dSeq (dSet 5 (dCallC f__law_near 2 0 2 [0, 1] [] (dCons (dVar 4) (dCons (dVar 1) dNil)) dNil)) (dSeq (dIfS (dTst (dOp neAV (dOp idxAV (dVar 5) (dC (.int 0))) (dC (.str "middle"))))
  (dDrop (dMt "list" mAppend (dVar 2) (dCons (dVar 5) dNil)))
  (dIfS (dTst (dOp eqAV (dVar 3) (dLst dNil)))
  (dDrop (dMt "list" mAppend (dVar 2) (dCons (dC (.str "middle")) dNil)))
  dSkip)) (dSet 3 (dOp addAV (dVar 3) (dOp mulAV (dLst (dCons (dOp idxAV (dVar 5) (dC (.int 1))) dNil)) (dCB intL (dCons (dOp eqAV (dOp idxAV (dVar 5) (dC (.int 0))) (dC (.str "middle"))) dNil)))))))
def p__law_outline : DS := (dSeq (dPar2 2 3 (dCons (dLst dNil) (dCons (dLst dNil) dNil))) (dSeq (dFor (dSrc (dVar 0)) (dgN 4) b__law_outline_1) (dSeq (dSet 6 (dLR2 (dC (.int 121)) (dOp subAV (dVar 1) (dC (.int 120))))) (dRet (dTup (dCons (dVar 2) (dCons (dLst (dCons (dOp eqAV (dVar 3) (dVar 6)) (dCons (dOp eqAV (dVar 3) (dUn revAV (dVar 6))) dNil))) dNil)))))))
def f__law_outline : DF := dFun 7 p__law_outline
def e_law_1 : DE := (dCallC f__law_near 2 0 2 [0, 1] [] (dCons (dVar 9) (dCons (dVar 5) dNil)) dNil)
def e_law_2 : DE := (dCallC f__law_near 2 0 2 [0, 1] [] (dCons (dVar 9) (dCons (dVar 6) dNil)) dNil)
def b_law_1 : DS := (dSeq (dSet 4 (dCallC f__law_row 2 0 2 [0, 1] [] (dCons (dVar 2) (dCons (dC (.int 12)) dNil)) dNil)) (dSeq (dAsg (dTup (dCons (dOp addAV (dC (.int 250)) (dCallC f__law_draw 2 0 2 [0, 1] [] (dCons (dVar 2) (dCons (dC (.int 700)) dNil)) dNil)) (dCons (dOp addAV (dC (.int 250)) (dCallC f__law_draw 2 0 2 [0, 1] [] (dCons (dVar 2) (dCons (dC (.int 700)) dNil)) dNil)) dNil))) (dgT (dgC (dgN 5) (dgC (dgN 6) dg0)))) (dSeq (dPar2 7 8 (dCons (dCallC f_effect 2 0 3 [0, 1, 2] [.non] (dCons (dVar 4) (dCons (dVar 5) dNil)) dNil) (dCons (dCallC f_effect 2 1 3 [0, 1, 2] [] (dCons (dVar 4) (dCons (dVar 6) dNil)) (dCons (dC (.int 1000)) dNil)) dNil))) (dSeq (dIfS (dOr (dTst (dOp neAV (dOp idxAV (dVar 7) (dC (.int 0))) (dC (.str "done")))) (dTst (dOp neAV (dOp idxAV (dVar 8) (dC (.int 0))) (dC (.str "done")))))
  (dRet (dC (.bl false)))
  dSkip) (dSeq (dIfS (dTst (dOp neAV (dLc (dSrc (dOp idxAV (dVar 7) (dC (.int 2)))) (dgN 9) dYes e_law_1 [9]) (dLc (dSrc (dOp idxAV (dVar 8) (dC (.int 2)))) (dgN 9) dYes e_law_2 [9])))
  (dRet (dC (.bl false)))
  dSkip) (dSeq (dAsg (dCallC f__law_outline 2 0 2 [0, 1] [] (dCons (dOp idxAV (dVar 7) (dC (.int 1))) (dCons (dVar 5) dNil)) dNil) (dgT (dgC (dgN 10) (dgC (dgN 11) dg0)))) (dIfS (dOr (dTst (dOp notInAV (dC (.bl true)) (dVar 11))) (dTst (dOp neAV (dTup (dCons (dVar 10) (dCons (dVar 11) dNil))) (dCallC f__law_outline 2 0 2 [0, 1] [] (dCons (dOp idxAV (dVar 8) (dC (.int 1))) (dCons (dVar 6) dNil)) dNil))))
  (dRet (dC (.bl false)))
  dSkip)))))))
def b_law_2 : DS := (dSeq (dSet 2 (dCallC f__law_source 2 0 2 [0, 1] [] (dCons (dVar 0) (dCons (dVar 1) dNil)) dNil)) (dFor (dRg1 (dCons (dC (.int 4)) dNil)) (dgN 3) b_law_1))
def p_law : DS := (dSeq (dFor (dRg1 (dCons (dCB maxL (dCons (dC (.int 2)) (dCons (dCB minL (dCons (dC (.int 3)) (dCons (dCB lenL (dCons (dVar 0) dNil)) dNil))) dNil))) dNil)) (dgN 1) b_law_2) (dRet (dC (.bl true))))
def f_law : DF := dFun 12 p_law
theorem isint_int (i : Int) (h : Hep) : f_is_integer [.int i] h = .ok (.bl true) h := by rfl
theorem short_int (i : Int) (h : Hep) (hi : i.natAbs < 10 ^ 12) : f_is_short [.int i] h = .ok (.bl true) h := by
  simp [f_is_short, dFun, dStart, p_is_short, isint_int, absL, pow_ii]
  omega
/-- a source: its parts -/
structure Sr (h : Hep) (s : Nat) (y : Int) (k : Nat) : Prop where
  ex : ∃ x z, h[s]? = some (.lst [.int x, .int y, .int z]) ∧ 0 ≤ x ∧ 0 ≤ z ∧ z ≤ k
  y0 : 0 ≤ y
  y1 : y < 2000000000000000000
theorem primes {r : Int} (h0 : 0 ≤ r) (h1 : r < 8) : ∃ p, L2.atI [AV.int 2147483647, .int 2147483629, .int 2147483587, .int 2147483579, .int 2147483563, .int 2147483549, .int 2147483543, .int 2147483497] r = some (.int p) ∧ 2147483497 ≤ p ∧ p < 2147483648 := by
  have : r = 0 ∨ r = 1 ∨ r = 2 ∨ r = 3 ∨ r = 4 ∨ r = 5 ∨ r = 6 ∨ r = 7 := by omega
  rcases this with rfl | rfl | rfl | rfl | rfl | rfl | rfl | rfl <;> exact ⟨_, rfl, by decide, by decide⟩
theorem at3_0 {a b c : AV} : L2.atI [a, b, c] 0 = some a := rfl
theorem at3_1 {a b c : AV} : L2.atI [a, b, c] 1 = some b := rfl
theorem at3_2 {a b c : AV} : L2.atI [a, b, c] 2 = some c := rfl
theorem draw_ok {h : Hep} {s k : Nat} {y m : Int} (S : Sr h s y k) (hm : 0 < m) (hm2 : m < 1000000) (hk : k < 100000) :
    ∃ d h', 0 ≤ d ∧ d < m ∧ f__law_draw [.ref s, .int m] h = .ok (.int d) h' ∧ Fr [s] h h' ∧ h'.length = h.length ∧ Sr h' s y (k + 1) := by
  obtain ⟨⟨x, z, e, hx, hz, hz2⟩, hy, hy2⟩ := S
  have hl := (List.getElem?_eq_some_iff.mp e).1
  have fin : ∀ d x' z' : Int, 0 ≤ d → d < m → 0 ≤ x' → 0 ≤ z' → z' ≤ z + 1 → f__law_draw [.ref s, .int m] h = .ok (.int d) (h.set s (.lst [.int x', .int y, .int z'])) →
      ∃ d h', 0 ≤ d ∧ d < m ∧ f__law_draw [.ref s, .int m] h = .ok (.int d) h' ∧ Fr [s] h h' ∧ h'.length = h.length ∧ Sr h' s y (k + 1) := fun d x' z' h1 h2 h3 h4 h5 he =>
    ⟨d, _, h1, h2, he, Fr.set (by simp), by simp, ⟨x', z', by simp [hl], h3, h4, by omega⟩, hy, hy2⟩
  by_cases h0 : 0 < x
  · refine fin (x % m) (x / m) z (Int.emod_nonneg _ (by omega)) (Int.emod_lt_of_pos _ hm) (Int.ediv_nonneg hx (by omega)) hz (by omega) ?_
    have hm3 : m < 1073741824 := by omega
    simp [f__law_draw, dFun, dStart, p__law_draw, idxAV, seqOf, tupOf, lstOf, e, putAV, at3_0, at3_1, at3_2, L2.ixN, h0, hm, hm3]
  · have hb0 : 0 ≤ y * (2 * (z + 1) + 11) := Int.mul_nonneg hy (by omega)
    have hb1 : y * (2 * (z + 1) + 11) ≤ 2000000000000000000 * 300000 := Int.mul_le_mul (by omega) (by omega) (by omega) (by omega)
    have hb2 : 0 ≤ (z + 1) * (z + 1) := Int.mul_nonneg (by omega) (by omega)
    have hb3 : (z + 1) * (z + 1) ≤ 100001 * 100001 := Int.mul_le_mul (by omega) (by omega) (by omega) (by omega)
    have hb : (y * (2 * (z + 1) + 11) + 6553 * (z + 1) * (z + 1) + 89).natAbs < 2 ^ 200 := by
      have : 6553 * (z + 1) * (z + 1) = 6553 * ((z + 1) * (z + 1)) := Int.mul_assoc _ _ _
      rw [this]
      omega
    have p1 : ∃ p, L2.atI [AV.int 2147483647, .int 2147483629, .int 2147483587, .int 2147483579, .int 2147483563, .int 2147483549, .int 2147483543, .int 2147483497] ((z + 1) % 8) = some (.int p) ∧ 2147483497 ≤ p ∧ p < 2147483648 := primes (by omega) (by omega)
    have p2 : ∃ p, L2.atI [AV.int 2147483647, .int 2147483629, .int 2147483587, .int 2147483579, .int 2147483563, .int 2147483549, .int 2147483543, .int 2147483497] ((z + 1 + 5) % 8) = some (.int p) ∧ 2147483497 ≤ p ∧ p < 2147483648 := primes (by omega) (by omega)
    obtain ⟨q1, e1, l1, u1⟩ := p1
    obtain ⟨q2, e2, l2, u2⟩ := p2
    have m1 : ∀ j, mulOk y j = true := fun j => mulOk_l (by omega) (by omega)
    have m2 : ∀ j, mulOk 2 j = true := fun j => mulOk_l (by omega) (by omega)
    have m3 : ∀ j, mulOk 6553 j = true := fun j => mulOk_l (by omega) (by omega)
    have m4 : ∀ i, mulOk i (z + 1) = true := fun j => mulOk_r (by omega) (by omega)
    generalize hB : y * (2 * (z + 1) + 11) + 6553 * (z + 1) * (z + 1) + 89 = B at hb
    have f0 : 0 ≤ B ^ 3 % q1 := Int.emod_nonneg _ (by omega)
    have f1 : B ^ 3 % q1 < q1 := Int.emod_lt_of_pos _ (by omega)
    have pw : ∀ h, powAV (.int B) (.int 3) h = some (.int (B ^ 3), h) := fun h => pow_ii (by omega) (by omega) hb
    generalize hA : B ^ 3 % q1 = A at f0 f1
    have m5 : ∀ j, mulOk A j = true := fun j => mulOk_l (by omega) (by omega)
    have hm3 : m < 1073741824 := by omega
    have w1 : 0 < q1 := by omega
    have w2 : 0 < q2 := by omega
    refine fin (A * (A / 4093 + 31) % q2 / 16 % m) x (z + 1) (Int.emod_nonneg _ (by omega)) (Int.emod_lt_of_pos _ hm) hx (by omega) (by omega) ?_
    have i0 : idxAV (.ref s) (.int 0) h = some (.int x, h) := idx_lst e rfl
    have i2 : idxAV (.ref s) (.int 2) h = some (.int z, h) := idx_lst e rfl
    have pz : putAV (.ref s) (.int 2) (.int (z + 1)) h = some (h.set s (.lst [.int x, .int y, .int (z + 1)])) := put_lst (j := 2) e (by simp)
    have e3 : (h.set s (.lst [.int x, .int y, .int (z + 1)]))[s]? = some (.lst [.int x, .int y, .int (z + 1)]) := by simp [hl]
    generalize h.set s (.lst [.int x, .int y, .int (z + 1)]) = g at pz e3 ⊢
    have j1 : idxAV (.ref s) (.int 1) g = some (.int y, g) := idx_lst e3 rfl
    have j2 : idxAV (.ref s) (.int 2) g = some (.int (z + 1), g) := idx_lst e3 rfl
    have t1 := idx_tup (h := g) e1
    have t2 := idx_tup (h := g) e2
    simp [f__law_draw, dFun, dStart, p__law_draw, i0, i2, pz, j1, j2, t1, t2, h0, mkT, m1, m2, m3, m4, m5, hB, pw, hA, w1, w2, hm, hm3]
/-- the items, the deeds of random rows -/
inductive Iv where
  | x | y | f
def Iv.av : Iv → AV
  | .x => .str "x"
  | .y => .str "y"
  | .f => .int 5
inductive Dd where
  | app (v : Iv) | appL (v : Iv) | pop | popL | rev | rot (i : Int)
def Dd.av : Dd → AV
  | .app v => .tup [.str "append", v.av]
  | .appL v => .tup [.str "append_left", v.av]
  | .pop => .tup [.str "pop"]
  | .popL => .tup [.str "pop_left"]
  | .rev => .tup [.str "reverse"]
  | .rot i => .tup [.str "rotate", .int i]
def Dd.ok : Dd → Prop
  | .rot i => -9 ≤ i ∧ i ≤ 9
  | _ => True
theorem Sr.fr {h h' : Hep} {s k k' : Nat} {y : Int} (S : Sr h s y k) (f : Fr [] h h') (hk : k ≤ k') : Sr h' s y k' := by
  obtain ⟨⟨x, z, e, a, b, c⟩, y0, y1⟩ := S
  exact ⟨⟨x, z, f.at e (by simp), a, b, by omega⟩, y0, y1⟩
theorem deed_ok {h : Hep} {s k : Nat} {y : Int} (S : Sr h s y k) (hk : k < 90000) :
    ∃ d h', f__law_deed [.ref s] h = .ok (Dd.av d) h' ∧ Fr [s] h h' ∧ Sr h' s y (k + 2) ∧ d.ok := by
  obtain ⟨w, h1, w0, w1, e1, r1, l1, S1⟩ := draw_ok (m := 9) S (by omega) (by omega) (by omega)
  by_cases c1 : w < 2
  · have S2 : Sr ((h1 ++ [.lst [.str "append", .str "append_left"]]) ++ [.lst [.str "x", .str "y", .int 5]]) s y (k + 1) := (S1.fr Fr.app (Nat.le_refl _)).fr Fr.app (Nat.le_refl _)
    obtain ⟨v, h2, v0, v1, e2, r2, l2, S3⟩ := draw_ok (m := 3) S2 (by omega) (by omega) (by omega)
    have fr : Fr [s] h h2 := ((r1.trans Fr.app).trans Fr.app).trans r2
    have i1 : ∀ a, L2.atI [AV.str "append", .str "append_left"] w = some a → idxAV (.ref h1.length) (.int w) (h1 ++ [.lst [.str "append", .str "append_left"]]) = some (a, h1 ++ [.lst [.str "append", .str "append_left"]]) := fun a k => idx_new k
    have e3 : h2[(h1 ++ [AO.lst [.str "append", .str "append_left"]]).length]? = some (.lst [.str "x", .str "y", .int 5]) := r2.at (by simp) (by
      have := lt_of S1.ex.choose_spec.choose_spec.1
      simp
      omega)
    have i2 : ∀ a, L2.atI [AV.str "x", .str "y", .int 5] v = some a → idxAV (.ref (h1.length + 1)) (.int v) h2 = some (a, h2) := fun a k => by
      have := idx_lst (i := v) e3 k
      simpa using this
    have hw : w = 0 ∨ w = 1 := by omega
    have hv : v = 0 ∨ v = 1 ∨ v = 2 := by omega
    have go : ∀ (a b : AV) (d : Dd), L2.atI [AV.str "append", .str "append_left"] w = some a → L2.atI [AV.str "x", .str "y", .int 5] v = some b → d.av = .tup [a, b] → d.ok → ∃ d h', f__law_deed [.ref s] h = .ok (Dd.av d) h' ∧ Fr [s] h h' ∧ Sr h' s y (k + 2) ∧ d.ok := fun a b d ha hb hd ho => by
      refine ⟨d, h2, ?_, fr, S3, ho⟩
      rw [hd]
      simp only [List.append_assoc, List.cons_append, List.nil_append] at e2
      simp [f__law_deed, dFun, dStart, p__law_deed, e1, c1, mkL, i1 a ha, e2, i2 b hb, mkT]
    rcases hw with rfl | rfl
    · rcases hv with rfl | rfl | rfl
      · exact go _ _ (.app .x) rfl rfl rfl trivial
      · exact go _ _ (.app .y) rfl rfl rfl trivial
      · exact go _ _ (.app .f) rfl rfl rfl trivial
    · rcases hv with rfl | rfl | rfl
      · exact go _ _ (.appL .x) rfl rfl rfl trivial
      · exact go _ _ (.appL .y) rfl rfl rfl trivial
      · exact go _ _ (.appL .f) rfl rfl rfl trivial
  · by_cases c2 : w < 4
    · have i1 : ∀ a, L2.atI [AV.str "pop", .str "pop_left"] (w - 2) = some a → idxAV (.ref h1.length) (.int (w - 2)) (h1 ++ [.lst [.str "pop", .str "pop_left"]]) = some (a, h1 ++ [.lst [.str "pop", .str "pop_left"]]) := fun a k => idx_new k
      have go : ∀ (a : AV) (d : Dd), L2.atI [AV.str "pop", .str "pop_left"] (w - 2) = some a → d.av = .tup [a] → d.ok → ∃ d h', f__law_deed [.ref s] h = .ok (Dd.av d) h' ∧ Fr [s] h h' ∧ Sr h' s y (k + 2) ∧ d.ok := fun a d ha hd ho => by
        refine ⟨d, h1 ++ [.lst [.str "pop", .str "pop_left"]], ?_, r1.trans Fr.app, (S1.fr Fr.app (Nat.le_refl _)).fr Fr.refl (by omega), ho⟩
        rw [hd]
        simp [f__law_deed, dFun, dStart, p__law_deed, e1, c1, c2, mkL, i1 a ha, mkT]
      have hw : w = 2 ∨ w = 3 := by omega
      rcases hw with rfl | rfl
      · exact go _ .pop rfl rfl trivial
      · exact go _ .popL rfl rfl trivial
    · by_cases c3 : w = 4
      · refine ⟨.rev, h1, ?_, r1, S1.fr Fr.refl (by omega), trivial⟩
        have q4 : ∀ g, eqAV (.int 4) (.int 4) g = some (.bl true, g) := fun g => rfl
        subst c3
        simp [f__law_deed, dFun, dStart, p__law_deed, e1, q4, mkT, Dd.av]
      · obtain ⟨v, h2, v0, v1, e2, r2, l2, S3⟩ := draw_ok (m := 19) S1 (by omega) (by omega) (by omega)
        refine ⟨.rot (v - 9), h2, ?_, r1.trans r2, S3, by constructor <;> omega⟩
        have q4 : ∀ g, eqAV (.int w) (.int 4) g = some (.bl false, g) := fun g => by
          rw [eq_ii]
          simp [c3]
        simp [f__law_deed, dFun, dStart, p__law_deed, e1, e2, c1, c2, q4, mkT, Dd.av]
theorem row_ok {h : Hep} {s k : Nat} {y : Int} (S : Sr h s y k) (hk : k < 80000) :
    ∃ (ds : List Dd) (h' : Hep), f__law_row [.ref s, .int 12] h = .ok (.tup (ds.map Dd.av)) h' ∧ Fr [s] h h' ∧ Sr h' s y (k + 30) ∧ ds.length ≤ 12 ∧ ∀ d ∈ ds, d.ok := by
  obtain ⟨w, h1, w0, w1, e1, r1, l1, S1⟩ := draw_ok (m := 13) S (by omega) (by omega) (by omega)
  obtain ⟨n, rfl⟩ : ∃ n : Nat, w = n := ⟨w.toNat, by omega⟩
  have hs : s < h1.length := lt_of S1.ex.choose_spec.choose_spec.1
  have ef : dRg1 (dCons (dCallC f__law_draw 2 0 2 [0, 1] [] (dCons (dVar 0) (dCons (dOp addAV (dVar 1) (dC (.int 1))) dNil)) dNil) dNil) [some (.ref s), some (.int 12), none] h = .ok (.fix (rngL 0 n)) h1 := rg1_ok (j := n) (by simp [e1]) rfl (by omega)
  have lr : (rngL 0 n).length = n := rngL_length
  obtain ⟨acc, h', e, ⟨ds, ea, hl, ho, fr, S2⟩, eD⟩ := lc_fix (te := e__law_row_1) (g := dgN 2) (vs := [2])
    (fun i acc g => ∃ ds : List Dd, acc = ds.map Dd.av ∧ ds.length = i ∧ (∀ d ∈ ds, d.ok) ∧ Fr [s] h1 g ∧ Sr g s y (k + 1 + 2 * i)) ef (by omega) ⟨[], rfl, rfl, by simp, Fr.app, S1.fr Fr.app (by omega)⟩
    (fun i acc g x hx ⟨ds, ea, hl, ho, fr, S2⟩ eD => by
      have hi : i < n := by
        have := (List.getElem?_eq_some_iff.mp hx).1
        omega
      obtain ⟨d, g2, e2, r2, S3, hd⟩ := deed_ok S2 (by omega)
      have ne : h1.length ∉ [s] := by simp; omega
      refine ⟨[some (.ref s), some (.int 12), some x], d.av, g2, rfl, ?_, r2.at eD ne, ds ++ [d], by simp [ea], by simp [hl], ?_, (fr.trans r2).set_new (Nat.le_refl _), ?_⟩
      · simp [e__law_row_1, e2]
      · intro d' hd'
        rcases List.mem_append.mp hd' with z | z
        · exact ho d' z
        · rw [List.mem_singleton.mp z]
          exact hd
      · obtain ⟨⟨x, z, e, a, b, c⟩, y0, y1⟩ := S3
        exact ⟨⟨x, z, by rw [List.getElem?_set_ne (by omega)]; exact e, a, b, by omega⟩, y0, y1⟩)
  rw [lr] at hl S2
  subst ea
  refine ⟨ds, h', ?_, r1.trans fr, S2.fr Fr.refl (by omega), by omega, ho⟩
  simp [f__law_row, dFun, dStart, p__law_row, e, tupleL, seqOf, tupOf, lstOf, eD]
theorem isi_str (x : Str) (h : Hep) : isiL ct0 [.str x, .ty "str"] h = some (.bl true, h) := rfl
theorem isi_int (i : Int) (h : Hep) : isiL ct0 [.int i, .ty "str"] h = some (.bl false, h) := rfl
theorem isi_tup (i : List AV) (h : Hep) : isiL ct0 [.tup i, .ty "tuple"] h = some (.bl true, h) := rfl
theorem word_x (h : Hep) : f_is_word [.str "x"] h = .ok (.bl true) (h ++ [.lst [.bl true]]) := by
  have e1 : lenL [.str "x"] h = some (.int 1, h) := rfl
  have e2 : ∀ g, inAV (.str ⟨#[120]⟩) (.str "abcdefghijklmnopqrstuvwxyz") g = some (.bl true, g) := fun g => by
    have z : inStr ⟨#[120]⟩ "abcdefghijklmnopqrstuvwxyz" = true := by decide +kernel
    simp [inAV, inB, z]
  have e3 : (("x" : Str).cps.toList.map fun c => AV.str ⟨#[c]⟩) = [.str ⟨#[120]⟩] := rfl
  simp [f_is_word, dFun, dStart, p_is_word, e_is_word_1, isi_str, e1, dLc, dSrc, dLcL, Src.next, Src.len, e2, e3, wipeS, dYes, addAt, allL, lstOf, blsOf]
theorem word_y (h : Hep) : f_is_word [.str "y"] h = .ok (.bl true) (h ++ [.lst [.bl true]]) := by
  have e1 : lenL [.str "y"] h = some (.int 1, h) := rfl
  have e2 : ∀ g, inAV (.str ⟨#[121]⟩) (.str "abcdefghijklmnopqrstuvwxyz") g = some (.bl true, g) := fun g => by
    have z : inStr ⟨#[121]⟩ "abcdefghijklmnopqrstuvwxyz" = true := by decide +kernel
    simp [inAV, inB, z]
  have e3 : (("y" : Str).cps.toList.map fun c => AV.str ⟨#[c]⟩) = [.str ⟨#[121]⟩] := rfl
  simp [f_is_word, dFun, dStart, p_is_word, e_is_word_1, isi_str, e1, dLc, dSrc, dLcL, Src.next, Src.len, e2, e3, wipeS, dYes, addAt, allL, lstOf, blsOf]
theorem word_i (i : Int) (h : Hep) : f_is_word [.int i] h = .ok (.bl false) h := by
  simp [f_is_word, dFun, dStart, p_is_word, isi_int]
theorem item_ok (v : Iv) (h : Hep) : ∃ g, f_is_item [v.av] h = .ok (.bl true) (h ++ g) := by
  cases v with
  | x => exact ⟨_, by simp [Iv.av, f_is_item, dFun, dStart, p_is_item, word_x]; rfl⟩
  | y => exact ⟨_, by simp [Iv.av, f_is_item, dFun, dStart, p_is_item, word_y]; rfl⟩
  | f => exact ⟨[], by simp [Iv.av, f_is_item, dFun, dStart, p_is_item, word_i, short_int]⟩
theorem len_tup (xs : List AV) (h : Hep) : lenL [.tup xs] h = some (.int xs.length, h) := rfl
theorem isint1 (i : Int) (h : Hep) : isiL ct0 [.int i, .ty "int"] h = some (.bl true, h) := rfl
theorem deedis (d : Dd) (hd : d.ok) (h : Hep) : ∃ g, f_is_deed [d.av] h = .ok (.bl true) (h ++ g) := by
  cases d with
  | pop =>
    have e1 : ∀ h, inAV (.str "pop") k_SINGLE h = some (.bl true, h) := fun h => in_of (by rfl)
    have e2 : ∀ h, idxAV (.tup [.str "pop"]) (.int 0) h = some (.str "pop", h) := fun h => idx_tup rfl
    exact ⟨[], by simp [Dd.av, f_is_deed, dFun, dStart, p_is_deed, isi_tup, len_tup, isi_str, e1, e2, eq_ii]⟩
  | popL =>
    have e1 : ∀ h, inAV (.str "pop_left") k_SINGLE h = some (.bl true, h) := fun h => in_of (by rfl)
    have e2 : ∀ h, idxAV (.tup [.str "pop_left"]) (.int 0) h = some (.str "pop_left", h) := fun h => idx_tup rfl
    exact ⟨[], by simp [Dd.av, f_is_deed, dFun, dStart, p_is_deed, isi_tup, len_tup, isi_str, e1, e2, eq_ii]⟩
  | rev =>
    have e1 : ∀ h, inAV (.str "reverse") k_SINGLE h = some (.bl true, h) := fun h => in_of (by rfl)
    have e2 : ∀ h, idxAV (.tup [.str "reverse"]) (.int 0) h = some (.str "reverse", h) := fun h => idx_tup rfl
    exact ⟨[], by simp [Dd.av, f_is_deed, dFun, dStart, p_is_deed, isi_tup, len_tup, isi_str, e1, e2, eq_ii]⟩
  | rot i =>
    have e2 : ∀ h, idxAV (.tup [.str "rotate", .int i]) (.int 0) h = some (.str "rotate", h) := fun h => idx_tup rfl
    have e3 : ∀ h, eqAV (.str "rotate") (.str "rotate") h = some (.bl true, h) := fun h => eq_st (by decide +kernel) (by decide +kernel) (by decide +kernel)
    have h1 : (i.natAbs : Int) ≤ 9 := by
      obtain ⟨a, b⟩ := hd
      omega
    exact ⟨[], by simp [Dd.av, f_is_deed, dFun, dStart, p_is_deed, isi_tup, len_tup, isi_str, e2, e3, eq_ii, isint_int, absL, h1]⟩
  | app v =>
    obtain ⟨g, e⟩ := item_ok v h
    have e2 : ∀ h, idxAV (.tup [.str "append", v.av]) (.int 0) h = some (.str "append", h) := fun h => idx_tup rfl
    have e3 : ∀ h, eqAV (.str "append") (.str "rotate") h = some (.bl false, h) := fun h => eq_st (by decide +kernel) (by decide +kernel) (by decide +kernel)
    have e1 : ∀ h, inAV (.str "append") k_ADDING h = some (.bl true, h) := fun h => in_of (by rfl)
    have nx : v.av.nx = true := by cases v <;> rfl
    exact ⟨g, by simp [Dd.av, f_is_deed, dFun, dStart, p_is_deed, isi_tup, len_tup, isi_str, e1, e2, e3, eq_ii, e, nx]⟩
  | appL v =>
    obtain ⟨g, e⟩ := item_ok v h
    have e2 : ∀ h, idxAV (.tup [.str "append_left", v.av]) (.int 0) h = some (.str "append_left", h) := fun h => idx_tup rfl
    have e3 : ∀ h, eqAV (.str "append_left") (.str "rotate") h = some (.bl false, h) := fun h => eq_st (by decide +kernel) (by decide +kernel) (by decide +kernel)
    have e1 : ∀ h, inAV (.str "append_left") k_ADDING h = some (.bl true, h) := fun h => in_of (by rfl)
    have nx : v.av.nx = true := by cases v <;> rfl
    exact ⟨g, by simp [Dd.av, f_is_deed, dFun, dStart, p_is_deed, isi_tup, len_tup, isi_str, e1, e2, e3, eq_ii, e, nx]⟩
theorem bls_rep : ∀ n, blsOf (List.replicate n (.bl true)) = some (List.replicate n true)
  | 0 => rfl
  | n + 1 => by
    rw [List.replicate_succ, List.replicate_succ]
    show (blsOf (List.replicate n (.bl true))).map (true :: ·) = _
    rw [bls_rep n]
    rfl
theorem Dd.nx (d : Dd) : d.av.nx = true := by cases d <;> rfl
theorem isrow (ds : List Dd) (hl : ds.length ≤ 12) (ho : ∀ d ∈ ds, d.ok) (h : Hep) : ∃ h', f_is_row [.tup (ds.map Dd.av)] h = .ok (.bl true) h' ∧ Fr [] h h' := by
  have ef : dSrc (dVar 0) [some (.tup (ds.map Dd.av)), none] h = .ok (.fix (ds.map Dd.av)) h := by simp [dSrc]
  obtain ⟨acc, h', e, ⟨ea, fr⟩, eD⟩ := lc_fix (te := e_is_row_1) (g := dgN 1) (vs := [1])
    (fun i acc g => acc = List.replicate i (.bl true) ∧ Fr [] h g) ef (by simp; omega) ⟨rfl, Fr.app⟩
    (fun i acc g x hx ⟨ea, fr⟩ eD => by
      rw [List.getElem?_map] at hx
      obtain ⟨d, hd, rfl⟩ := Option.map_eq_some_iff.mp hx
      obtain ⟨g2, e2⟩ := deedis d (ho d (List.mem_of_getElem? hd)) g
      have f2 : Fr [] g (g ++ g2) := Fr.app
      refine ⟨[some (.tup (ds.map Dd.av)), some d.av], .bl true, g ++ g2, rfl, by simp [e_is_row_1, e2, d.nx], f2.at eD (by simp), by rw [ea, List.replicate_succ'], (fr.trans f2).set_new (Nat.le_refl _)⟩)
  have q : allL [.ref h.length] h' = some (.bl true, h') := by
    simp [allL, lstOf, eD, ea, bls_rep]
  refine ⟨h', ?_, fr⟩
  have hz : ((ds.map Dd.av).length : Int) ≤ 12 := by
    rw [List.length_map]
    omega
  simp only [List.length_map] at hz
  simp [f_is_row, dFun, dStart, p_is_row, isi_tup, len_tup, hz, e, q]
inductive Itm where
  | at (i : Nat) | item (v : Iv)
def Itm.av : Itm → AV
  | .at i => .tup [.str "at", .int i]
  | .item v => .tup [.str "item", v.av]
def bav : Option Nat → AV
  | none => .non
  | some k => .int k
def addR (b : Option Nat) (l : List Itm) (v : Iv) : List Itm := match b with
  | some k => if k < l.length + 1 then (l ++ [Itm.item v]).drop 1 else l ++ [Itm.item v]
  | none => l ++ [Itm.item v]
def addL (b : Option Nat) (l : List Itm) (v : Iv) : List Itm := match b with
  | some k => if k < l.length + 1 then (Itm.item v :: l).dropLast else Itm.item v :: l
  | none => Itm.item v :: l
theorem Iv.nx (v : Iv) : v.av.nx = true := by cases v <;> rfl
theorem addR_ok {b : Option Nat} {l : List Itm} {v : Iv} {h : Hep} {n : Nat} (e : h[n]? = some (.lst (l.map Itm.av))) (hl : l.length ≤ 2000) :
    ∃ m h', f_added [.ref n, (Dd.app v).av, bav b] h = .ok (.ref m) h' ∧ Fr [] h h' ∧ h.length ≤ m ∧ h'[m]? = some (.lst ((addR b l v).map Itm.av)) := by
  have q1 : ∀ h, eqAV (.str "append") (.str "append") h = some (.bl true, h) := fun h => eq_st (by decide +kernel) (by decide +kernel) (by decide +kernel)
  obtain ⟨m, g, q2, f2, hm, e2⟩ := mk_new (l.map Itm.av ++ [.tup [.str "item", v.av]]) h (by simp; omega)
  have q3 := len_ref e2
  have fin : f_added [.ref n, (Dd.app v).av, bav b] h = .ok (.ref m) g → addR b l v = l ++ [Itm.item v] → ∃ m h', f_added [.ref n, (Dd.app v).av, bav b] h = .ok (.ref m) h' ∧ Fr [] h h' ∧ h.length ≤ m ∧ h'[m]? = some (.lst ((addR b l v).map Itm.av)) := fun h1 h2 =>
    ⟨m, g, h1, f2, hm, by rw [h2, e2]; simp [Itm.av]⟩
  cases b with
  | none =>
    refine fin ?_ rfl
    simp [Dd.av, bav, f_added, dFun, dStart, p_added, q1, v.nx, mkT, seq_ref e, q2, notNonAV, isNonB]
  | some k =>
    by_cases hk : k < l.length + 1
    · obtain ⟨m3, g3, q4, f4, hm4, e4⟩ := sl_new (some ((1 : Nat) : Int)) none e2 (by rw [cut_tail]; simp; omega)
      rw [cut_tail] at e4
      refine ⟨m3, g3, ?_, f2.trans f4, Nat.le_trans f2.1 hm4, ?_⟩
      · have hk' : (k : Int) < (l.length : Int) + 1 := by omega
        have q4' : sliceAV (.ref m) (some 1) none g = some (.ref m3, g3) := q4
        simp [Dd.av, bav, f_added, dFun, dStart, p_added, q1, v.nx, mkT, seq_ref e, q2, notNonAV, isNonB, q3, hk', q4']
      · rw [e4]
        simp [addR, hk, Itm.av]
    · refine fin ?_ (by simp [addR, hk])
      have hk' : ¬ (k : Int) < (l.length : Int) + 1 := by omega
      simp [Dd.av, bav, f_added, dFun, dStart, p_added, q1, v.nx, mkT, seq_ref e, q2, notNonAV, isNonB, q3, hk']
theorem addL_ok {b : Option Nat} {l : List Itm} {v : Iv} {h : Hep} {n : Nat} (e : h[n]? = some (.lst (l.map Itm.av))) (hl : l.length ≤ 2000) :
    ∃ m h', f_added [.ref n, (Dd.appL v).av, bav b] h = .ok (.ref m) h' ∧ Fr [] h h' ∧ h.length ≤ m ∧ h'[m]? = some (.lst ((addL b l v).map Itm.av)) := by
  have q1 : ∀ h, eqAV (.str "append_left") (.str "append") h = some (.bl false, h) := fun h => eq_st (by decide +kernel) (by decide +kernel) (by decide +kernel)
  obtain ⟨m, g, q2, f2, hm, e2⟩ := mk_new (.tup [.str "item", v.av] :: l.map Itm.av) h (by simp; omega)
  have q3 := len_ref e2
  have fin : f_added [.ref n, (Dd.appL v).av, bav b] h = .ok (.ref m) g → addL b l v = Itm.item v :: l → ∃ m h', f_added [.ref n, (Dd.appL v).av, bav b] h = .ok (.ref m) h' ∧ Fr [] h h' ∧ h.length ≤ m ∧ h'[m]? = some (.lst ((addL b l v).map Itm.av)) := fun h1 h2 =>
    ⟨m, g, h1, f2, hm, by rw [h2, e2]; simp [Itm.av]⟩
  cases b with
  | none =>
    refine fin ?_ rfl
    simp [Dd.av, bav, f_added, dFun, dStart, p_added, q1, v.nx, mkT, seq_ref e, q2, notNonAV, isNonB]
  | some k =>
    by_cases hk : k < l.length + 1
    · obtain ⟨m3, g3, q4, f4, hm4, e4⟩ := sl_new none (some (-1)) e2 (by rw [cut_last]; simp; omega)
      rw [cut_last] at e4
      refine ⟨m3, g3, ?_, f2.trans f4, Nat.le_trans f2.1 hm4, ?_⟩
      · have hk' : (k : Int) < (l.length : Int) + 1 := by omega
        simp [Dd.av, bav, f_added, dFun, dStart, p_added, q1, v.nx, mkT, seq_ref e, q2, notNonAV, isNonB, q3, hk', q4]
      · rw [e4]
        simp [addL, hk, Itm.av]
    · refine fin ?_ (by simp [addL, hk])
      have hk' : ¬ (k : Int) < (l.length : Int) + 1 := by omega
      simp [Dd.av, bav, f_added, dFun, dStart, p_added, q1, v.nx, mkT, seq_ref e, q2, notNonAV, isNonB, q3, hk']
def Iv.pd : Iv → PyData
  | .x => .str "x"
  | .y => .str "y"
  | .f => .int 5
def Itm.pd : Itm → PyData
  | .at i => .tuple [.str "at", .int i]
  | .item v => .tuple [.str "item", v.pd]
theorem Iv.dr (v : Iv) (h : Hep) : Dr h v.av v.pd := by
  cases v
  · exact .str _
  · exact .str _
  · exact .int _
theorem Itm.dr (x : Itm) (h : Hep) : Dr h x.av x.pd := by
  cases x with
  | «at» i => exact .tup (.cons (.str _) (.cons (.int _) .nil))
  | item v => exact .tup (.cons (.str _) (.cons (v.dr h) .nil))
theorem Itm.can (x : Itm) : x.pd.canLay0 = true := by
  have h1 : PyData.strOk "at" = true := by decide +kernel
  have h2 : PyData.strOk "item" = true := by decide +kernel
  have h3 : PyData.strOk "x" = true := by decide +kernel
  have h4 : PyData.strOk "y" = true := by decide +kernel
  cases x with
  | «at» i => simp [Itm.pd, PyData.canLay0, PyData.canLayAll0, h1]
  | item v => cases v <;> simp [Itm.pd, Iv.pd, PyData.canLay0, PyData.canLayAll0, h2, h3, h4]
theorem Itm.dep (x : Itm) : x.pd.depth ≤ 1 := by
  cases x with
  | «at» i => simp [Itm.pd, PyData.depth, PyData.depthAll]
  | item v => cases v <;> simp [Itm.pd, Iv.pd, PyData.depth, PyData.depthAll]
def turnP (l : List Itm) : Dd → List Itm
  | .rev => l.reverse
  | .rot i => if l = [] then [] else l.drop ((-i) % (l.length : Int)).toNat ++ l.take ((-i) % (l.length : Int)).toNat
  | _ => l
theorem rev_ok {l : List Itm} {h : Hep} {n : Nat} (e : h[n]? = some (.lst (l.map Itm.av))) (hl : l.length ≤ 2000) :
    ∃ m h', f_turned [.ref n, Dd.rev.av] h = .ok (.ref m) h' ∧ Fr [] h h' ∧ h.length ≤ m ∧ h'[m]? = some (.lst ((turnP l .rev).map Itm.av)) := by
  have q1 : ∀ h, eqAV (.str "reverse") (.str "reverse") h = some (.bl true, h) := fun h => eq_st (by decide +kernel) (by decide +kernel) (by decide +kernel)
  have f0 : Fr [] h (h ++ [.lst []]) := Fr.app
  obtain ⟨m, g, q2, f2, hm, e2⟩ := rev_ref (f0.at e (by simp)) (by simp; omega)
  refine ⟨m, g, ?_, f0.trans f2, Nat.le_trans f0.1 hm, by rw [e2]; simp [turnP]⟩
  simp [Dd.av, f_turned, dFun, dStart, p_turned, q1, q2]
theorem rot_ok {l : List Itm} {i : Int} {h : Hep} {n : Nat} (e : h[n]? = some (.lst (l.map Itm.av))) (hl : l.length ≤ 2000) :
    ∃ m h', f_turned [.ref n, (Dd.rot i).av] h = .ok (.ref m) h' ∧ Fr [] h h' ∧ h.length ≤ m ∧ h'[m]? = some (.lst ((turnP l (.rot i)).map Itm.av)) := by
  have q1 : ∀ h, eqAV (.str "rotate") (.str "reverse") h = some (.bl false, h) := fun h => eq_st (by decide +kernel) (by decide +kernel) (by decide +kernel)
  obtain ⟨h1, eh1⟩ : ∃ h1, h1 = h ++ [AO.lst [.int i]] := ⟨_, rfl⟩
  have f0 : Fr [] h h1 := eh1 ▸ Fr.app
  have e0 : h1[h.length]? = some (.lst [.int i]) := eh1 ▸ new_at
  obtain ⟨m1, g1, q2, f1, hm1, e1⟩ := mk_new [] h1 (by simp)
  have en := (f0.trans f1).at e (by simp)
  have q3 := eq_nil (fun x => Itm.dr x g1) Itm.can Itm.dep (by decide) en e1
  have ei := f1.at e0 (by simp)
  by_cases hn : l = []
  · subst hn
    obtain ⟨m, g, q4, f2, hm, e2⟩ := rev_ref en (by simp)
    refine ⟨m, g, ?_, (f0.trans f1).trans f2, Nat.le_trans (f0.trans f1).1 hm, by rw [e2]; simp [turnP]⟩
    have q3' : eqAV (.ref n) (.ref m1) g1 = some (.bl true, g1) := q3
    simp [Dd.av, f_turned, dFun, dStart, p_turned, q1, ← eh1, q2, q3', q4]
  · have hpos : 0 < l.length := List.length_pos_iff.mpr hn
    have q3' : eqAV (.ref n) (.ref m1) g1 = some (.bl false, g1) := by
      rw [q3]
      cases l with
      | nil => exact absurd rfl hn
      | cons a b => rfl
    have i0 : idxAV (.ref h.length) (.int 0) g1 = some (.int i, g1) := idx_lst ei rfl
    have q5 := len_ref en
    have b0 : 0 ≤ (-i) % (l.length : Int) := Int.emod_nonneg _ (by omega)
    obtain ⟨k, hk⟩ : ∃ k : Nat, (-i) % (l.length : Int) = k := ⟨((-i) % (l.length : Int)).toNat, by omega⟩
    obtain ⟨m2, g2, q6, f2, hm2, e2⟩ := sl_new (some (k : Int)) none en (by rw [cut_tail]; simp; omega)
    have en2 := f2.at en (by simp)
    obtain ⟨m3, g3, q7, f3, hm3, e3⟩ := sl_new none (some (k : Int)) en2 (by rw [cut_head]; simp; omega)
    have e2' := f3.at e2 (by simp)
    rw [cut_tail] at e2'
    rw [cut_head] at e3
    obtain ⟨m4, g4, q8, f4, hm4, e4⟩ := add_ll e2' e3 (by simp; omega)
    refine ⟨m4, g4, ?_, (((f0.trans f1).trans f2).trans f3).trans f4, Nat.le_trans (((f0.trans f1).trans f2).trans f3).1 hm4, ?_⟩
    · have hp : (0 : Int) < l.length := by omega
      rw [List.length_map] at q5
      simp [Dd.av, f_turned, dFun, dStart, p_turned, q1, ← eh1, q2, q3', i0, q5, hpos, hk, q6, q7, q8]
    · rw [e4]
      simp [turnP, hn, hk, List.map_drop, List.map_take]
inductive Rs where
  | empty (k : Nat) | done (l t : List Itm)
def runP (b : Option Nat) : Nat → List Dd → List Itm → List Itm → Rs
  | _, [], l, t => .done l t
  | i, d :: ds, l, t => match d with
    | .app v => runP b (i + 1) ds (addR b l v) t
    | .appL v => runP b (i + 1) ds (addL b l v) t
    | .pop => match l.getLast? with
      | none => .empty i
      | some x => runP b (i + 1) ds l.dropLast (t ++ [x])
    | .popL => match l with
      | [] => .empty i
      | x :: l' => runP b (i + 1) ds l' (t ++ [x])
    | .rev => runP b (i + 1) ds (turnP l .rev) t
    | .rot k => runP b (i + 1) ds (turnP l (.rot k)) t
abbrev G_co : DG := (dgT (dgC (dgN 6) (dgC (dgN 7) dg0)))
/-- one turn: the deeds that add and turn -/
theorem turn_new {b : Option Nat} {d : Dd} {l : List Itm} {h : Hep} {n m : Nat} {s0 s1 s5 : Option AV} {k : Nat} (e : h[n]? = some (.lst (l.map Itm.av))) (hl : l.length ≤ 2000)
    (hd : (∃ v, d = .app v) ∨ (∃ v, d = .appL v) ∨ d = .rev ∨ ∃ i, d = .rot i) :
    ∃ n' h', b_carried_out_1 [s0, s1, some (bav b), some (.ref n), some (.ref m), s5, some (.int k), some d.av] h = .nx [s0, s1, some (bav b), some (.ref n'), some (.ref m), s5, some (.int k), some d.av] h' ∧ Fr [] h h' ∧ h.length ≤ n' ∧
      ∃ l' : List Itm, h'[n']? = some (.lst (l'.map Itm.av)) ∧ (∀ i ds t, runP b i (d :: ds) l t = runP b (i + 1) ds l' t) ∧ l'.length ≤ l.length + 1 := by
  have bnx : (bav b).nx = true := by cases b <;> rfl
  have dnx := d.nx
  rcases hd with ⟨v, rfl⟩ | ⟨v, rfl⟩ | rfl | ⟨i, rfl⟩
  · obtain ⟨n', h', e1, f, hn, e2⟩ := addR_ok (b := b) (v := v) e hl
    refine ⟨n', h', ?_, f, hn, addR b l v, e2, fun _ _ _ => rfl, ?_⟩
    · have i0 : ∀ h, idxAV (Dd.app v).av (.int 0) h = some (.str "append", h) := fun h => idx_tup rfl
      have a0 : ∀ h, inAV (.str "append") k_ADDING h = some (.bl true, h) := fun h => in_of (by rfl)
      simp [b_carried_out_1, dnx, bnx, i0, a0, e1]
    · cases b with
      | none => simp [addR]
      | some q =>
        unfold addR
        dsimp only
        split <;> simp
  · obtain ⟨n', h', e1, f, hn, e2⟩ := addL_ok (b := b) (v := v) e hl
    refine ⟨n', h', ?_, f, hn, addL b l v, e2, fun _ _ _ => rfl, ?_⟩
    · have i0 : ∀ h, idxAV (Dd.appL v).av (.int 0) h = some (.str "append_left", h) := fun h => idx_tup rfl
      have a0 : ∀ h, inAV (.str "append_left") k_ADDING h = some (.bl true, h) := fun h => in_of (by rfl)
      simp [b_carried_out_1, dnx, bnx, i0, a0, e1]
    · cases b with
      | none => simp [addL]
      | some q =>
        unfold addL
        dsimp only
        split <;> simp
  · obtain ⟨n', h', e1, f, hn, e2⟩ := rev_ok e hl
    refine ⟨n', h', ?_, f, hn, turnP l .rev, e2, fun _ _ _ => rfl, by simp [turnP]⟩
    have i0 : ∀ h, idxAV Dd.rev.av (.int 0) h = some (.str "reverse", h) := fun h => idx_tup rfl
    have a0 : ∀ h, inAV (.str "reverse") k_ADDING h = some (.bl false, h) := fun h => in_of (by rfl)
    have a1 : ∀ h, inAV (.str "reverse") (.tup [.str "rotate", .str "reverse"]) h = some (.bl true, h) := fun h => in_of (by rfl)
    simp [b_carried_out_1, dnx, bnx, i0, a0, mkT, a1, e1]
  · obtain ⟨n', h', e1, f, hn, e2⟩ := rot_ok (i := i) e hl
    refine ⟨n', h', ?_, f, hn, turnP l (.rot i), e2, fun _ _ _ => rfl, ?_⟩
    · have i0 : ∀ h, idxAV (Dd.rot i).av (.int 0) h = some (.str "rotate", h) := fun h => idx_tup rfl
      have a0 : ∀ h, inAV (.str "rotate") k_ADDING h = some (.bl false, h) := fun h => in_of (by rfl)
      have a1 : ∀ h, inAV (.str "rotate") (.tup [.str "rotate", .str "reverse"]) h = some (.bl true, h) := fun h => in_of (by rfl)
      simp [b_carried_out_1, dnx, bnx, i0, a0, mkT, a1, e1]
    · unfold turnP
      dsimp only
      split
      · simp
      · simp
        omega
theorem one_dr (x : Str) (h : Hep) : Dr h (.tup [.str x]) (.tuple [.str x]) := .tup (.cons (.str x) .nil)
theorem one_ok {x : Str} (h : PyData.strOk x = true) : DOk (.tuple [.str x]) := ⟨by simp [PyData.canLay0, PyData.canLayAll0, h], by simp [PyData.depth, PyData.depthAll]⟩
theorem eq_one {x y : Str} {b : Bool} {h : Hep} (o1 : PyData.strOk x = true) (o2 : PyData.strOk y = true) (e : (x == y) = b) : eqAV (.tup [.str x]) (.tup [.str y]) h = some (.bl b, h) := by
  rw [eqAV_dr (one_dr x h) (one_dr y h) (one_ok o1) (one_ok o2)]
  simp [PyData.eqv, PyData.eqvAll, e]
theorem turn_pop {d : Dd} {b : Option Nat} {l t : List Itm} {h : Hep} {n m : Nat} {s0 s1 s5 : Option AV} {k : Nat} (e : h[n]? = some (.lst (l.map Itm.av))) (e2 : h[m]? = some (.lst (t.map Itm.av))) (hnm : n ≠ m) (ht : t.length ≤ 2000) (hd : d = .pop ∨ d = .popL) :
    (∃ h', b_carried_out_1 [s0, s1, some (bav b), some (.ref n), some (.ref m), s5, some (.int k), some d.av] h = .rt (.tup [.str "empty", .int k]) h' ∧ Fr [n, m] h h' ∧ ∀ ds, runP b k (d :: ds) l t = .empty k) ∨
    ∃ h' l' x, b_carried_out_1 [s0, s1, some (bav b), some (.ref n), some (.ref m), s5, some (.int k), some d.av] h = .nx [s0, s1, some (bav b), some (.ref n), some (.ref m), s5, some (.int k), some d.av] h' ∧ Fr [n, m] h h' ∧
      h'[n]? = some (.lst (l'.map Itm.av)) ∧ h'[m]? = some (.lst ((t ++ [x]).map Itm.av)) ∧ (∀ i ds, runP b i (d :: ds) l t = runP b (i + 1) ds l' (t ++ [x])) ∧ l'.length + 1 = l.length := by
  obtain ⟨m1, g1, q2, f1, hm1, e1⟩ := mk_new [] h (by simp)
  have en := f1.at e (by simp)
  have em := f1.at e2 (by simp)
  have q3 := eq_nil (fun x => Itm.dr x g1) Itm.can Itm.dep (by decide) en e1
  have dnx := d.nx
  have i0 : ∀ h, ∃ w, idxAV d.av (.int 0) h = some (.str w, h) ∧ (w = "pop" ∨ w = "pop_left") := fun h => by
    rcases hd with rfl | rfl
    · exact ⟨"pop", idx_tup rfl, .inl rfl⟩
    · exact ⟨"pop_left", idx_tup rfl, .inr rfl⟩
  have i1 : ∃ w, (∀ h, idxAV d.av (.int 0) h = some (.str w, h)) ∧ (∀ h, inAV (.str w) k_ADDING h = some (.bl false, h)) ∧ ∀ h, inAV (.str w) (.tup [.str "rotate", .str "reverse"]) h = some (.bl false, h) := by
    rcases hd with rfl | rfl
    · exact ⟨"pop", fun h => idx_tup rfl, fun h => in_of (by rfl), fun h => in_of (by rfl)⟩
    · exact ⟨"pop_left", fun h => idx_tup rfl, fun h => in_of (by rfl), fun h => in_of (by rfl)⟩
  obtain ⟨w, j0, j1, j2⟩ := i1
  cases l with
  | nil =>
    left
    refine ⟨g1, ?_, f1.nil, fun ds => ?_⟩
    · have q3' : eqAV (.ref n) (.ref m1) g1 = some (.bl true, g1) := q3
      simp [b_carried_out_1, dnx, j0, j1, mkT, j2, q2, q3']
    · rcases hd with rfl | rfl <;> rfl
  | cons a l =>
    right
    have q3' : eqAV (.ref n) (.ref m1) g1 = some (.bl false, g1) := q3
    have ty := tyA_lst em
    have tn := tyA_lst en
    rcases hd with rfl | rfl
    · have hx : ((a :: l).map Itm.av).getLast? = some ((a :: l).getLast (by simp)).av := by
        rw [List.getLast?_map, List.getLast?_eq_getLast (by simp)]
        rfl
      have q4 := pop_last en hx
      have em2 : (g1.set n (.lst ((a :: l).map Itm.av).dropLast))[m]? = some (.lst (t.map Itm.av)) := by
        rw [List.getElem?_set_ne hnm]
        exact em
      have q5 := app_ok (x := ((a :: l).getLast (by simp)).av) em2 (by simp; omega)
      have q6 : ∀ h, eqAV Dd.pop.av (.tup [.str "pop"]) h = some (.bl true, h) := fun h => eq_one (by decide +kernel) (by decide +kernel) (by decide +kernel)
      refine ⟨(g1.set n (.lst ((a :: l).map Itm.av).dropLast)).set m (.lst (t.map Itm.av ++ [((a :: l).getLast (by simp)).av])), (a :: l).dropLast, (a :: l).getLast (by simp), ?_, ?_, ?_, ?_, fun i ds => ?_, by simp⟩
      rotate_left
      · exact (f1.nil.trans (Fr.set (by simp))).trans (Fr.set (by simp))
      · rw [List.getElem?_set_ne (Ne.symm hnm), List.getElem?_set_self (lt_of en), List.map_dropLast]
      · rw [List.getElem?_set_self (by simpa using lt_of em)]
        simp
      · show (match (a :: l).getLast? with
          | none => Rs.empty i
          | some x => runP b (i + 1) ds (a :: l).dropLast (t ++ [x])) = _
        rw [List.getLast?_eq_getLast (by simp)]
      · simp only [List.map_cons] at q4 q5 em2
        simp [b_carried_out_1, dnx, j0, j1, mkT, j2, q2, q3', ty, tn, q6, q4, q5]
    · have q4 := pop_first (x := a.av) (xs := l.map Itm.av) en
      have em2 : (g1.set n (.lst (l.map Itm.av)))[m]? = some (.lst (t.map Itm.av)) := by
        rw [List.getElem?_set_ne hnm]
        exact em
      have q5 := app_ok (x := a.av) em2 (by simp; omega)
      have q6 : ∀ h, eqAV Dd.popL.av (.tup [.str "pop"]) h = some (.bl false, h) := fun h => eq_one (by decide +kernel) (by decide +kernel) (by decide +kernel)
      refine ⟨(g1.set n (.lst (l.map Itm.av))).set m (.lst (t.map Itm.av ++ [a.av])), l, a, ?_, ?_, ?_, ?_, fun i ds => rfl, by simp⟩
      rotate_left
      · exact (f1.nil.trans (Fr.set (by simp))).trans (Fr.set (by simp))
      · rw [List.getElem?_set_ne (Ne.symm hnm), List.getElem?_set_self (lt_of en)]
      · rw [List.getElem?_set_self (by simpa using lt_of em)]
        simp
      · simp [b_carried_out_1, dnx, j0, j1, mkT, j2, q2, q3', ty, tn, q6, q4, q5]
theorem co_loop {row : List Dd} {b : Option Nat} {s0 s1 s5 : Option AV} : ∀ (ds : List Dd) (i : Nat) (l t : List Itm) (n m : Nat) (h : Hep) (x6 x7 : Option AV), row.drop i = ds → h[n]? = some (.lst (l.map Itm.av)) → h[m]? = some (.lst (t.map Itm.av)) → n ≠ m →
    l.length + ds.length ≤ 2000 → t.length + ds.length ≤ 2000 →
    match runP b i ds l t with
    | .done l' t' => ∃ (n' : Nat) (h' : Hep) (y6 y7 : Option AV), dLoop (.enF (row.map Dd.av)) G_co b_carried_out_1 (ds.length + 1) i [s0, s1, some (bav b), some (.ref n), some (.ref m), s5, x6, x7] h = .nx [s0, s1, some (bav b), some (.ref n'), some (.ref m), s5, y6, y7] h' ∧
        h'[n']? = some (.lst (l'.map Itm.av)) ∧ h'[m]? = some (.lst (t'.map Itm.av)) ∧ Fr [n, m] h h'
    | .empty k => ∃ h', dLoop (.enF (row.map Dd.av)) G_co b_carried_out_1 (ds.length + 1) i [s0, s1, some (bav b), some (.ref n), some (.ref m), s5, x6, x7] h = .rt (.tup [.str "empty", .int k]) h' ∧ Fr [n, m] h h'
  | [], i, l, t, n, m, h, x6, x7, hd, e1, e2, hnm, hl, ht => by
    refine ⟨n, h, x6, x7, ?_, e1, e2, Fr.refl⟩
    have hi : row[i]? = none := by
      rw [List.getElem?_eq_none_iff]
      exact List.drop_eq_nil_iff.mp hd
    unfold dLoop
    simp [Src.next, hi]
  | d :: ds, i, l, t, n, m, h, x6, x7, hd, e1, e2, hnm, hl, ht => by
    have hi : row[i]? = some d := by
      have := congrArg (fun z => z[0]?) hd
      simpa using this
    have hd' : row.drop (i + 1) = ds := by
      rw [← List.drop_drop, hd]
      rfl
    have un : ∀ h, dLoop (.enF (row.map Dd.av)) G_co b_carried_out_1 ((d :: ds).length + 1) i [s0, s1, some (bav b), some (.ref n), some (.ref m), s5, x6, x7] h =
        (b_carried_out_1 [s0, s1, some (bav b), some (.ref n), some (.ref m), s5, some (.int i), some d.av] h).loop fun s2 h2 => dLoop (.enF (row.map Dd.av)) G_co b_carried_out_1 (ds.length + 1) (i + 1) s2 h2 := fun h => by
      rw [List.length_cons]
      conv => lhs; unfold dLoop
      simp [Src.next, hi, dgT, dgC]
    rw [un]
    simp only [List.length_cons] at hl ht
    by_cases c : d = .pop ∨ d = .popL
    · rcases turn_pop (b := b) (s0 := s0) (s1 := s1) (s5 := s5) (k := i) e1 e2 hnm (by omega) c with ⟨h', r1, r2, r3⟩ | ⟨h', l', x, r1, r2, r3, r4, r5, r6⟩
      · rw [r3 ds]
        exact ⟨h', by rw [r1]; rfl, r2⟩
      · rw [r5 i ds, r1, SR.loop_nx]
        have ih := co_loop (row := row) (b := b) (s0 := s0) (s1 := s1) (s5 := s5) ds (i + 1) l' (t ++ [x]) n m h' (some (.int i)) (some d.av) hd' r3 r4 hnm (by omega) (by simp; omega)
        cases z : runP b (i + 1) ds l' (t ++ [x]) with
        | done l2 t2 =>
          rw [z] at ih
          obtain ⟨n', h2, y6, y7, a1, a2, a3, a4⟩ := ih
          exact ⟨n', h2, y6, y7, a1, a2, a3, r2.trans a4⟩
        | empty k =>
          rw [z] at ih
          obtain ⟨h2, a1, a2⟩ := ih
          exact ⟨h2, a1, r2.trans a2⟩
    · have c' : (∃ v, d = .app v) ∨ (∃ v, d = .appL v) ∨ d = .rev ∨ ∃ i, d = .rot i := by
        cases d with
        | app v => exact .inl ⟨v, rfl⟩
        | appL v => exact .inr (.inl ⟨v, rfl⟩)
        | pop => exact absurd (.inl rfl) c
        | popL => exact absurd (.inr rfl) c
        | rev => exact .inr (.inr (.inl rfl))
        | rot i => exact .inr (.inr (.inr ⟨i, rfl⟩))
      obtain ⟨n', h', r1, r2, r3, l', r4, r5, r6⟩ := turn_new (b := b) (m := m) (s0 := s0) (s1 := s1) (s5 := s5) (k := i) e1 (by omega) c'
      have hm := lt_of e2
      rw [r5 i ds t, r1, SR.loop_nx]
      have ih := co_loop (row := row) (b := b) (s0 := s0) (s1 := s1) (s5 := s5) ds (i + 1) l' t n' m h' (some (.int i)) (some d.av) hd' r4 (r2.at e2 (by simp)) (by omega) (by omega) (by omega)
      have fr : ∀ {h2 : Hep}, Fr [n', m] h' h2 → Fr [n, m] h h2 := fun {h2} a4 => by
        refine ⟨Nat.le_trans r2.1 a4.1, fun j hj hjn => ?_⟩
        rw [a4.2 j (Nat.lt_of_lt_of_le hj r2.1) (by simp at hjn ⊢; omega)]
        exact r2.2 j hj (by simp)
      cases z : runP b (i + 1) ds l' t with
      | done l2 t2 =>
        rw [z] at ih
        obtain ⟨n2, h2, y6, y7, a1, a2, a3, a4⟩ := ih
        exact ⟨n2, h2, y6, y7, a1, a2, a3, fr a4⟩
      | empty k =>
        rw [z] at ih
        obtain ⟨h2, a1, a2⟩ := ih
        exact ⟨h2, a1, fr a2⟩
def ats (n : Nat) : List Itm := (List.range n).map .at
def Rs.av : Rs → AV
  | .empty k => .tup [.str "empty", .int k]
  | .done l t => .tup [.str "done", .tup (l.map Itm.av), .tup (t.map Itm.av)]
theorem co_ok {row : List Dd} {b : Option Nat} {n : Nat} {h : Hep} (hr : row.length ≤ 12) (hn : n ≤ 1900) : ∃ h', f_carried_out [.tup (row.map Dd.av), .int n, bav b] h = .ok (runP b 0 row (ats n) []).av h' ∧ Fr [] h h' := by
  have bnx : (bav b).nx = true := by cases b <;> rfl
  have ef : dRg1 (dCons (dVar 1) dNil) [some (.tup (row.map Dd.av)), some (.int n), some (bav b), none, none, none, none, none] h = .ok (.fix (rngL 0 n)) h := rg1_ok (j := n) (by simp) rfl (by omega)
  obtain ⟨acc, h1, e, ⟨ea, fr⟩, eD⟩ := lc_fix (te := e_carried_out_1) (g := dgN 5) (vs := [5])
    (fun i acc g => acc = (ats i).map Itm.av ∧ Fr [] h g) ef (by simp; omega) ⟨rfl, Fr.app⟩
    (fun i acc g x hx ⟨ea, fr⟩ eD => by
      have hi : i < n := by
        have := (List.getElem?_eq_some_iff.mp hx).1
        simpa using this
      have hx' : x = .int i := by
        unfold rngL at hx
        rw [List.getElem?_map, List.getElem?_range hi] at hx
        simpa using hx.symm
      subst hx'
      refine ⟨_, .tup [.str "at", .int i], g, rfl, by simp [wipeS, e_carried_out_1, mkT], eD, ?_, fr.set_new (Nat.le_refl _)⟩
      rw [ea]
      simp [ats, List.range_succ, Itm.av])
  simp only [rngL_length] at ea
  subst ea
  obtain ⟨m, h2, q2, f2, hm, e2⟩ := mk_new [] h1 (by simp)
  have en := f2.at eD (by simp)
  have hnm : h.length ≠ m := by
    have := lt_of eD
    omega
  have L := co_loop (row := row) (b := b) (s0 := some (.tup (row.map Dd.av))) (s1 := some (.int n)) (s5 := none) row 0 (ats n) [] h.length m h2 none none rfl en (by simpa using e2) hnm (by simp [ats]; omega) (by simp; omega)
  have frx : ∀ {h3 : Hep}, Fr [h.length, m] h2 h3 → Fr [] h h3 := fun {h3} a => by
    have f12 := fr.trans f2
    refine ⟨Nat.le_trans f12.1 a.1, fun j hj _ => ?_⟩
    rw [a.2 j (Nat.lt_of_lt_of_le hj f12.1) (by have := fr.1; simp; omega)]
    exact f12.2 j hj (by simp)
  cases z : runP b 0 row (ats n) [] with
  | done l t =>
    rw [z] at L
    obtain ⟨n', h3, y6, y7, a1, a2, a3, a4⟩ := L
    refine ⟨h3, ?_, frx a4⟩
    have t1 : tupleL [.ref n'] h3 = some (.tup (l.map Itm.av), h3) := by simp [tupleL, seq_ref a2]
    have t2 : tupleL [.ref m] h3 = some (.tup (t.map Itm.av), h3) := by simp [tupleL, seq_ref a3]
    simp [f_carried_out, dFun, dStart, p_carried_out, e, q2, dFor, dEnm, Src.len, a1, t1, t2, mkT, Rs.av]
  | empty k =>
    rw [z] at L
    obtain ⟨h3, a1, a2⟩ := L
    refine ⟨h3, ?_, frx a2⟩
    simp [f_carried_out, dFun, dStart, p_carried_out, e, q2, dFor, dEnm, Src.len, a1, mkT, Rs.av]
/-! ### uniform runs: the ends as they are told from both sides, the middle a run -/
inductive Sy where
  | l (i : Nat) | r (j : Nat) | it (v : Iv)
def Sy.val (n : Nat) : Sy → Itm
  | .l i => .at i
  | .r j => .at (n - j)
  | .it v => .item v
structure SS where
  A : List Sy
  lo : Nat
  hi : Nat
  fw : Bool
  B : List Sy
def midL (n lo hi : Nat) : List Itm := (List.range (n - hi - lo)).map fun k => .at (lo + k)
def midV (n : Nat) (S : SS) : List Itm := if S.fw = true then midL n S.lo S.hi else (midL n S.lo S.hi).reverse
def valS (n : Nat) (S : SS) : List Itm := S.A.map (Sy.val n) ++ midV n S ++ S.B.map (Sy.val n)
def popR (S : SS) : Sy × SS := match S.B.getLast? with
  | some x => (x, { S with B := S.B.dropLast })
  | none => if S.fw = true then (.r (S.hi + 1), { S with hi := S.hi + 1 }) else (.l S.lo, { S with lo := S.lo + 1 })
def popL (S : SS) : Sy × SS := match S.A with
  | x :: A => (x, { S with A := A })
  | [] => if S.fw = true then (.l S.lo, { S with lo := S.lo + 1 }) else (.r (S.hi + 1), { S with hi := S.hi + 1 })
/-- the ends' items are told by places that are gone from the middle -/
def Sy.in_ (lo hi : Nat) : Sy → Prop
  | .l i => i < lo
  | .r j => 0 < j ∧ j ≤ hi
  | .it _ => True
theorem Sy.in_mono {lo hi lo' hi' : Nat} {x : Sy} (h : x.in_ lo hi) (a : lo ≤ lo') (b : hi ≤ hi') : x.in_ lo' hi' := by
  cases x with
  | l i => exact Nat.lt_of_lt_of_le h a
  | r j => exact ⟨h.1, Nat.le_trans h.2 b⟩
  | it v => trivial
def SS.ok (S : SS) : Prop := (∀ x ∈ S.A, x.in_ S.lo S.hi) ∧ ∀ x ∈ S.B, x.in_ S.lo S.hi
theorem mid_right {n lo hi : Nat} (h : lo + hi < n) : midL n lo hi = midL n lo (hi + 1) ++ [.at (n - (hi + 1))] := by
  unfold midL
  rw [show n - hi - lo = (n - (hi + 1) - lo) + 1 by omega, List.range_succ, List.map_append]
  congr 1
  simp
  omega
theorem mid_left {n lo hi : Nat} (h : lo + hi < n) : midL n lo hi = .at lo :: midL n (lo + 1) hi := by
  unfold midL
  rw [show n - hi - lo = (n - hi - (lo + 1)) + 1 by omega, List.range_succ_eq_map, List.map_cons, List.map_map]
  congr 1
  apply List.map_congr_left
  intro a _
  simp
  omega
theorem popR_ok {n : Nat} {S : SS} (ok : S.ok) (h : S.lo + S.hi < n) : valS n S = valS n (popR S).2 ++ [(popR S).1.val n] ∧ (popR S).2.ok ∧ (popR S).1.in_ (popR S).2.lo (popR S).2.hi ∧ (popR S).2.lo + (popR S).2.hi ≤ S.lo + S.hi + 1 ∧ S.lo ≤ (popR S).2.lo ∧ S.hi ≤ (popR S).2.hi := by
  obtain ⟨A, lo, hi, fw, B⟩ := S
  unfold popR
  cases z : B.getLast? with
  | some x =>
    have hb : B = B.dropLast ++ [x] := by
      obtain ⟨ys, rfl⟩ := List.getLast?_eq_some_iff.mp z
      simp
    dsimp only
    refine ⟨?_, ⟨ok.1, fun y hy => ok.2 y ((List.dropLast_sublist _).subset hy)⟩, ok.2 x (List.mem_of_getLast? z), by omega, Nat.le_refl _, Nat.le_refl _⟩
    unfold valS midV
    dsimp only
    conv => lhs; rw [hb]
    simp
  | none =>
    have hb : B = [] := List.getLast?_eq_none_iff.mp z
    subst hb
    dsimp only at h ⊢
    cases fw with
    | true =>
      refine ⟨?_, ⟨fun y hy => Sy.in_mono (ok.1 y hy) (Nat.le_refl _) (Nat.le_succ _), fun y hy => by cases hy⟩, ⟨Nat.succ_pos _, Nat.le_refl _⟩, by simp; omega, Nat.le_refl _, Nat.le_succ _⟩
      unfold valS midV
      simp
      rw [mid_right h]
      simp [Sy.val]
    | false =>
      refine ⟨?_, ⟨fun y hy => Sy.in_mono (ok.1 y hy) (Nat.le_succ _) (Nat.le_refl _), fun y hy => by cases hy⟩, Nat.lt_succ_self _, by simp; omega, Nat.le_succ _, Nat.le_refl _⟩
      unfold valS midV
      simp
      rw [mid_left h]
      simp [Sy.val]
theorem popL_ok {n : Nat} {S : SS} (ok : S.ok) (h : S.lo + S.hi < n) : valS n S = (popL S).1.val n :: valS n (popL S).2 ∧ (popL S).2.ok ∧ (popL S).1.in_ (popL S).2.lo (popL S).2.hi ∧ (popL S).2.lo + (popL S).2.hi ≤ S.lo + S.hi + 1 ∧ S.lo ≤ (popL S).2.lo ∧ S.hi ≤ (popL S).2.hi := by
  obtain ⟨A, lo, hi, fw, B⟩ := S
  unfold popL
  cases A with
  | cons x A =>
    exact ⟨by simp [valS, midV], ⟨fun y hy => ok.1 y (List.mem_cons_of_mem _ hy), ok.2⟩, ok.1 x List.mem_cons_self, by simp, Nat.le_refl _, Nat.le_refl _⟩
  | nil =>
    dsimp only at h ⊢
    cases fw with
    | true =>
      refine ⟨?_, ⟨fun y hy => (by cases hy), fun y hy => Sy.in_mono (ok.2 y hy) (Nat.le_succ _) (Nat.le_refl _)⟩, Nat.lt_succ_self _, by simp; omega, Nat.le_succ _, Nat.le_refl _⟩
      unfold valS midV
      simp
      rw [mid_left h]
      simp [Sy.val]
    | false =>
      refine ⟨?_, ⟨fun y hy => (by cases hy), fun y hy => Sy.in_mono (ok.2 y hy) (Nat.le_refl _) (Nat.le_succ _)⟩, ⟨Nat.succ_pos _, Nat.le_refl _⟩, by simp; omega, Nat.le_refl _, Nat.le_succ _⟩
      unfold valS midV
      simp
      rw [mid_right h]
      simp [Sy.val]
def popRn : Nat → SS → List Sy × SS
  | 0, S => ([], S)
  | k + 1, S => ((popRn k (popR S).2).1 ++ [(popR S).1], (popRn k (popR S).2).2)
def popLn : Nat → SS → List Sy × SS
  | 0, S => ([], S)
  | k + 1, S => ((popL S).1 :: (popLn k (popL S).2).1, (popLn k (popL S).2).2)
theorem popRn_ok {n : Nat} : ∀ (k : Nat) {S : SS}, S.ok → S.lo + S.hi + k ≤ n → valS n S = valS n (popRn k S).2 ++ (popRn k S).1.map (Sy.val n) ∧ (popRn k S).2.ok ∧ (∀ x ∈ (popRn k S).1, x.in_ (popRn k S).2.lo (popRn k S).2.hi) ∧
    (popRn k S).2.lo + (popRn k S).2.hi ≤ S.lo + S.hi + k ∧ S.lo ≤ (popRn k S).2.lo ∧ S.hi ≤ (popRn k S).2.hi ∧ (popRn k S).1.length = k
  | 0, S, ok, h => ⟨by simp [popRn], ok, fun x hx => (by cases hx), by simp [popRn], Nat.le_refl _, Nat.le_refl _, rfl⟩
  | k + 1, S, ok, h => by
    obtain ⟨a1, a2, a3, a4, a5, a6⟩ := popR_ok (n := n) ok (by omega)
    obtain ⟨b1, b2, b3, b4, b5, b6, b7⟩ := popRn_ok (n := n) k a2 (by omega)
    refine ⟨?_, b2, fun x hx => ?_, ?_, ?_, ?_, ?_⟩
    · rw [a1, b1]
      simp [popRn]
    · rcases List.mem_append.mp (show x ∈ (popRn k (popR S).2).1 ++ [(popR S).1] from hx) with z | z
      · exact b3 x z
      · rw [List.mem_singleton.mp z]
        exact Sy.in_mono a3 b5 b6
    · show (popRn k (popR S).2).2.lo + (popRn k (popR S).2).2.hi ≤ _
      omega
    · exact Nat.le_trans a5 b5
    · exact Nat.le_trans a6 b6
    · show ((popRn k (popR S).2).1 ++ [(popR S).1]).length = k + 1
      simp [b7]
theorem popLn_ok {n : Nat} : ∀ (k : Nat) {S : SS}, S.ok → S.lo + S.hi + k ≤ n → valS n S = (popLn k S).1.map (Sy.val n) ++ valS n (popLn k S).2 ∧ (popLn k S).2.ok ∧ (∀ x ∈ (popLn k S).1, x.in_ (popLn k S).2.lo (popLn k S).2.hi) ∧
    (popLn k S).2.lo + (popLn k S).2.hi ≤ S.lo + S.hi + k ∧ S.lo ≤ (popLn k S).2.lo ∧ S.hi ≤ (popLn k S).2.hi ∧ (popLn k S).1.length = k
  | 0, S, ok, h => ⟨by simp [popLn], ok, fun x hx => (by cases hx), by simp [popLn], Nat.le_refl _, Nat.le_refl _, rfl⟩
  | k + 1, S, ok, h => by
    obtain ⟨a1, a2, a3, a4, a5, a6⟩ := popL_ok (n := n) ok (by omega)
    obtain ⟨b1, b2, b3, b4, b5, b6, b7⟩ := popLn_ok (n := n) k a2 (by omega)
    refine ⟨?_, b2, fun x hx => ?_, ?_, ?_, ?_, ?_⟩
    · rw [a1, b1]
      simp [popLn]
    · rcases List.mem_cons.mp (show x ∈ (popL S).1 :: (popLn k (popL S).2).1 from hx) with z | z
      · rw [z]
        exact Sy.in_mono a3 b5 b6
      · exact b3 x z
    · show (popLn k (popL S).2).2.lo + (popLn k (popL S).2).2.hi ≤ _
      omega
    · exact Nat.le_trans a5 b5
    · exact Nat.le_trans a6 b6
    · show ((popL S).1 :: (popLn k (popL S).2).1).length = k + 1
      simp [b7]
def stepS (d : Dd) (S : SS) (t : List Sy) : SS × List Sy := match d with
  | .app v => ({ S with B := S.B ++ [.it v] }, t)
  | .appL v => ({ S with A := .it v :: S.A }, t)
  | .pop => ((popR S).2, t ++ [(popR S).1])
  | .popL => ((popL S).2, t ++ [(popL S).1])
  | .rev => (⟨S.B.reverse, S.lo, S.hi, !S.fw, S.A.reverse⟩, t)
  | .rot i => if 0 ≤ i then ({ (popRn i.toNat S).2 with A := (popRn i.toNat S).1 ++ (popRn i.toNat S).2.A }, t) else ({ (popLn (-i).toNat S).2 with B := (popLn (-i).toNat S).2.B ++ (popLn (-i).toNat S).1 }, t)
def runS : List Dd → SS → List Sy → SS × List Sy
  | [], S, t => (S, t)
  | d :: ds, S, t => runS ds (stepS d S t).1 (stepS d S t).2
theorem valS_length {n : Nat} {S : SS} (h : S.lo + S.hi ≤ n) : (valS n S).length = S.A.length + (n - S.hi - S.lo) + S.B.length := by
  unfold valS midV midL
  split <;> simp <;> omega
theorem val_rev {n : Nat} {S : SS} : (valS n S).reverse = valS n ⟨S.B.reverse, S.lo, S.hi, !S.fw, S.A.reverse⟩ := by
  unfold valS midV
  cases S.fw <;> simp
theorem turn_right {l p q : List Itm} {i : Int} (h : l = p ++ q) (hi : 0 ≤ i) (hq : q.length = i.toNat) (hp : 0 < p.length) : turnP l (.rot i) = q ++ p := by
  have hne : l ≠ [] := by
    rw [h]
    intro z
    have := congrArg List.length z
    rw [List.length_append] at this
    simp only [List.length_nil] at this
    omega
  show (if l = [] then [] else _) = _
  rw [if_neg hne]
  have hl : l.length = p.length + q.length := by rw [h]; simp
  by_cases h0 : i = 0
  · have hq0 : q = [] := List.length_eq_zero_iff.mp (by omega)
    subst hq0 h0
    simp [h]
  · have e : (-i) % (l.length : Int) = (p.length : Int) := by
      have h1 : (-i + (l.length : Int)) % (l.length : Int) = (-i) % (l.length : Int) := Int.add_emod_right ..
      rw [← h1, Int.emod_eq_of_lt (by omega) (by omega)]
      omega
    rw [e, h]
    simp
theorem turn_left {l p q : List Itm} {i : Int} (h : l = p ++ q) (hi : i < 0) (hp : p.length = (-i).toNat) (hq : 0 < q.length) : turnP l (.rot i) = q ++ p := by
  have hne : l ≠ [] := by
    rw [h]
    intro z
    have := congrArg List.length z
    rw [List.length_append] at this
    simp only [List.length_nil] at this
    omega
  show (if l = [] then [] else _) = _
  rw [if_neg hne]
  have hl : l.length = p.length + q.length := by rw [h]; simp
  have e : (-i) % (l.length : Int) = (p.length : Int) := by
    rw [Int.emod_eq_of_lt (by omega) (by omega)]
    omega
  rw [e, h]
  simp
theorem step_sym {n i : Nat} {d : Dd} {ds : List Dd} {S : SS} {t : List Sy} (hd : d.ok) (ok : S.ok) (ht : ∀ x ∈ t, x.in_ S.lo S.hi) (h : S.lo + S.hi + 10 ≤ n) :
    runP none i (d :: ds) (valS n S) (t.map (Sy.val n)) = runP none (i + 1) ds (valS n (stepS d S t).1) ((stepS d S t).2.map (Sy.val n)) ∧ (stepS d S t).1.ok ∧ (∀ x ∈ (stepS d S t).2, x.in_ (stepS d S t).1.lo (stepS d S t).1.hi) ∧
      (stepS d S t).1.lo + (stepS d S t).1.hi ≤ S.lo + S.hi + 9 := by
  cases d with
  | app v =>
    refine ⟨?_, ⟨ok.1, fun x hx => ?_⟩, ht, by simp [stepS]⟩
    · have e : valS n S ++ [Itm.item v] = valS n { S with B := S.B ++ [.it v] } := by
        cases S
        simp [valS, midV, Sy.val]
      show runP none (i + 1) ds (valS n S ++ [Itm.item v]) (t.map (Sy.val n)) = _
      rw [e]
      rfl
    · rcases List.mem_append.mp (show x ∈ S.B ++ [Sy.it v] from hx) with z | z
      · exact ok.2 x z
      · rw [List.mem_singleton.mp z]
        trivial
  | appL v =>
    refine ⟨?_, ⟨fun x hx => ?_, ok.2⟩, ht, by simp [stepS]⟩
    · have e : Itm.item v :: valS n S = valS n { S with A := .it v :: S.A } := by
        cases S
        simp [valS, midV, Sy.val]
      show runP none (i + 1) ds (Itm.item v :: valS n S) (t.map (Sy.val n)) = _
      rw [e]
      rfl
    · rcases List.mem_cons.mp (show x ∈ Sy.it v :: S.A from hx) with z | z
      · rw [z]
        trivial
      · exact ok.1 x z
  | pop =>
    obtain ⟨a1, a2, a3, a4, a5, a6⟩ := popR_ok (n := n) ok (by omega)
    refine ⟨?_, a2, fun x hx => ?_, by show (popR S).2.lo + (popR S).2.hi ≤ _; omega⟩
    · show (match (valS n S).getLast? with
        | none => Rs.empty i
        | some x => runP none (i + 1) ds (valS n S).dropLast (t.map (Sy.val n) ++ [x])) = _
      rw [a1]
      simp [stepS]
    · rcases List.mem_append.mp (show x ∈ t ++ [(popR S).1] from hx) with z | z
      · exact Sy.in_mono (ht x z) a5 a6
      · rw [List.mem_singleton.mp z]
        exact a3
  | popL =>
    obtain ⟨a1, a2, a3, a4, a5, a6⟩ := popL_ok (n := n) ok (by omega)
    refine ⟨?_, a2, fun x hx => ?_, by show (popL S).2.lo + (popL S).2.hi ≤ _; omega⟩
    · rw [a1]
      show runP none (i + 1) ds (valS n (popL S).2) (t.map (Sy.val n) ++ [(popL S).1.val n]) = _
      simp [stepS]
    · rcases List.mem_append.mp (show x ∈ t ++ [(popL S).1] from hx) with z | z
      · exact Sy.in_mono (ht x z) a5 a6
      · rw [List.mem_singleton.mp z]
        exact a3
  | rev =>
    refine ⟨?_, ⟨fun x hx => ok.2 x (List.mem_reverse.mp hx), fun x hx => ok.1 x (List.mem_reverse.mp hx)⟩, ht, by simp [stepS]⟩
    show runP none (i + 1) ds (valS n S).reverse (t.map (Sy.val n)) = _
    rw [val_rev]
    rfl
  | rot k =>
    by_cases hk : 0 ≤ k
    · have hk9 : k.toNat ≤ 9 := by
        have := hd.2
        omega
      obtain ⟨a1, a2, a3, a4, a5, a6, a7⟩ := popRn_ok (n := n) k.toNat ok (by omega)
      have e : stepS (.rot k) S t = ({ (popRn k.toNat S).2 with A := (popRn k.toNat S).1 ++ (popRn k.toNat S).2.A }, t) := if_pos hk
      rw [e]
      refine ⟨?_, ⟨fun x hx => ?_, a2.2⟩, fun x hx => Sy.in_mono (ht x hx) a5 a6, by show (popRn k.toNat S).2.lo + (popRn k.toNat S).2.hi ≤ _; omega⟩
      · show runP none (i + 1) ds (turnP (valS n S) (.rot k)) (t.map (Sy.val n)) = _
        have hp : 0 < (valS n (popRn k.toNat S).2).length := by
          rw [valS_length (by omega)]
          omega
        rw [turn_right a1 hk (by simpa using a7) hp]
        simp [valS, midV]
      · rcases List.mem_append.mp hx with z | z
        · exact a3 x z
        · exact a2.1 x z
    · have hk9 : (-k).toNat ≤ 9 := by
        have := hd.1
        omega
      obtain ⟨a1, a2, a3, a4, a5, a6, a7⟩ := popLn_ok (n := n) (-k).toNat ok (by omega)
      have e : stepS (.rot k) S t = ({ (popLn (-k).toNat S).2 with B := (popLn (-k).toNat S).2.B ++ (popLn (-k).toNat S).1 }, t) := if_neg hk
      rw [e]
      refine ⟨?_, ⟨a2.1, fun x hx => ?_⟩, fun x hx => Sy.in_mono (ht x hx) a5 a6, by show (popLn (-k).toNat S).2.lo + (popLn (-k).toNat S).2.hi ≤ _; omega⟩
      · show runP none (i + 1) ds (turnP (valS n S) (.rot k)) (t.map (Sy.val n)) = _
        have hp : 0 < (valS n (popLn (-k).toNat S).2).length := by
          rw [valS_length (by omega)]
          omega
        rw [turn_left a1 (by omega) (by simpa using a7) hp]
        simp [valS, midV]
      · rcases List.mem_append.mp hx with z | z
        · exact a2.2 x z
        · exact a3 x z
theorem run_sym {n : Nat} : ∀ (ds : List Dd) (i : Nat) (S : SS) (t : List Sy), (∀ d ∈ ds, d.ok) → S.ok → (∀ x ∈ t, x.in_ S.lo S.hi) → S.lo + S.hi + 9 * ds.length + 1 ≤ n →
    runP none i ds (valS n S) (t.map (Sy.val n)) = .done (valS n (runS ds S t).1) ((runS ds S t).2.map (Sy.val n)) ∧ (runS ds S t).1.ok ∧ (∀ x ∈ (runS ds S t).2, x.in_ (runS ds S t).1.lo (runS ds S t).1.hi) ∧ (runS ds S t).1.lo + (runS ds S t).1.hi ≤ S.lo + S.hi + 9 * ds.length
  | [], i, S, t, _, ok, ht, h => ⟨rfl, ok, ht, by simp [runS]⟩
  | d :: ds, i, S, t, hd, ok, ht, h => by
    rw [List.length_cons] at h
    obtain ⟨a1, a2, a3, a4⟩ := step_sym (n := n) (i := i) (ds := ds) (hd d List.mem_cons_self) ok ht (by omega)
    obtain ⟨b1, b2, b3, b4⟩ := run_sym (n := n) ds (i + 1) (stepS d S t).1 (stepS d S t).2 (fun x hx => hd x (List.mem_cons_of_mem _ hx)) a2 a3 (by omega)
    refine ⟨a1.trans b1, b2, b3, ?_⟩
    rw [List.length_cons]
    show (runS ds (stepS d S t).1 (stepS d S t).2).1.lo + (runS ds (stepS d S t).1 (stepS d S t).2).1.hi ≤ _
    omega
theorem turnP_length (l : List Itm) (d : Dd) : (turnP l d).length ≤ l.length := by
  cases d with
  | rev => simp [turnP]
  | rot i =>
    unfold turnP
    dsimp only
    split
    · simp
    · simp
      omega
  | _ => simp [turnP]
theorem run_bound {k : Nat} : ∀ (ds : List Dd) (i : Nat) (l t : List Itm), l.length + ds.length ≤ k → runP (some k) i ds l t = runP none i ds l t
  | [], _, _, _, _ => rfl
  | d :: ds, i, l, t, h => by
    rw [List.length_cons] at h
    cases d with
    | app v =>
      have e : addR (some k) l v = addR none l v := if_neg (by omega)
      show runP (some k) (i + 1) ds (addR (some k) l v) t = runP none (i + 1) ds (addR none l v) t
      rw [e]
      exact run_bound ds (i + 1) _ t (by simp [addR]; omega)
    | appL v =>
      have e : addL (some k) l v = addL none l v := if_neg (by omega)
      show runP (some k) (i + 1) ds (addL (some k) l v) t = runP none (i + 1) ds (addL none l v) t
      rw [e]
      exact run_bound ds (i + 1) _ t (by simp [addL]; omega)
    | pop =>
      show (match l.getLast? with
        | none => Rs.empty i
        | some x => runP (some k) (i + 1) ds l.dropLast (t ++ [x])) = (match l.getLast? with
        | none => Rs.empty i
        | some x => runP none (i + 1) ds l.dropLast (t ++ [x]))
      cases l.getLast? with
      | none => rfl
      | some x => exact run_bound ds (i + 1) _ _ (by simp; omega)
    | popL =>
      cases l with
      | nil => rfl
      | cons x l' => exact run_bound ds (i + 1) l' _ (by simp at h; omega)
    | rev => exact run_bound ds (i + 1) _ t (by have := turnP_length l .rev; omega)
    | rot q => exact run_bound ds (i + 1) _ t (by have := turnP_length l (.rot q); omega)
theorem eff_none {row : List Dd} {n : Nat} {h h1 h2 : Hep} {r : AV} (hn : (n : Int) ≤ 1000) (e1 : f_is_row [.tup (row.map Dd.av)] h = .ok (.bl true) h1) (e2 : f_carried_out [.tup (row.map Dd.av), .int n, .non] h1 = .ok r h2) : f_effect [.tup (row.map Dd.av), .int n, .non] h = .ok r h2 := by
  simp -implicitDefEqProofs [f_effect, dFun, dStart, p_effect, e1, isNonAV, isNonB, isint_int, hn, e2]
theorem eff_some {row : List Dd} {n : Nat} {k : Int} {h h1 h2 : Hep} {r : AV} (hn : (n : Int) ≤ k) (e1 : f_is_row [.tup (row.map Dd.av)] h = .ok (.bl true) h1) (e2 : f_carried_out [.tup (row.map Dd.av), .int n, .int k] h1 = .ok r h2) : f_effect [.tup (row.map Dd.av), .int n, .int k] h = .ok r h2 := by
  simp -implicitDefEqProofs [f_effect, dFun, dStart, p_effect, e1, isNonAV, isNonB, isint_int, hn, e2]
theorem eff_ok {row : List Dd} {b : Option Nat} {n : Nat} {h : Hep} (hr : row.length ≤ 12) (ho : ∀ d ∈ row, d.ok) (hn : n ≤ 1000) (hb : ∀ k, b = some k → n ≤ k) : ∃ h', f_effect [.tup (row.map Dd.av), .int n, bav b] h = .ok (runP b 0 row (ats n) []).av h' ∧ Fr [] h h' := by
  obtain ⟨h1, e1, f1⟩ := isrow row hr ho h
  obtain ⟨h2, e2, f2⟩ := co_ok (row := row) (b := b) (n := n) (h := h1) hr (Nat.le_trans hn (by decide))
  refine ⟨h2, ?_, f1.trans f2⟩
  cases b with
  | none => exact eff_none (by omega) e1 e2
  | some k => exact eff_some (by have := hb k rfl; omega) e1 e2
/-! what is near -/
inductive Nr where
  | it (v : Iv) | left (i : Nat) | right (j : Nat) | mid (i : Nat)
def Nr.av : Nr → AV
  | .it v => .tup [.str "item", v.av]
  | .left i => .tup [.str "left", .int i]
  | .right j => .tup [.str "right", .int j]
  | .mid i => .tup [.str "middle", .int i]
def nearP (n : Nat) : Itm → Nr
  | .item v => .it v
  | .at i => if i < 121 then .left i else if n - i < 121 then .right (n - i) else .mid i
theorem near_ok {n : Nat} {x : Itm} (hx : ∀ i, x = .at i → i ≤ n) (h : Hep) : f__law_near [x.av, .int n] h = .ok (nearP n x).av h := by
  cases x with
  | item v =>
    have q : ∀ h, eqAV (.str "item") (.str "item") h = some (.bl true, h) := fun h => eq_st (by decide +kernel) (by decide +kernel) (by decide +kernel)
    simp [f__law_near, dFun, dStart, p__law_near, Itm.av, q, nearP, Nr.av]
  | «at» i =>
    have hi := hx i rfl
    have q : ∀ h, eqAV (.str "at") (.str "item") h = some (.bl false, h) := fun h => eq_st (by decide +kernel) (by decide +kernel) (by decide +kernel)
    have hc : ((n : Int) - (i : Int)) = ((n - i : Nat) : Int) := by omega
    unfold nearP
    dsimp only
    by_cases c1 : i < 121
    · have c1' : (i : Int) < 121 := by omega
      simp [f__law_near, dFun, dStart, p__law_near, Itm.av, q, c1, c1', mkT, Nr.av]
    · have c1' : ¬ (i : Int) < 121 := by omega
      by_cases c2 : n - i < 121
      · have c2' : ((n - i : Nat) : Int) < 121 := by omega
        simp [f__law_near, dFun, dStart, p__law_near, Itm.av, q, c1, c1', hc, c2, c2', mkT, Nr.av]
      · have c2' : ¬ ((n - i : Nat) : Int) < 121 := by omega
        simp [f__law_near, dFun, dStart, p__law_near, Itm.av, q, c1, c1', hc, c2, c2', mkT, Nr.av]
/-- of a symbol: the same for every length -/
def Sy.near : Sy → Nr
  | .l i => .left i
  | .r j => .right j
  | .it v => .it v
theorem near_sy {n : Nat} {x : Sy} (hn : 250 ≤ n) (h : x.in_ 110 110) : nearP n (x.val n) = x.near := by
  cases x with
  | l i =>
    have : i < 110 := h
    exact if_pos (by omega)
  | r j =>
    obtain ⟨h1, h2⟩ := h
    show (if n - j < 121 then _ else _) = _
    rw [if_neg (by omega), if_pos (by omega)]
    show Nr.right (n - (n - j)) = .right j
    congr 1
    omega
  | it v => rfl
theorem sy_le {n : Nat} {x : Sy} (h : x.in_ 110 110) (hn : 250 ≤ n) : ∀ i, x.val n = .at i → i ≤ n := fun i e => by
  cases x with
  | l k =>
    have : k < 110 := h
    cases e
    omega
  | r j =>
    cases e
    omega
  | it v => cases e
inductive Fd where
  | nr (x : Nr) | wd
def Fd.av : Fd → AV
  | .nr x => x.av
  | .wd => .str "middle"
def outStep (n : Nat) (x : Itm) (f : List Fd) (m : List Nat) : List Fd × List Nat := match nearP n x with
  | .mid i => (if m = [] then f ++ [.wd] else f, m ++ [i])
  | r => (f ++ [.nr r], m)
def iv (i : Nat) : AV := .int i
theorem iv_dr (i : Nat) (h : Hep) : Dr h (iv i) (.int i) := .int _
theorem Nr.nx (x : Nr) : x.av.nx = true := by cases x <;> rfl
def o_A : DS := dSet 5 (dCallC f__law_near 2 0 2 [0, 1] [] (dCons (dVar 4) (dCons (dVar 1) dNil)) dNil)
def o_B : DS := dIfS (dTst (dOp neAV (dOp idxAV (dVar 5) (dC (.int 0))) (dC (.str "middle"))))
  (dDrop (dMt "list" mAppend (dVar 2) (dCons (dVar 5) dNil)))
  (dIfS (dTst (dOp eqAV (dVar 3) (dLst dNil)))
  (dDrop (dMt "list" mAppend (dVar 2) (dCons (dC (.str "middle")) dNil)))
  dSkip)
def o_C : DS := dSet 3 (dOp addAV (dVar 3) (dOp mulAV (dLst (dCons (dOp idxAV (dVar 5) (dC (.int 1))) dNil)) (dCB intL (dCons (dOp eqAV (dOp idxAV (dVar 5) (dC (.int 0))) (dC (.str "middle"))) dNil))))
theorem o_eq : b__law_outline_1 = dSeq o_A (dSeq o_B o_C) := rfl
def Nr.isM : Nr → Bool
  | .mid _ => true
  | _ => false
def Nr.wd : Nr → Str
  | .it _ => "item"
  | .left _ => "left"
  | .right _ => "right"
  | .mid _ => "middle"
def Nr.vl : Nr → AV
  | .it v => v.av
  | .left i => .int i
  | .right i => .int i
  | .mid i => .int i
theorem Nr.av_eq (r : Nr) : r.av = .tup [.str r.wd, r.vl] := by cases r <;> rfl
theorem Nr.vl_nx (r : Nr) : r.vl.nx = true := by
  cases r with
  | it v => exact v.nx
  | _ => rfl
theorem o_eqM (r : Nr) (h : Hep) : eqAV (.str r.wd) (.str "middle") h = some (.bl r.isM, h) := by
  cases r with
  | it v => exact eq_st (x := "item") (b := false) (by decide +kernel) (by decide +kernel) (by decide +kernel)
  | left v => exact eq_st (x := "left") (b := false) (by decide +kernel) (by decide +kernel) (by decide +kernel)
  | right v => exact eq_st (x := "right") (b := false) (by decide +kernel) (by decide +kernel) (by decide +kernel)
  | mid v => exact eq_st (x := "middle") (b := true) (by decide +kernel) (by decide +kernel) (by decide +kernel)
theorem o_neM (r : Nr) (h : Hep) : neAV (.str r.wd) (.str "middle") h = some (.bl (!r.isM), h) := by
  cases r with
  | it v => exact ne_st (x := "item") (b := true) (by decide +kernel) (by decide +kernel) (by decide +kernel)
  | left v => exact ne_st (x := "left") (b := true) (by decide +kernel) (by decide +kernel) (by decide +kernel)
  | right v => exact ne_st (x := "right") (b := true) (by decide +kernel) (by decide +kernel) (by decide +kernel)
  | mid v => exact ne_st (x := "middle") (b := false) (by decide +kernel) (by decide +kernel) (by decide +kernel)
section
variable {n : Nat} {x : Itm} {f : List Fd} {m : List Nat} {h : Hep} {p q : Nat} {s0 s5 s6 : Option AV} {r : Nr}
theorem o_C_ok (eq_ : h[q]? = some (.lst (m.map iv))) (hm : m.length ≤ 5000) : ∃ q' h', o_C [s0, some (.int n), some (.ref p), some (.ref q), some x.av, some r.av, s6] h = .nx [s0, some (.int n), some (.ref p), some (.ref q'), some x.av, some r.av, s6] h' ∧ Fr [] h h' ∧ h.length ≤ q' ∧
    h'[q']? = some (.lst (m.map iv ++ (List.replicate (if r.isM = true then 1 else 0) [r.vl]).flatten)) := by
  have i0 : ∀ h, idxAV r.av (.int 0) h = some (.str r.wd, h) := fun h => by
    rw [r.av_eq]
    exact idx_tup rfl
  have i1 : ∀ h, idxAV r.av (.int 1) h = some (r.vl, h) := fun h => by
    rw [r.av_eq]
    exact idx_tup rfl
  obtain ⟨m3, g3, k3, f3, hm3, e3⟩ := mk_new [r.vl] h (by simp)
  obtain ⟨m4, g4, k4, f4, hm4, e4⟩ := mul_ref (k := if r.isM = true then 1 else 0) e3 (by split <;> decide) (by simp)
  have a3 := (f3.trans f4).at eq_ (by simp)
  obtain ⟨m5, g5, k5, f5, hm5, e5⟩ := add_ll a3 e4 (by
    simp
    split <;> simp <;> omega)
  have rnx := r.nx
  have k4' : mulAV (.ref m3) (.int (if r.isM = true then 1 else 0)) g3 = some (.ref m4, g4) := by
    rw [← k4]
    cases r.isM <;> rfl
  refine ⟨m5, g5, ?_, (f3.trans f4).trans f5, Nat.le_trans (f3.trans f4).1 hm5, e5⟩
  simp -implicitDefEqProofs [o_C, i1, rnx, k3, i0, o_eqM, intL, k4', k5]
theorem o_B_ok (ep : h[p]? = some (.lst (f.map Fd.av))) (eq_ : h[q]? = some (.lst (m.map iv))) (hpq : p ≠ q) (hf : f.length ≤ 5000) : ∃ h', o_B [s0, some (.int n), some (.ref p), some (.ref q), some x.av, some r.av, s6] h = .nx [s0, some (.int n), some (.ref p), some (.ref q), some x.av, some r.av, s6] h' ∧ Fr [p] h h' ∧
    h'[p]? = some (.lst ((if r.isM = true then (if m = [] then f ++ [Fd.wd] else f) else f ++ [Fd.nr r]).map Fd.av)) ∧ h'[q]? = some (.lst (m.map iv)) := by
  have i0 : ∀ h, idxAV r.av (.int 0) h = some (.str r.wd, h) := fun h => by
    rw [r.av_eq]
    exact idx_tup rfl
  have rnx := r.nx
  cases hr : r.isM with
  | false =>
    have ty := tyA_lst ep
    have ap := app_ok (x := r.av) ep (by simp; omega)
    refine ⟨h.set p (.lst (f.map Fd.av ++ [r.av])), ?_, Fr.set (by simp), ?_, ?_⟩
    · simp -implicitDefEqProofs [o_B, i0, rnx, o_neM, hr, ty, ap]
    · rw [List.getElem?_set_self (lt_of ep)]
      simp [Fd.av]
    · rw [List.getElem?_set_ne hpq]
      exact eq_
  | true =>
    obtain ⟨m1, g1, k1, f1, hm1, e1⟩ := mk_new [] h (by simp)
    have ep1 := f1.at ep (by simp)
    have eq1 := f1.at eq_ (by simp)
    have q3 := eq_nil (fun x => iv_dr x g1) (fun _ => by rw [PyData.canLay0]) (fun _ => by rw [PyData.depth]; exact Nat.le_refl 0) (by decide) eq1 e1
    have ty1 := tyA_lst ep1
    by_cases hm0 : m = []
    · have q3' : eqAV (.ref q) (.ref m1) g1 = some (.bl true, g1) := by
        rw [q3, hm0]
        rfl
      have ap := app_ok (x := .str "middle") ep1 (by simp; omega)
      refine ⟨g1.set p (.lst (f.map Fd.av ++ [.str "middle"])), ?_, f1.nil.trans (Fr.set (by simp)), ?_, ?_⟩
      · simp -implicitDefEqProofs [o_B, i0, rnx, o_neM, hr, k1, q3', ty1, ap]
      · rw [List.getElem?_set_self (lt_of ep1), if_pos rfl, if_pos hm0]
        simp [Fd.av]
      · rw [List.getElem?_set_ne hpq]
        exact eq1
    · have q3' : eqAV (.ref q) (.ref m1) g1 = some (.bl false, g1) := by
        rw [q3]
        cases m with
        | nil => exact absurd rfl hm0
        | cons a b => rfl
      refine ⟨g1, ?_, f1.nil, ?_, eq1⟩
      · simp -implicitDefEqProofs [o_B, i0, rnx, o_neM, hr, k1, q3']
      · rw [if_pos rfl, if_neg hm0]
        exact ep1
theorem out_turn (hx : ∀ i, x = .at i → i ≤ n) (ep : h[p]? = some (.lst (f.map Fd.av))) (eq_ : h[q]? = some (.lst (m.map iv))) (hpq : p ≠ q) (hf : f.length ≤ 5000) (hm : m.length ≤ 5000) :
    ∃ q' h', b__law_outline_1 [s0, some (.int n), some (.ref p), some (.ref q), some x.av, s5, s6] h = .nx [s0, some (.int n), some (.ref p), some (.ref q'), some x.av, some (nearP n x).av, s6] h' ∧ Fr [p] h h' ∧ h.length ≤ q' ∧
      h'[p]? = some (.lst ((outStep n x f m).1.map Fd.av)) ∧ h'[q']? = some (.lst ((outStep n x f m).2.map iv)) := by
  have e0 := near_ok hx h
  have xnx : x.av.nx = true := by cases x <;> rfl
  have hA : o_A [s0, some (.int n), some (.ref p), some (.ref q), some x.av, s5, s6] h = .nx [s0, some (.int n), some (.ref p), some (.ref q), some x.av, some (nearP n x).av, s6] h := by
    simp -implicitDefEqProofs [o_A, xnx, e0]
  obtain ⟨g, hB, fB, epB, eqB⟩ := o_B_ok (n := n) (x := x) (s0 := s0) (s6 := s6) (r := nearP n x) ep eq_ hpq hf
  obtain ⟨q', g', hC, fC, hq, e2⟩ := o_C_ok (n := n) (x := x) (s0 := s0) (s6 := s6) (r := nearP n x) (p := p) eqB hm
  refine ⟨q', g', ?_, fB.trans fC.nil, Nat.le_trans fB.1 hq, ?_, ?_⟩
  · rw [o_eq, xSeq, hA, SR.then_nx, xSeq, hB, SR.then_nx, hC]
  · rw [fC.at epB (by simp)]
    unfold outStep
    cases nearP n x <;> rfl
  · rw [e2]
    unfold outStep
    cases nearP n x <;> simp [Nr.isM, Nr.vl, iv]
end
def outG (n : Nat) (a : List Fd × List Nat) (x : Itm) : List Fd × List Nat := outStep n x a.1 a.2
def outF (n : Nat) (ps : List Itm) : List Fd × List Nat := ps.foldl (outG n) ([], [])
theorem outStep_len (n : Nat) (x : Itm) (f : List Fd) (m : List Nat) : (outStep n x f m).1.length ≤ f.length + 1 ∧ (outStep n x f m).2.length ≤ m.length + 1 := by
  unfold outStep
  cases nearP n x with
  | mid i =>
    dsimp only
    constructor
    · split <;> simp
    · simp
  | _ => simp
theorem outF_len (n : Nat) (ps : List Itm) : (outF n ps).1.length ≤ ps.length ∧ (outF n ps).2.length ≤ ps.length := by
  have go : ∀ (ps : List Itm) (a : List Fd × List Nat), (ps.foldl (outG n) a).1.length ≤ a.1.length + ps.length ∧ (ps.foldl (outG n) a).2.length ≤ a.2.length + ps.length := by
    intro ps
    induction ps with
    | nil => intro a; simp
    | cons x ps ih =>
      intro a
      have h1 := ih (outG n a x)
      have h2 := outStep_len n x a.1 a.2
      have h3 : (outG n a x).1.length ≤ a.1.length + 1 := h2.1
      have h4 : (outG n a x).2.length ≤ a.2.length + 1 := h2.2
      simp only [List.foldl_cons, List.length_cons]
      omega
  have := go ps ([], [])
  simpa [outF] using this
def runN (n : Nat) : List Nat := (List.range (n - 241)).map (121 + ·)
theorem run_rng {n : Nat} : rngL 121 (n - 241) = (runN n).map iv := by
  unfold rngL runN iv
  rw [List.map_map]
  apply List.map_congr_left
  intro i _
  simp
theorem eq_ns {h : Hep} {a b : Nat} {l m : List Nat} (e1 : h[a]? = some (.lst (l.map iv))) (e2 : h[b]? = some (.lst (m.map iv))) : eqAV (.ref a) (.ref b) h = some (.bl (decide (l = m)), h) := by
  have k1 : ∀ x : Nat, (PyData.int (x : Int)).canLay0 = true := fun x => by rw [PyData.canLay0]
  have k2 : ∀ x : Nat, (PyData.int (x : Int)).depth ≤ 0 := fun x => by rw [PyData.depth]; exact Nat.le_refl 0
  have k3 : ∀ x y : Nat, PyData.eqv (.int (x : Int)) (.int (y : Int)) = decide (x = y) := fun x y => by
    rw [PyData.eqv]
    by_cases z : x = y
    · simp [z]
    · have : ¬ (x : Int) = (y : Int) := by omega
      simp [z, this]
  rw [eqAV_dr (.ref e1 (drA_map (fun x => iv_dr x h) l)) (.ref e2 (drA_map (fun x => iv_dr x h) m)) (dOk_list k1 k2 (by decide) l) (dOk_list k1 k2 (by decide) m), PyData.eqv, eqvAll_map k3]
theorem outl_ok {n : Nat} {ps : List Itm} {h : Hep} (hn : 250 ≤ n) (hn2 : n ≤ 1000) (hp : ps.length ≤ 4000) (hx : ∀ x ∈ ps, ∀ i, x = .at i → i ≤ n) :
    ∃ p w h', f__law_outline [.tup (ps.map Itm.av), .int n] h = .ok (.tup [.ref p, .ref w]) h' ∧ Fr [] h h' ∧ h'[p]? = some (.lst ((outF n ps).1.map Fd.av)) ∧
      h'[w]? = some (.lst [.bl (decide ((outF n ps).2 = runN n)), .bl (decide ((outF n ps).2 = (runN n).reverse))]) := by
  obtain ⟨p, g1, k1, f1, hm1, e1⟩ := mk_new [] h (by simp)
  obtain ⟨q, g2, k2, f2, hm2, e2⟩ := mk_new [] g1 (by simp)
  have hp1 := lt_of e1
  have e1' := f2.at e1 (by simp)
  have ef : dSrc (dVar 0) [some (.tup (ps.map Itm.av)), some (.int n), some (.ref p), some (.ref q), none, none, none] g2 = .ok (.fix (ps.map Itm.av)) g2 := by simp [dSrc]
  obtain ⟨s', h3, eL, q3, x4, x5, es, a1, a2, a3, a4⟩ := for_fix (g := dgN 4) (body := b__law_outline_1)
    (fun i s g => ∃ (q' : Nat) (x4 x5 : Option AV), s = [some (.tup (ps.map Itm.av)), some (.int n), some (.ref p), some (.ref q'), x4, x5, none] ∧ g[p]? = some (.lst ((outF n (ps.take i)).1.map Fd.av)) ∧ g[q']? = some (.lst ((outF n (ps.take i)).2.map iv)) ∧ p ≠ q' ∧ Fr [] h g)
    ef ⟨q, none, none, rfl, by simpa [outF] using e1', by simpa [outF] using e2, by omega, f1.trans f2⟩
    (fun i s g x hxi ⟨q', x4, x5, es, a1, a2, a3, a4⟩ => by
      rw [List.getElem?_map] at hxi
      obtain ⟨y, hy, rfl⟩ := Option.map_eq_some_iff.mp hxi
      have hi := (List.getElem?_eq_some_iff.mp hy).1
      have hlen := outF_len n (ps.take i)
      have hti : (ps.take i).length ≤ 4000 := by
        rw [List.length_take]
        omega
      obtain ⟨q2, g2, r1, r2, r3, r4, r5⟩ := out_turn (s0 := some (.tup (ps.map Itm.av))) (s5 := x5) (s6 := none) (x := y) (hx y (List.mem_of_getElem? hy)) a1 a2 a3 (by omega) (by omega)
      have ht : outF n (ps.take (i + 1)) = outStep n y (outF n (ps.take i)).1 (outF n (ps.take i)).2 := by
        unfold outF
        rw [List.take_succ, hy]
        simp only [Option.toList_some, List.foldl_append, List.foldl_cons, List.foldl_nil]
        rfl
      have hpg := lt_of a1
      refine ⟨_, _, g2, rfl, .inl ?_, q2, some y.av, some (nearP n y).av, rfl, by rw [ht]; exact r4, by rw [ht]; exact r5, by omega, ?_⟩
      · rw [es]
        exact r1
      · refine ⟨Nat.le_trans a4.1 r2.1, fun j hj _ => ?_⟩
        rw [r2.2 j (Nat.lt_of_lt_of_le hj a4.1) (by simp; omega)]
        exact a4.2 j hj (by simp))
  simp only [List.length_map] at a1 a2
  rw [List.take_length] at a1 a2
  subst es
  obtain ⟨m4, g4, k4, f4, hm4, e4⟩ := lr2_ok (i := 121) (j := (n : Int) - 120) (n := n - 241) (h := h3) (by omega) (by omega) (by omega) (by omega) (by omega) (by omega)
  rw [run_rng] at e4
  have b2 := f4.at a2 (by simp)
  have q4 := eq_ns b2 e4
  obtain ⟨m5, g5, k5, f5, hm5, e5⟩ := rev_ref e4 (by simp [runN]; omega)
  rw [← List.map_reverse] at e5
  have q5 := eq_ns (f5.at b2 (by simp)) e5
  obtain ⟨m6, g6, k6, f6, hm6, e6⟩ := mk_new [.bl (decide ((outF n ps).2 = runN n)), .bl (decide ((outF n ps).2 = (runN n).reverse))] g5 (by simp)
  have fr := (f4.trans f5).trans f6
  refine ⟨p, m6, g6, ?_, a4.trans fr, fr.at a1 (by simp), e6⟩
  simp -implicitDefEqProofs [f__law_outline, dFun, dStart, p__law_outline, k1, k2, eL, k4, q4, k5, q5, k6, mkT]
theorem near_sy2 {n : Nat} {x : Sy} (hn : 250 ≤ n) (h : x.in_ 121 120) : nearP n (x.val n) = x.near := by
  cases x with
  | l i =>
    have : i < 121 := h
    exact if_pos (by omega)
  | r j =>
    obtain ⟨h1, h2⟩ := h
    show (if n - j < 121 then _ else _) = _
    rw [if_neg (by omega), if_pos (by omega)]
    show Nr.right (n - (n - j)) = .right j
    congr 1
    omega
  | it v => rfl
theorem out_sy {n : Nat} {x : Sy} (hn : 250 ≤ n) (h : x.in_ 121 120) (f : List Fd) (m : List Nat) : outStep n (x.val n) f m = (f ++ [.nr x.near], m) := by
  unfold outStep
  rw [near_sy2 hn h]
  cases x <;> rfl
theorem fold_sy {n : Nat} (hn : 250 ≤ n) : ∀ (l : List Sy), (∀ x ∈ l, x.in_ 121 120) → ∀ (f : List Fd) (m : List Nat), (l.map (Sy.val n)).foldl (outG n) (f, m) = (f ++ l.map (fun x => Fd.nr x.near), m)
  | [], _, f, m => by simp
  | x :: l, h, f, m => by
    rw [List.map_cons, List.foldl_cons]
    show (l.map (Sy.val n)).foldl (outG n) (outStep n (x.val n) f m) = _
    rw [out_sy hn (h x List.mem_cons_self), fold_sy hn l (fun y hy => h y (List.mem_cons_of_mem _ hy))]
    simp
theorem fold_mid {n : Nat} : ∀ (l : List Nat), (∀ i ∈ l, 121 ≤ i ∧ 121 ≤ n - i) → ∀ (f : List Fd) (m : List Nat), (l.map Itm.at).foldl (outG n) (f, m) = (if l = [] ∨ m ≠ [] then f else f ++ [.wd], m ++ l)
  | [], _, f, m => by simp
  | i :: l, h, f, m => by
    obtain ⟨h1, h2⟩ := h i List.mem_cons_self
    rw [List.map_cons, List.foldl_cons]
    have e : outG n (f, m) (.at i) = (if m = [] then f ++ [.wd] else f, m ++ [i]) := by
      show outStep n (.at i) f m = _
      unfold outStep nearP
      dsimp only
      rw [if_neg (by omega), if_neg (by omega)]
    rw [e, fold_mid l (fun j hj => h j (List.mem_cons_of_mem _ hj))]
    by_cases hm : m = [] <;> simp [hm]
def lowS (lo : Nat) : List Sy := (List.range (121 - lo)).map fun k => .l (lo + k)
def highS (hi : Nat) : List Sy := (List.range (120 - hi)).map fun k => .r (120 - k)
theorem lowS_in {lo : Nat} : ∀ x ∈ lowS lo, x.in_ 121 120 := fun x hx => by
  unfold lowS at hx
  obtain ⟨k, hk, rfl⟩ := List.mem_map.mp hx
  have := List.mem_range.mp hk
  show lo + k < 121
  omega
theorem highS_in {hi : Nat} : ∀ x ∈ highS hi, x.in_ 121 120 := fun x hx => by
  unfold highS at hx
  obtain ⟨k, hk, rfl⟩ := List.mem_map.mp hx
  have := List.mem_range.mp hk
  show 0 < 120 - k ∧ 120 - k ≤ 120
  omega
theorem run_in {n : Nat} : ∀ i ∈ runN n, 121 ≤ i ∧ 121 ≤ n - i := fun i hi => by
  unfold runN at hi
  obtain ⟨k, hk, rfl⟩ := List.mem_map.mp hi
  have := List.mem_range.mp hk
  omega
theorem mid_split {n lo hi : Nat} (hn : 250 ≤ n) (h1 : lo ≤ 110) (h2 : hi ≤ 110) : midL n lo hi = (lowS lo).map (Sy.val n) ++ (runN n).map Itm.at ++ (highS hi).map (Sy.val n) := by
  unfold midL lowS runN highS
  apply List.ext_getElem
  · simp
    omega
  · intro i h3 h4
    simp only [List.length_map, List.length_range] at h3
    simp only [List.getElem_map, List.getElem_range]
    by_cases c1 : i < 121 - lo
    · rw [List.getElem_append_left (by simp; omega), List.getElem_append_left (by simp; omega)]
      simp [Sy.val]
    · by_cases c2 : i < (121 - lo) + (n - 241)
      · rw [List.getElem_append_left (by simp; omega), List.getElem_append_right (by simp; omega)]
        simp
        omega
      · rw [List.getElem_append_right (by simp; omega)]
        simp [Sy.val]
        omega
theorem run_ne {n : Nat} (hn : 250 ≤ n) : runN n ≠ [] := by
  intro h
  have := congrArg List.length h
  simp [runN] at this
  omega
theorem run_rev {n : Nat} (hn : 250 ≤ n) : runN n ≠ (runN n).reverse := by
  intro h
  have h1 : (runN n)[0]? = some 121 := by
    unfold runN
    rw [List.getElem?_map, List.getElem?_range (by omega)]
    rfl
  have h2 : (runN n).reverse[0]? = some (121 + (n - 242)) := by
    rw [List.getElem?_reverse (by simp [runN]; omega)]
    unfold runN
    simp only [List.length_map, List.length_range]
    rw [List.getElem?_map, List.getElem?_range (by omega)]
    simp
    omega
  rw [← h, h1] at h2
  have := Option.some.inj h2
  omega
def foundS (S : SS) : List Fd := if S.fw = true then (S.A ++ lowS S.lo).map (fun x => Fd.nr x.near) ++ [.wd] ++ (highS S.hi ++ S.B).map (fun x => Fd.nr x.near)
  else (S.A ++ (highS S.hi).reverse).map (fun x => Fd.nr x.near) ++ [.wd] ++ ((lowS S.lo).reverse ++ S.B).map (fun x => Fd.nr x.near)
theorem out_val {n : Nat} {S : SS} (hn : 250 ≤ n) (ok : S.ok) (h1 : S.lo ≤ 110) (h2 : S.hi ≤ 110) : outF n (valS n S) = (foundS S, if S.fw = true then runN n else (runN n).reverse) := by
  have hA : ∀ x ∈ S.A, x.in_ 121 120 := fun x hx => Sy.in_mono (ok.1 x hx) (by omega) (by omega)
  have hB : ∀ x ∈ S.B, x.in_ 121 120 := fun x hx => Sy.in_mono (ok.2 x hx) (by omega) (by omega)
  unfold outF valS midV foundS
  rw [mid_split hn h1 h2]
  cases S.fw with
  | true =>
    simp only [if_true, List.foldl_append]
    rw [fold_sy hn _ hA, fold_sy hn _ lowS_in, fold_mid _ run_in, fold_sy hn _ highS_in, fold_sy hn _ hB]
    simp [run_ne hn]
  | false =>
    simp only [Bool.false_eq_true, if_false, List.reverse_append, List.foldl_append, ← List.map_reverse]
    rw [fold_sy hn _ hA, fold_sy hn _ (fun x hx => highS_in x (List.mem_reverse.mp hx)), fold_mid _ (fun i hi => run_in i (List.mem_reverse.mp hi)), fold_sy hn _ (fun x hx => lowS_in x (List.mem_reverse.mp hx)), fold_sy hn _ hB]
    simp [run_ne hn]
theorem ats_val (n : Nat) : ats n = valS n ⟨[], 0, 0, true, []⟩ := by
  unfold ats valS midV midL
  simp
theorem source_ok (ns : List Int) (p : Nat) (hp : p < 3) (h : Hep) : ∃ m g, f__law_source [.rol (ns.map .int), .int p] h = .ok (.ref m) g ∧ Fr [] h g ∧ ∃ y, Sr g m y 0 := by
  have fin : ∀ c : Int, (f__law_source [.rol (ns.map .int), .int p] h = .ok (.ref h.length) (h ++ [.lst [.int ((c.natAbs : Int) * (if (10 : Int) ^ 18 ≤ c.natAbs then 1 else 0)), .int (c % 1000000000000000009 + 9439 * p * p + 47 * p + 13), .int 0]])) → ∃ m g, f__law_source [.rol (ns.map .int), .int p] h = .ok (.ref m) g ∧ Fr [] h g ∧ ∃ y, Sr g m y 0 := fun c e => by
    have hc0 : 0 ≤ c % 1000000000000000009 := Int.emod_nonneg _ (by decide)
    have hc1 : c % 1000000000000000009 < 1000000000000000009 := Int.emod_lt_of_pos _ (by decide)
    have hpp : (p : Int) = 0 ∨ (p : Int) = 1 ∨ (p : Int) = 2 := by omega
    refine ⟨_, _, e, Fr.app, _, ⟨⟨_, _, new_at, ?_, Int.le_refl 0, by simp⟩, ?_, ?_⟩⟩
    · split <;> omega
    · rcases hpp with z | z | z <;> rw [z] <;> omega
    · rcases hpp with z | z | z <;> rw [z] <;> omega
  have m1 : ∀ j, mulOk 9439 j = true := fun j => mulOk_l (by omega) (by omega)
  have m2 : ∀ j, mulOk j (p : Int) = true := fun j => mulOk_r (by omega) (by omega)
  have m3 : ∀ (j : Int) (b : Prop) [Decidable b], mulOk j (if b then 1 else 0) = true := fun j b _ => mulOk_r (by split <;> omega) (by split <;> omega)
  have pw : ∀ h, powAV (.int 10) (.int 18) h = some (.int ((10 : Int) ^ 18), h) := fun h => pow_ii (by omega) (by omega) (by decide)
  have ln : ∀ h, lenL [.rol (ns.map .int)] h = some (.int (ns.length : Nat), h) := fun h => by simp [lenL, lenA]
  by_cases hl : p < ns.length
  · refine fin ns[p] ?_
    have ix : ∀ h, idxAV (.rol (ns.map .int)) (.int p) h = some (.int ns[p], h) := fun h => idx_rol (atI_nat (by simp [hl]))
    have hl' : (p : Int) < (ns.length : Int) := by omega
    simp -implicitDefEqProofs [f__law_source, dFun, dStart, p__law_source, ln, hl', ix, absL, pw, intL, m1, m2, m3, mkL, -Int.reducePow]
  · refine fin 0 ?_
    have hl' : ¬ (p : Int) < (ns.length : Int) := by omega
    simp -implicitDefEqProofs [f__law_source, dFun, dStart, p__law_source, ln, hl', absL, pw, intL, m1, m2, m3, mkL, -Int.reducePow]
def Nr.pd : Nr → PyData
  | .it v => .tuple [.str "item", v.pd]
  | .left i => .tuple [.str "left", .int i]
  | .right i => .tuple [.str "right", .int i]
  | .mid i => .tuple [.str "middle", .int i]
theorem Nr.dr (x : Nr) (h : Hep) : Dr h x.av x.pd := by
  cases x with
  | it v => exact .tup (.cons (.str _) (.cons (v.dr h) .nil))
  | _ => exact .tup (.cons (.str _) (.cons (.int _) .nil))
theorem Nr.can (x : Nr) : x.pd.canLay0 = true := by
  have h1 : PyData.strOk "item" = true := by decide +kernel
  have h2 : PyData.strOk "left" = true := by decide +kernel
  have h3 : PyData.strOk "x" = true := by decide +kernel
  have h4 : PyData.strOk "y" = true := by decide +kernel
  have h5 : PyData.strOk "right" = true := by decide +kernel
  have h6 : PyData.strOk "middle" = true := by decide +kernel
  cases x with
  | it v => cases v <;> simp [Nr.pd, Iv.pd, PyData.canLay0, PyData.canLayAll0, h1, h3, h4]
  | _ => simp [Nr.pd, PyData.canLay0, PyData.canLayAll0, h2, h5, h6]
theorem Nr.dep (x : Nr) : x.pd.depth ≤ 1 := by
  cases x with
  | it v => cases v <;> simp [Nr.pd, Iv.pd, PyData.depth, PyData.depthAll]
  | _ => simp [Nr.pd, PyData.depth, PyData.depthAll]
def Fd.pd : Fd → PyData
  | .nr x => x.pd
  | .wd => .str "middle"
theorem Fd.dr (x : Fd) (h : Hep) : Dr h x.av x.pd := by
  cases x with
  | nr x => exact x.dr h
  | wd => exact .str _
theorem Fd.can (x : Fd) : x.pd.canLay0 = true := by
  have h6 : PyData.strOk "middle" = true := by decide +kernel
  cases x with
  | nr x => exact x.can
  | wd =>
    show (PyData.str "middle").canLay0 = true
    rw [PyData.canLay0]
    exact h6
theorem Fd.dep (x : Fd) : x.pd.depth ≤ 1 := by
  cases x with
  | nr x => exact x.dep
  | wd =>
    show (PyData.str "middle").depth ≤ 1
    rw [PyData.depth]
    decide
theorem ne_same {h : Hep} {a b : AV} {d : PyData} (r1 : Dr h a d) (r2 : Dr h b d) (o : DOk d) : neAV a b h = some (.bl false, h) := by
  rw [neAV_dr r1 r2 o o, SeqAt.eqv_refl d o.1]
  rfl
def c1 : DS := dSet 4 (dCallC f__law_row 2 0 2 [0, 1] [] (dCons (dVar 2) (dCons (dC (.int 12)) dNil)) dNil)
def c2 : DS := dAsg (dTup (dCons (dOp addAV (dC (.int 250)) (dCallC f__law_draw 2 0 2 [0, 1] [] (dCons (dVar 2) (dCons (dC (.int 700)) dNil)) dNil)) (dCons (dOp addAV (dC (.int 250)) (dCallC f__law_draw 2 0 2 [0, 1] [] (dCons (dVar 2) (dCons (dC (.int 700)) dNil)) dNil)) dNil))) (dgT (dgC (dgN 5) (dgC (dgN 6) dg0)))
def c3 : DS := dPar2 7 8 (dCons (dCallC f_effect 2 0 3 [0, 1, 2] [.non] (dCons (dVar 4) (dCons (dVar 5) dNil)) dNil) (dCons (dCallC f_effect 2 1 3 [0, 1, 2] [] (dCons (dVar 4) (dCons (dVar 6) dNil)) (dCons (dC (.int 1000)) dNil)) dNil))
def c4 : DS := dIfS (dOr (dTst (dOp neAV (dOp idxAV (dVar 7) (dC (.int 0))) (dC (.str "done")))) (dTst (dOp neAV (dOp idxAV (dVar 8) (dC (.int 0))) (dC (.str "done")))))
  (dRet (dC (.bl false)))
  dSkip
def c5 : DS := dIfS (dTst (dOp neAV (dLc (dSrc (dOp idxAV (dVar 7) (dC (.int 2)))) (dgN 9) dYes e_law_1 [9]) (dLc (dSrc (dOp idxAV (dVar 8) (dC (.int 2)))) (dgN 9) dYes e_law_2 [9])))
  (dRet (dC (.bl false)))
  dSkip
def c6 : DS := dAsg (dCallC f__law_outline 2 0 2 [0, 1] [] (dCons (dOp idxAV (dVar 7) (dC (.int 1))) (dCons (dVar 5) dNil)) dNil) (dgT (dgC (dgN 10) (dgC (dgN 11) dg0)))
def c7 : DS := dIfS (dOr (dTst (dOp notInAV (dC (.bl true)) (dVar 11))) (dTst (dOp neAV (dTup (dCons (dVar 10) (dCons (dVar 11) dNil))) (dCallC f__law_outline 2 0 2 [0, 1] [] (dCons (dOp idxAV (dVar 8) (dC (.int 1))) (dCons (dVar 6) dNil)) dNil))))
  (dRet (dC (.bl false)))
  dSkip
theorem c_eq : b_law_1 = dSeq c1 (dSeq c2 (dSeq c3 (dSeq c4 (dSeq c5 (dSeq c6 c7))))) := rfl
section
variable {a0 a1 a3 a4 a5 a6 a7 a8 a9 a10 a11 : Option AV} {s k : Nat} {y : Int} {h : Hep}
theorem c1_ok (S : Sr h s y k) (hk : k < 70000) : ∃ (ds : List Dd) (h' : Hep), c1 [a0, a1, some (.ref s), a3, a4, a5, a6, a7, a8, a9, a10, a11] h = .nx [a0, a1, some (.ref s), a3, some (.tup (ds.map Dd.av)), a5, a6, a7, a8, a9, a10, a11] h' ∧ Sr h' s y (k + 30) ∧ ds.length ≤ 12 ∧ ∀ d ∈ ds, d.ok := by
  obtain ⟨ds, h', e, f, S2, hl, ho⟩ := row_ok S (by omega)
  exact ⟨ds, h', by simp -implicitDefEqProofs [c1, e], S2, hl, ho⟩
theorem c2_ok (S : Sr h s y k) (hk : k < 70000) : ∃ (n m : Nat) (h' : Hep), c2 [a0, a1, some (.ref s), a3, a4, a5, a6, a7, a8, a9, a10, a11] h = .nx [a0, a1, some (.ref s), a3, a4, some (.int n), some (.int m), a7, a8, a9, a10, a11] h' ∧ Sr h' s y (k + 2) ∧ 250 ≤ n ∧ n < 950 ∧ 250 ≤ m ∧ m < 950 := by
  obtain ⟨d, h1, d0, d1, e1, _, _, S1⟩ := draw_ok (m := 700) S (by omega) (by omega) (by omega)
  obtain ⟨d', h2, d0', d1', e2, _, _, S2⟩ := draw_ok (m := 700) S1 (by omega) (by omega) (by omega)
  refine ⟨(250 + d).toNat, (250 + d').toNat, h2, ?_, S2, by omega, by omega, by omega, by omega⟩
  have z1 : ((250 + d).toNat : Int) = 250 + d := by omega
  have z2 : ((250 + d').toNat : Int) = 250 + d' := by omega
  rw [z1, z2]
  simp -implicitDefEqProofs [c2, e1, e2, mkT]
theorem c3_ok {ds : List Dd} {n m : Nat} (hl : ds.length ≤ 12) (ho : ∀ d ∈ ds, d.ok) (hn : n < 950) (hm : m < 950) (S : Sr h s y k) : ∃ h', c3 [a0, a1, some (.ref s), a3, some (.tup (ds.map Dd.av)), some (.int n), some (.int m), a7, a8, a9, a10, a11] h =
    .nx [a0, a1, some (.ref s), a3, some (.tup (ds.map Dd.av)), some (.int n), some (.int m), some (runP none 0 ds (ats n) []).av, some (runP none 0 ds (ats m) []).av, a9, a10, a11] h' ∧ Sr h' s y k := by
  obtain ⟨h1, e1, f1⟩ := eff_ok (b := none) (n := n) (h := h) hl ho (by omega) (fun k z => by cases z)
  obtain ⟨h2, e2, f2⟩ := eff_ok (b := some 1000) (n := m) (h := h1) hl ho (by omega) (fun k z => by cases z; omega)
  rw [run_bound ds 0 (ats m) [] (by simp [ats]; omega)] at e2
  have e1' : f_effect [.tup (ds.map Dd.av), .int n, .non] h = .ok (runP none 0 ds (ats n) []).av h1 := e1
  have e2' : f_effect [.tup (ds.map Dd.av), .int m, .int 1000] h1 = .ok (runP none 0 ds (ats m) []).av h2 := e2
  exact ⟨h2, by simp -implicitDefEqProofs [c3, e1', e2'], (S.fr f1 (Nat.le_refl _)).fr f2 (Nat.le_refl _)⟩
theorem c4_ok {l t l' t' : List Itm} : c4 [a0, a1, some (.ref s), a3, a4, a5, a6, some (Rs.done l t).av, some (Rs.done l' t').av, a9, a10, a11] h = .nx [a0, a1, some (.ref s), a3, a4, a5, a6, some (Rs.done l t).av, some (Rs.done l' t').av, a9, a10, a11] h := by
  have i0 : ∀ (l t : List Itm) h, idxAV (Rs.done l t).av (.int 0) h = some (.str "done", h) := fun l t h => idx_tup rfl
  have q : ∀ h, neAV (.str "done") (.str "done") h = some (.bl false, h) := fun h => ne_st (by decide +kernel) (by decide +kernel) (by decide +kernel)
  have nx : ∀ l t, (Rs.done l t).av.nx = true := fun _ _ => rfl
  simp -implicitDefEqProofs [c4, i0, q, nx]
theorem nears {n : Nat} {x t : Option AV} {te : DE} {ts : List Sy} {sl : Sl} {f : DE} {i5 : Nat} (hn : 250 ≤ n) (hts : ∀ x ∈ ts, x.in_ 110 110) (ht : ts.length ≤ 1000) (ef : dSrc f sl h = .ok (.fix ((ts.map (Sy.val n)).map Itm.av)) h)
    (hte : ∀ (v : AV) (g : Hep), v.nx = true → te ((wipeS sl [9]).set 9 (some v)) g = f__law_near [v, .int n] g) :
    ∃ p h', dLc (dSrc f) (dgN 9) dYes te [9] sl h = .ok (.ref p) h' ∧ Fr [] h h' ∧ h'[p]? = some (.lst ((ts.map Sy.near).map Nr.av)) := by
  obtain ⟨acc, h', e, ⟨ea, fr⟩, eD⟩ := lc_fix (te := te) (g := dgN 9) (vs := [9])
    (fun i acc g => acc = ((ts.take i).map Sy.near).map Nr.av ∧ Fr [] h g) ef (by simp; omega) ⟨rfl, Fr.app⟩
    (fun i acc g x hx ⟨ea, fr⟩ eD => by
      rw [List.map_map, List.getElem?_map] at hx
      obtain ⟨z, hz, rfl⟩ := Option.map_eq_some_iff.mp hx
      have hin := hts z (List.mem_of_getElem? hz)
      have e1 := near_ok (n := n) (x := z.val n) (sy_le hin hn) g
      have znx : (z.val n).av.nx = true := by cases (z.val n) <;> rfl
      refine ⟨_, (nearP n (z.val n)).av, g, rfl, ?_, eD, ?_, fr.set_new (Nat.le_refl _)⟩
      · show te ((wipeS sl [9]).set 9 (some (z.val n).av)) g = _
        rw [hte _ _ znx]
        exact e1
      · rw [ea, near_sy hn hin, List.take_succ, hz]
        simp)
  simp only [List.length_map] at ea
  rw [List.take_length] at ea
  exact ⟨h.length, h', e, fr, by rw [eD, ea]⟩
theorem c5_ok {n m : Nat} {l l' : List Itm} {ts : List Sy} (hn : 250 ≤ n) (hm : 250 ≤ m) (hts : ∀ x ∈ ts, x.in_ 110 110) (ht : ts.length ≤ 1000) (S : Sr h s y k) :
    ∃ h', c5 [a0, a1, some (.ref s), a3, a4, some (.int n), some (.int m), some (Rs.done l (ts.map (Sy.val n))).av, some (Rs.done l' (ts.map (Sy.val m))).av, a9, a10, a11] h =
      .nx [a0, a1, some (.ref s), a3, a4, some (.int n), some (.int m), some (Rs.done l (ts.map (Sy.val n))).av, some (Rs.done l' (ts.map (Sy.val m))).av, a9, a10, a11] h' ∧ Sr h' s y k := by
  have i2 : ∀ (l t : List Itm) h, idxAV (Rs.done l t).av (.int 2) h = some (.tup (t.map Itm.av), h) := fun l t h => idx_tup rfl
  have nx : ∀ l t, (Rs.done l t).av.nx = true := fun _ _ => rfl
  obtain ⟨p1, h1, r1, f1, e1⟩ := nears (h := h) (n := n) (te := e_law_1) (ts := ts) (x := none) (t := none) (i5 := 5) (f := dOp idxAV (dVar 7) (dC (.int 2)))
    (sl := [a0, a1, some (.ref s), a3, a4, some (.int n), some (.int m), some (Rs.done l (ts.map (Sy.val n))).av, some (Rs.done l' (ts.map (Sy.val m))).av, a9, a10, a11]) hn hts ht
    (by simp -implicitDefEqProofs [dSrc, i2, nx]) (fun v g hv => by simp -implicitDefEqProofs [wipeS, e_law_1, hv])
  obtain ⟨p2, h2, r2, f2, e2⟩ := nears (h := h1) (n := m) (te := e_law_2) (ts := ts) (x := none) (t := none) (i5 := 5) (f := dOp idxAV (dVar 8) (dC (.int 2)))
    (sl := [a0, a1, some (.ref s), a3, a4, some (.int n), some (.int m), some (Rs.done l (ts.map (Sy.val n))).av, some (Rs.done l' (ts.map (Sy.val m))).av, a9, a10, a11]) hm hts ht
    (by simp -implicitDefEqProofs [dSrc, i2, nx]) (fun v g hv => by simp -implicitDefEqProofs [wipeS, e_law_2, hv])
  have q := ne_same (.ref (f2.at e1 (by simp)) (drA_map (fun x => Nr.dr x h2) _)) (.ref e2 (drA_map (fun x => Nr.dr x h2) _)) (dOk_list Nr.can Nr.dep (by decide) (ts.map Sy.near))
  exact ⟨h2, by simp -implicitDefEqProofs [c5, r1, r2, q], (S.fr f1 (Nat.le_refl _)).fr f2 (Nat.le_refl _)⟩
end
theorem ways_fw {n : Nat} {S : SS} (hn : 250 ≤ n) (ok : S.ok) (h1 : S.lo ≤ 110) (h2 : S.hi ≤ 110) : decide ((outF n (valS n S)).2 = runN n) = S.fw ∧ decide ((outF n (valS n S)).2 = (runN n).reverse) = !S.fw := by
  rw [out_val hn ok h1 h2]
  dsimp only
  cases S.fw with
  | true =>
    rw [if_pos rfl]
    exact ⟨decide_eq_true rfl, decide_eq_false (run_rev hn)⟩
  | false =>
    rw [if_neg (by decide)]
    exact ⟨decide_eq_false (fun z => run_rev hn z.symm), decide_eq_true rfl⟩
theorem val_le {n : Nat} {S : SS} (hn : 250 ≤ n) (ok : S.ok) (h1 : S.lo ≤ 110) (h2 : S.hi ≤ 110) : ∀ x ∈ valS n S, ∀ i, x = .at i → i ≤ n := fun x hx i e => by
  subst e
  unfold valS at hx
  rcases List.mem_append.mp hx with hx | hx
  · rcases List.mem_append.mp hx with hx | hx
    · obtain ⟨y, hy, e⟩ := List.mem_map.mp hx
      exact sy_le (Sy.in_mono (ok.1 y hy) h1 h2) hn i e
    · have hm : Itm.at i ∈ midL n S.lo S.hi := by
        unfold midV at hx
        split at hx
        · exact hx
        · exact List.mem_reverse.mp hx
      unfold midL at hm
      obtain ⟨k, hk, e⟩ := List.mem_map.mp hm
      have := List.mem_range.mp hk
      cases e
      omega
  · obtain ⟨y, hy, e⟩ := List.mem_map.mp hx
    exact sy_le (Sy.in_mono (ok.2 y hy) h1 h2) hn i e
theorem val_len {n : Nat} {S : SS} (hn : n ≤ 1000) (ho : S.lo + S.hi ≤ n) (hA : S.A.length + S.B.length ≤ 1000) : (valS n S).length ≤ 4000 := by
  rw [valS_length ho]
  omega
/-- what outline gives for a uniform run -/
theorem outl_val {n : Nat} {S : SS} {h : Hep} (hn : 250 ≤ n) (hn2 : n ≤ 1000) (ok : S.ok) (h1 : S.lo ≤ 110) (h2 : S.hi ≤ 110) (hA : S.A.length + S.B.length ≤ 1000) : ∃ p w h', f__law_outline [.tup ((valS n S).map Itm.av), .int n] h = .ok (.tup [.ref p, .ref w]) h' ∧ Fr [] h h' ∧
    h'[p]? = some (.lst ((foundS S).map Fd.av)) ∧ h'[w]? = some (.lst [.bl S.fw, .bl (!S.fw)]) := by
  obtain ⟨p, w, h', e, f, a, b⟩ := outl_ok (h := h) hn hn2 (val_len hn2 (by omega) hA) (val_le hn ok h1 h2)
  obtain ⟨w1, w2⟩ := ways_fw hn ok h1 h2
  rw [w1, w2] at b
  rw [out_val hn ok h1 h2] at a
  exact ⟨p, w, h', e, f, a, b⟩
def wayD (S : SS) : PyData := .tuple [.list ((foundS S).map Fd.pd), .list [.bool S.fw, .bool (!S.fw)]]
theorem wayD_ok (S : SS) : DOk (wayD S) := by
  have o := dOk_list Fd.can Fd.dep (by decide) (foundS S)
  refine ⟨?_, ?_⟩
  · have := o.1
    simp [wayD, PyData.canLay0, PyData.canLayAll0] at this ⊢
    exact this
  · have := depthAll_map Fd.dep (foundS S)
    unfold wayD
    rw [depth_tup, depthAll_cons, depthAll_cons, depth_list, depth_list]
    simp only [PyData.depthAll, PyData.depth]
    omega
theorem wayD_dr {S : SS} {h : Hep} {p w : Nat} (e1 : h[p]? = some (.lst ((foundS S).map Fd.av))) (e2 : h[w]? = some (.lst [.bl S.fw, .bl (!S.fw)])) : Dr h (.tup [.ref p, .ref w]) (wayD S) :=
  .tup (.cons (.ref e1 (drA_map (fun x => Fd.dr x h) _)) (.cons (.ref e2 (.cons (.bl _) (.cons (.bl _) .nil))) .nil))
theorem in_ways {h : Hep} {w : Nat} {b : Bool} (e : h[w]? = some (.lst [.bl b, .bl (!b)])) : notInAV (.bl true) (.ref w) h = some (.bl false, h) := by
  have t : ∀ c, toD DD h (.bl c) = some (.bool c) := fun c => toD_dr (.bl c) DD (by rw [PyData.depth]; decide)
  have z : inB (.bl true) (.ref w) h = some true := by
    unfold inB
    dsimp only
    rw [e]
    dsimp only
    rw [t, List.mapM_cons, t, List.mapM_cons, t, List.mapM_nil]
    cases b <;> decide
  unfold notInAV
  rw [z]
  rfl
section
variable {a0 a1 a3 a4 a5 a6 a7 a8 a9 a10 a11 : Option AV} {s k : Nat} {y : Int} {h : Hep}
theorem c67_ok {n m : Nat} {U : SS} {t t' : List Itm} (hn : 250 ≤ n) (hn2 : n ≤ 1000) (hm : 250 ≤ m) (hm2 : m ≤ 1000) (ok : U.ok) (h1 : U.lo ≤ 110) (h2 : U.hi ≤ 110) (hA : U.A.length + U.B.length ≤ 1000) (S : Sr h s y k) :
    ∃ (x10 x11 : Option AV) (h' : Hep), dSeq c6 c7 [a0, a1, some (.ref s), a3, a4, some (.int n), some (.int m), some (Rs.done (valS n U) t).av, some (Rs.done (valS m U) t').av, a9, a10, a11] h =
      .nx [a0, a1, some (.ref s), a3, a4, some (.int n), some (.int m), some (Rs.done (valS n U) t).av, some (Rs.done (valS m U) t').av, a9, x10, x11] h' ∧ Sr h' s y k := by
  have i1 : ∀ (l t : List Itm) h, idxAV (Rs.done l t).av (.int 1) h = some (.tup (l.map Itm.av), h) := fun l t h => idx_tup rfl
  have nx : ∀ l t, (Rs.done l t).av.nx = true := fun _ _ => rfl
  obtain ⟨p, w, g, e, f, a, b⟩ := outl_val (h := h) hn hn2 ok h1 h2 hA
  obtain ⟨p', w', g', e', f', a', b'⟩ := outl_val (h := g) hm hm2 ok h1 h2 hA
  have q1 := in_ways b
  have q2 := ne_same (wayD_dr (f'.at a (by simp)) (f'.at b (by simp))) (wayD_dr a' b') (wayD_ok U)
  refine ⟨some (.ref p), some (.ref w), g', ?_, (S.fr f (Nat.le_refl _)).fr f' (Nat.le_refl _)⟩
  have hc6 : c6 [a0, a1, some (.ref s), a3, a4, some (.int n), some (.int m), some (Rs.done (valS n U) t).av, some (Rs.done (valS m U) t').av, a9, a10, a11] h = .nx [a0, a1, some (.ref s), a3, a4, some (.int n), some (.int m), some (Rs.done (valS n U) t).av, some (Rs.done (valS m U) t').av, a9, some (.ref p), some (.ref w)] g := by
    simp -implicitDefEqProofs [c6, i1, nx, e]
  have hc7 : c7 [a0, a1, some (.ref s), a3, a4, some (.int n), some (.int m), some (Rs.done (valS n U) t).av, some (Rs.done (valS m U) t').av, a9, some (.ref p), some (.ref w)] g = .nx [a0, a1, some (.ref s), a3, a4, some (.int n), some (.int m), some (Rs.done (valS n U) t).av, some (Rs.done (valS m U) t').av, a9, some (.ref p), some (.ref w)] g' := by
    simp -implicitDefEqProofs [c7, q1, i1, nx, mkT, e', q2]
  rw [xSeq, hc6, SR.then_nx, hc7]
theorem step_len (d : Dd) (S : SS) (t : List Sy) (hd : d.ok) : (stepS d S t).1.A.length + (stepS d S t).1.B.length ≤ S.A.length + S.B.length + 9 ∧ (stepS d S t).2.length ≤ t.length + 1 := by
  have pr : ∀ S : SS, (popR S).2.A.length + (popR S).2.B.length ≤ S.A.length + S.B.length := fun S => by
    unfold popR
    split
    · simp
    · split <;> simp
  have pl : ∀ S : SS, (popL S).2.A.length + (popL S).2.B.length ≤ S.A.length + S.B.length := fun S => by
    unfold popL
    split
    · rename_i z
      rw [z]
      simp
    · split <;> simp
  have prn : ∀ (k : Nat) (S : SS), (popRn k S).2.A.length + (popRn k S).2.B.length ≤ S.A.length + S.B.length ∧ (popRn k S).1.length = k := fun k => by
    induction k with
    | zero => intro S; exact ⟨Nat.le_refl _, rfl⟩
    | succ k ih =>
      intro S
      have h1 := ih (popR S).2
      have h2 := pr S
      refine ⟨?_, ?_⟩
      · show (popRn k (popR S).2).2.A.length + (popRn k (popR S).2).2.B.length ≤ _
        omega
      · show ((popRn k (popR S).2).1 ++ [(popR S).1]).length = k + 1
        simp [h1.2]
  have pln : ∀ (k : Nat) (S : SS), (popLn k S).2.A.length + (popLn k S).2.B.length ≤ S.A.length + S.B.length ∧ (popLn k S).1.length = k := fun k => by
    induction k with
    | zero => intro S; exact ⟨Nat.le_refl _, rfl⟩
    | succ k ih =>
      intro S
      have h1 := ih (popL S).2
      have h2 := pl S
      refine ⟨?_, ?_⟩
      · show (popLn k (popL S).2).2.A.length + (popLn k (popL S).2).2.B.length ≤ _
        omega
      · show ((popL S).1 :: (popLn k (popL S).2).1).length = k + 1
        simp [h1.2]
  cases d with
  | app v => simp [stepS]; omega
  | appL v => simp [stepS]; omega
  | pop =>
    have := pr S
    simp [stepS]
    omega
  | popL =>
    have := pl S
    simp [stepS]
    omega
  | rev => simp [stepS]; omega
  | rot i =>
    obtain ⟨h1, h2⟩ := hd
    unfold stepS
    dsimp only
    split
    · have := prn i.toNat S
      simp
      omega
    · have := pln (-i).toNat S
      simp
      omega
theorem run_len : ∀ (ds : List Dd) (S : SS) (t : List Sy), (∀ d ∈ ds, d.ok) → (runS ds S t).1.A.length + (runS ds S t).1.B.length ≤ S.A.length + S.B.length + 9 * ds.length ∧ (runS ds S t).2.length ≤ t.length + ds.length
  | [], S, t, _ => ⟨by simp [runS], by simp [runS]⟩
  | d :: ds, S, t, h => by
    have h1 := step_len d S t (h d List.mem_cons_self)
    have h2 := run_len ds (stepS d S t).1 (stepS d S t).2 (fun x hx => h x (List.mem_cons_of_mem _ hx))
    simp only [List.length_cons]
    refine ⟨?_, ?_⟩
    · show (runS ds (stepS d S t).1 (stepS d S t).2).1.A.length + (runS ds (stepS d S t).1 (stepS d S t).2).1.B.length ≤ _
      omega
    · show (runS ds (stepS d S t).1 (stepS d S t).2).2.length ≤ _
      omega
/-- one turn of the law -/
theorem turn_ok (S : Sr h s y k) (hk : k < 60000) : ∃ (x4 x5 x6 x7 x8 x10 x11 : Option AV) (h' : Hep), b_law_1 [a0, a1, some (.ref s), a3, a4, a5, a6, a7, a8, a9, a10, a11] h = .nx [a0, a1, some (.ref s), a3, x4, x5, x6, x7, x8, a9, x10, x11] h' ∧ Sr h' s y (k + 32) := by
  obtain ⟨ds, g1, e1, S1, hl, ho⟩ := c1_ok (a0 := a0) (a1 := a1) (a3 := a3) (a4 := a4) (a5 := a5) (a6 := a6) (a7 := a7) (a8 := a8) (a9 := a9) (a10 := a10) (a11 := a11) S (by omega)
  obtain ⟨n, m, g2, e2, S2, n0, n1, m0, m1⟩ := c2_ok (a0 := a0) (a1 := a1) (a3 := a3) (a4 := some (.tup (ds.map Dd.av))) (a5 := a5) (a6 := a6) (a7 := a7) (a8 := a8) (a9 := a9) (a10 := a10) (a11 := a11) S1 (by omega)
  obtain ⟨g3, e3, S3⟩ := c3_ok (a0 := a0) (a1 := a1) (a3 := a3) (a7 := a7) (a8 := a8) (a9 := a9) (a10 := a10) (a11 := a11) hl ho n1 m1 S2
  have ok0 : (⟨[], 0, 0, true, []⟩ : SS).ok := ⟨fun x hx => (by cases hx), fun x hx => (by cases hx)⟩
  obtain ⟨r1, r2, r3, r4⟩ := run_sym (n := n) ds 0 ⟨[], 0, 0, true, []⟩ [] ho ok0 (fun x hx => (by cases hx)) (by simp; omega)
  obtain ⟨r1', _, _, _⟩ := run_sym (n := m) ds 0 ⟨[], 0, 0, true, []⟩ [] ho ok0 (fun x hx => (by cases hx)) (by simp; omega)
  have hln := run_len ds ⟨[], 0, 0, true, []⟩ [] ho
  simp only [List.map_nil] at r1 r1'
  rw [ats_val, ats_val, r1, r1'] at e3
  generalize hU : runS ds ⟨[], 0, 0, true, []⟩ [] = UT at *
  obtain ⟨U, ts⟩ := UT
  simp only [List.length_nil, Nat.zero_add, Nat.add_zero] at r2 r3 r4 hln e3
  have hts : ∀ x ∈ ts, x.in_ 110 110 := fun x hx => Sy.in_mono (r3 x hx) (by omega) (by omega)
  obtain ⟨g5, e5, S5⟩ := c5_ok (a0 := a0) (a1 := a1) (a3 := a3) (a4 := some (.tup (ds.map Dd.av))) (a9 := a9) (a10 := a10) (a11 := a11) (l := valS n U) (l' := valS m U) n0 m0 hts (by omega) S3
  obtain ⟨x10, x11, g7, e7, S7⟩ := c67_ok (a0 := a0) (a1 := a1) (a3 := a3) (a4 := some (.tup (ds.map Dd.av))) (a9 := a9) (a10 := a10) (a11 := a11) (t := ts.map (Sy.val n)) (t' := ts.map (Sy.val m)) n0 (by omega) m0 (by omega) r2 (by omega) (by omega) (by omega) S5
  refine ⟨some (.tup (ds.map Dd.av)), some (.int n), some (.int m), some (Rs.done (valS n U) (ts.map (Sy.val n))).av, some (Rs.done (valS m U) (ts.map (Sy.val m))).av, x10, x11, g7, ?_, S7.fr Fr.refl (by omega)⟩
  rw [c_eq, xSeq, e1, SR.then_nx, xSeq, e2, SR.then_nx, xSeq, e3, SR.then_nx, xSeq, c4_ok, SR.then_nx, xSeq, e5, SR.then_nx, e7]
end
theorem law_true : ∀ ns : List Int, ns.length ≤ 63 → ∃ h, f_law [.rol (ns.map .int)] [] = .ok (.bl true) h := fun ns hns => by
  obtain ⟨r, hr, hr2⟩ : ∃ r : Nat, ((max 2 (min 3 (ns.length : Int)) : Int)) = r ∧ r ≤ 3 := ⟨(max 2 (min 3 (ns.length : Int))).toNat, by omega, by omega⟩
  have ef : dRg1 (dCons (dCB maxL (dCons (dC (.int 2)) (dCons (dCB minL (dCons (dC (.int 3)) (dCons (dCB lenL (dCons (dVar 0) dNil)) dNil))) dNil))) dNil) [some (.rol (ns.map .int)), none, none, none, none, none, none, none, none, none, none, none] [] = .ok (.fix (rngL 0 r)) [] :=
    rg1_ok (j := max 2 (min 3 (ns.length : Int))) (by simp -implicitDefEqProofs [lenL, lenA, minL, maxL]) hr (by omega)
  obtain ⟨s', h', eL, _⟩ := for_fix (g := dgN 1) (body := b_law_2) (fun i s g => ∃ x1 x2 x3 x4 x5 x6 x7 x8 x9 x10 x11, s = [some (.rol (ns.map .int)), x1, x2, x3, x4, x5, x6, x7, x8, x9, x10, x11]) ef ⟨none, none, none, none, none, none, none, none, none, none, none, rfl⟩
    (fun i s g x hx ⟨x1, x2, x3, x4, x5, x6, x7, x8, x9, x10, x11, es⟩ => by
      subst es
      have hi : i < r := by
        have := (List.getElem?_eq_some_iff.mp hx).1
        simpa using this
      have hx' : x = .int i := by
        unfold rngL at hx
        rw [List.getElem?_map, List.getElem?_range hi] at hx
        simpa using hx.symm
      subst hx'
      obtain ⟨m, g1, e1, f1, y, S1⟩ := source_ok ns i (by omega) g
      have ef2 : dRg1 (dCons (dC (.int 4)) dNil) [some (.rol (ns.map .int)), some (.int i), some (.ref m), x3, x4, x5, x6, x7, x8, x9, x10, x11] g1 = .ok (.fix (rngL 0 4)) g1 := rg1_ok (j := 4) (by simp) rfl (by omega)
      obtain ⟨s2, g2, eL2, z3, z4, z5, z6, z7, z8, z9, z10, z11, es2, _⟩ := for_fix (g := dgN 3) (body := b_law_1)
        (fun j s g => ∃ z3 z4 z5 z6 z7 z8 z9 z10 z11, s = [some (.rol (ns.map .int)), some (.int i), some (.ref m), z3, z4, z5, z6, z7, z8, z9, z10, z11] ∧ Sr g m y (32 * j)) ef2 ⟨x3, x4, x5, x6, x7, x8, x9, x10, x11, rfl, S1⟩
        (fun j s g w hw ⟨z3, z4, z5, z6, z7, z8, z9, z10, z11, es, Sj⟩ => by
          subst es
          have hj : j < 4 := by
            have := (List.getElem?_eq_some_iff.mp hw).1
            simpa using this
          obtain ⟨y4, y5, y6, y7, y8, y10, y11, g', e, S'⟩ := turn_ok (a0 := some (.rol (ns.map .int))) (a1 := some (.int i)) (a3 := some w) (a4 := z4) (a5 := z5) (a6 := z6) (a7 := z7) (a8 := z8) (a9 := z9) (a10 := z10) (a11 := z11) Sj (by omega)
          exact ⟨_, _, g', rfl, .inl e, some w, y4, y5, y6, y7, y8, z9, y10, y11, rfl, S'.fr Fr.refl (by omega)⟩)
      subst es2
      refine ⟨_, _, g2, rfl, .inl ?_, some (.int i), some (.ref m), z3, z4, z5, z6, z7, z8, z9, z10, z11, rfl⟩
      have hS : dSet 2 (dCallC f__law_source 2 0 2 [0, 1] [] (dCons (dVar 0) (dCons (dVar 1) dNil)) dNil) ([some (.rol (ns.map .int)), x1, x2, x3, x4, x5, x6, x7, x8, x9, x10, x11].set 1 (some (.int i))) g = .nx [some (.rol (ns.map .int)), some (.int i), some (.ref m), x3, x4, x5, x6, x7, x8, x9, x10, x11] g1 := by
        simp -implicitDefEqProofs [e1]
      rw [b_law_2, xSeq, hS, SR.then_nx, eL2])
  refine ⟨h', ?_⟩
  unfold f_law dFun p_law
  show (dSeq _ _ [some (.rol (ns.map .int)), none, none, none, none, none, none, none, none, none, none, none] []).fin = _
  rw [xSeq, eL]
  rfl
end Q
namespace Q
open PySem PySem.Spec PyProof.Rows L2 Dn
set_option maxHeartbeats 0
def top (i : Nat) : Stmt := PySem.Challenge.pw_dequecounts_k66_whole_long_deques_are_un.main.body.getD i (.Pass ⟨0, 0, 0, 0⟩)
abbrev FnP (W : Wd) (i : Nat) (x : Str) (dvs : List V) (kws : List (Str × V)) (f : Addr) (fd : FuncData) : Prop := FunD W.K x x (defArgs (top i)) (defBody (top i)) (defScope (top i)) dvs kws f fd
theorem kr_SINGLE {W : Wd} : ∀ io H, RVs W io H [(.str "pop"), (.str "pop_left"), (.str "reverse")] [(.str "pop"), (.str "pop_left"), (.str "reverse")] := fun io H => .cons ((.str _)) (.cons ((.str _)) (.cons ((.str _)) (.nil)))
theorem kr_ADDING {W : Wd} : ∀ io H, RVs W io H [(.str "append"), (.str "append_left")] [(.str "append"), (.str "append_left")] := fun io H => .cons ((.str _)) (.cons ((.str _)) (.nil))
theorem sc__law_source : FnScope ["_law_script", "_law_place", "_law_cell", "_law_far"] ["_law_script", "_law_place"] (defScope (top 24)) := ⟨rfl, rfl, rfl, by decide +kernel, rfl, by decide +kernel, by decide +kernel⟩
theorem ok__law_source {P : Program} {w : World} {mg : Str → Option Value} {base : Heap} {W : Wd} {f : Addr} {fd : FuncData} (hW : W.ct = ct0) (F : FnP W 24 "_law_source" [] [] f fd) (hg : mg "_law_source" = some (.ref f)) (b_len : mg "len" = none) (b_abs : mg "abs" = none) (b_int : mg "int" = none) : Has P w mg base W 1 "_law_source" ["_law_script", "_law_place"] 2 f__law_source [(2, [], [0, 1], [])] := by
  have nd : (["_law_script", "_law_place", "_law_cell", "_law_far"] : List Str).Nodup := sc__law_source.nd
  refine ⟨f, fd, hg, F.kp, fnD F sc__law_source rfl fun cdv A outer s H E hr tk => ?_, fun b hb => ?_⟩
  · exact (ssC (sSet nd (i := 2) rfl (by first | exact .inl rfl | exact .inr rfl) iD trivial) (ssC (sIf (cmT oLt (vv 1) (bD (cLen rfl) b_len bt_len (aD (vv 0) nD)) (nomark _))
  (ss1 (sSet nd (i := 2) rfl (by first | exact .inl rfl | exact .inr rfl) (ixD (xIdx rfl (ru1 hr)) (vv 0) (vv 1) fun _ _ => rfl) trivial))
  ss0) (ssC (sSet nd (i := 3) rfl (by first | exact .inl rfl | exact .inr rfl) (bD cAbs b_abs bt_abs (aD (vv 2) nD)) trivial) (ss1 (sRet (lstD (aD (opD oMul (vv 3) (yD cInt b_int bt_int (aD (cmD oGe (vv 3) (opD oPow iD iD) (nomark _)) nD))) (aD (opD (oAdd rfl) (opD (oAdd rfl) (opD (oAdd rfl) (opD oMod (vv 2) iD) (opD oMul (opD oMul iD (vv 1)) (vv 1))) (opD oMul iD (vv 1))) iD) (aD iD nD)))))))))
  · simp only [List.mem_cons, List.not_mem_nil, or_false] at hb
    rcases hb with rfl
    · exact bnN F 2 [] [0, 1] fun _ _ _ _ _ _ us ws h1 h2 => match us, h1, ws, h2 with | [_, _], _, [], _ => rfl
theorem sc__law_draw : FnScope ["_law_source_here", "_law_often", "_law_digit", "_law_primes", "_law_turn", "_law_base", "_law_found"] ["_law_source_here", "_law_often"] (defScope (top 25)) := ⟨rfl, rfl, rfl, by decide +kernel, rfl, by decide +kernel, by decide +kernel⟩
theorem ok__law_draw {P : Program} {w : World} {mg : Str → Option Value} {base : Heap} {W : Wd} {f : Addr} {fd : FuncData} (hW : W.ct = ct0) (F : FnP W 25 "_law_draw" [] [] f fd) (hg : mg "_law_draw" = some (.ref f))  : Has P w mg base W 1 "_law_draw" ["_law_source_here", "_law_often"] 2 f__law_draw [(2, [], [0, 1], [])] := by
  have nd : (["_law_source_here", "_law_often", "_law_digit", "_law_primes", "_law_turn", "_law_base", "_law_found"] : List Str).Nodup := sc__law_draw.nd
  refine ⟨f, fd, hg, F.kp, fnD F sc__law_draw rfl fun cdv A outer s H E hr tk => ?_, fun b hb => ?_⟩
  · exact (ssC (sIf (cmT oGt (ixD (xIdx rfl (ru1 hr)) (vv 0) iD fun _ _ => rfl) iD (nomark _))
  (ssC (sSet nd (i := 2) rfl (by first | exact .inl rfl | exact .inr rfl) (opD oMod (ixD (xIdx rfl (ru1 hr)) (vv 0) iD fun _ _ => rfl) (vv 1)) trivial) (ssC (sPut hr (vv 0) iD (opD oFdiv (ixD (xIdx rfl (ru1 hr)) (vv 0) iD fun _ _ => rfl) (vv 1))) (ss1 (sRet (vv 2)))))
  ss0) (ssC (sSet nd (i := 3) rfl (by first | exact .inl rfl | exact .inr rfl) (tupD (aD iD (aD iD (aD iD (aD iD (aD iD (aD iD (aD iD (aD iD nD))))))))) trivial) (ssC (sPut hr (vv 0) iD (opD (oAdd rfl) (ixD (xIdx rfl (ru1 hr)) (vv 0) iD fun _ _ => rfl) iD)) (ssC (sSet nd (i := 4) rfl (by first | exact .inl rfl | exact .inr rfl) (ixD (xIdx rfl (ru1 hr)) (vv 0) iD fun _ _ => rfl) trivial) (ssC (sSet nd (i := 5) rfl (by first | exact .inl rfl | exact .inr rfl) (opD (oAdd rfl) (opD (oAdd rfl) (opD oMul (ixD (xIdx rfl (ru1 hr)) (vv 0) iD fun _ _ => rfl) (opD (oAdd rfl) (opD oMul iD (vv 4)) iD)) (opD oMul (opD oMul iD (vv 4)) (vv 4))) iD) trivial) (ssC (sSet nd (i := 6) rfl (by first | exact .inl rfl | exact .inr rfl) (opD oMod (opD oPow (vv 5) iD) (ixD (xIdx rfl (ru1 hr)) (vv 3) (opD oMod (vv 4) iD) fun _ _ => rfl)) trivial) (ss1 (sRet (opD oMod (opD oFdiv (opD oMod (opD oMul (vv 6) (opD (oAdd rfl) (opD oFdiv (vv 6) iD) iD)) (ixD (xIdx rfl (ru1 hr)) (vv 3) (opD oMod (opD (oAdd rfl) (vv 4) iD) iD) fun _ _ => rfl)) iD) (vv 1))))))))))
  · simp only [List.mem_cons, List.not_mem_nil, or_false] at hb
    rcases hb with rfl
    · exact bnN F 2 [] [0, 1] fun _ _ _ _ _ _ us ws h1 h2 => match us, h1, ws, h2 with | [_, _], _, [], _ => rfl
theorem sc__law_deed : FnScope ["_law_source_here", "_law_way"] ["_law_source_here"] (defScope (top 26)) := ⟨rfl, rfl, rfl, by decide +kernel, rfl, by decide +kernel, by decide +kernel⟩
theorem ok__law_deed {P : Program} {w : World} {mg : Str → Option Value} {base : Heap} {W : Wd} {f : Addr} {fd : FuncData} (hW : W.ct = ct0) (F : FnP W 26 "_law_deed" [] [] f fd) (hg : mg "_law_deed" = some (.ref f)) (H__law_draw : Has P w mg base W 1 "_law_draw" ["_law_source_here", "_law_often"] 2 f__law_draw [(2, [], [0, 1], [])]) : Has P w mg base W 2 "_law_deed" ["_law_source_here"] 1 f__law_deed [(1, [], [0], [])] := by
  have nd : (["_law_source_here", "_law_way"] : List Str).Nodup := sc__law_deed.nd
  refine ⟨f, fd, hg, F.kp, fnD F sc__law_deed rfl fun cdv A outer s H E hr tk => ?_, fun b hb => ?_⟩
  · exact (ssC (sSet nd (i := 1) rfl (by first | exact .inl rfl | exact .inr rfl) (callH H__law_draw 0 rfl rfl hr (by decide) rfl tk (aD (vv 0) (aD iD nD)) kNil) trivial) (ssC (sIf (cmT oLt (vv 1) iD (nomark _))
  (ss1 (sRet (tupD (aD (ixD (xIdx rfl (ru1 hr)) (lstD (aD sD (aD sD nD))) (vv 1) fun _ _ => rfl) (aD (ixD (xIdx rfl (ru1 hr)) (lstD (aD sD (aD sD (aD iD nD)))) (callH H__law_draw 0 rfl rfl hr (by decide) rfl tk (aD (vv 0) (aD iD nD)) kNil) fun _ _ => rfl) nD)))))
  ss0) (ssC (sIf (cmT oLt (vv 1) iD (nomark _))
  (ss1 (sRet (tupD (aD (ixD (xIdx rfl (ru1 hr)) (lstD (aD sD (aD sD nD))) (opD oSub (vv 1) iD) fun _ _ => rfl) nD))))
  ss0) (ssC (sIf (cmT (oEq rfl (ru hr)) (vv 1) iD (nomark _))
  (ss1 (sRet (tupD (aD sD nD))))
  ss0) (ss1 (sRet (tupD (aD sD (aD (opD oSub (callH H__law_draw 0 rfl rfl hr (by decide) rfl tk (aD (vv 0) (aD iD nD)) kNil) iD) nD)))))))))
  · simp only [List.mem_cons, List.not_mem_nil, or_false] at hb
    rcases hb with rfl
    · exact bnN F 1 [] [0] fun _ _ _ _ _ _ us ws h1 h2 => match us, h1, ws, h2 with | [_], _, [], _ => rfl
theorem sc__law_row : FnScope ["_law_source_here", "_law_most", "_law_k"] ["_law_source_here", "_law_most"] (defScope (top 27)) := ⟨rfl, rfl, rfl, by decide +kernel, rfl, by decide +kernel, by decide +kernel⟩
theorem ok__law_row {P : Program} {w : World} {mg : Str → Option Value} {base : Heap} {W : Wd} {f : Addr} {fd : FuncData} (hW : W.ct = ct0) (F : FnP W 27 "_law_row" [] [] f fd) (hg : mg "_law_row" = some (.ref f)) (b_tuple : mg "tuple" = none) (b_range : mg "range" = none) (H__law_draw : Has P w mg base W 1 "_law_draw" ["_law_source_here", "_law_often"] 2 f__law_draw [(2, [], [0, 1], [])]) (H__law_deed : Has P w mg base W 2 "_law_deed" ["_law_source_here"] 1 f__law_deed [(1, [], [0], [])]) : Has P w mg base W 3 "_law_row" ["_law_source_here", "_law_most"] 2 f__law_row [(2, [], [0, 1], [])] := by
  have nd : (["_law_source_here", "_law_most", "_law_k"] : List Str).Nodup := sc__law_row.nd
  refine ⟨f, fd, hg, F.kp, fnD F sc__law_row rfl fun cdv A outer s H E hr tk => ?_, fun b hb => ?_⟩
  · exact (ss1 (sRet (yD (cTuple rfl) b_tuple bt_tuple (aD (lcD (own := [("_law_k", 2)]) rfl nd (rg1D rfl b_range (aD (callH H__law_draw 0 rfl rfl hr (by decide) rfl tk (aD (vv 0) (aD (opD (oAdd rfl) (vv 1) iD) nD)) kNil) nD)) (blkOk (by kernel_rfl)) (fun _ _ _ _ _ => (gN nd rfl (by first | exact .inl rfl | exact .inr rfl) trivial (fun σ v => wipe_set σ (by decide)))) (fun _ _ _ _ _ => yesD) (fun _ _ _ _ _ => (callH H__law_deed 0 rfl rfl hr (by decide) rfl tkE0 (aD (vv 0) nD) kNil)) (fun _ _ => trivial)) nD))))
  · simp only [List.mem_cons, List.not_mem_nil, or_false] at hb
    rcases hb with rfl
    · exact bnN F 2 [] [0, 1] fun _ _ _ _ _ _ us ws h1 h2 => match us, h1, ws, h2 with | [_, _], _, [], _ => rfl
theorem sc_is_integer : FnScope ["thing"] ["thing"] (defScope (top 7)) := ⟨rfl, rfl, rfl, by decide +kernel, rfl, by decide +kernel, by decide +kernel⟩
theorem ok_is_integer {P : Program} {w : World} {mg : Str → Option Value} {base : Heap} {W : Wd} {f : Addr} {fd : FuncData} (hW : W.ct = ct0) (F : FnP W 7 "is_integer" [] [] f fd) (hg : mg "is_integer" = some (.ref f)) (b_isinstance : mg "isinstance" = none) (b_int : mg "int" = none) (b_bool : mg "bool" = none) : Has P w mg base W 1 "is_integer" ["thing"] 1 f_is_integer [(1, [], [0], [])] := by
  have nd : (["thing"] : List Str).Nodup := sc_is_integer.nd
  refine ⟨f, fd, hg, F.kp, fnD F sc_is_integer rfl fun cdv A outer s H E hr tk => ?_, fun b hb => ?_⟩
  · exact (ss1 (sRet (andVD (bD (cIsiE rfl hW) b_isinstance bt_isinstance (aD (vv 0) (aD (tyD b_int bt_int) nD))) (oneVD (notVD (bD (cIsiE rfl hW) b_isinstance bt_isinstance (aD (vv 0) (aD (tyD b_bool bt_bool) nD))))))))
  · simp only [List.mem_cons, List.not_mem_nil, or_false] at hb
    rcases hb with rfl
    · exact bnN F 1 [] [0] fun _ _ _ _ _ _ us ws h1 h2 => match us, h1, ws, h2 with | [_], _, [], _ => rfl
theorem sc_is_word : FnScope ["thing", "sign"] ["thing"] (defScope (top 8)) := ⟨rfl, rfl, rfl, by decide +kernel, rfl, by decide +kernel, by decide +kernel⟩
theorem ok_is_word {P : Program} {w : World} {mg : Str → Option Value} {base : Heap} {W : Wd} {f : Addr} {fd : FuncData} (hW : W.ct = ct0) (F : FnP W 8 "is_word" [] [] f fd) (hg : mg "is_word" = some (.ref f)) (b_isinstance : mg "isinstance" = none) (b_str : mg "str" = none) (b_len : mg "len" = none) (c_MOST_LETTERS : ∃ t, mg "MOST_LETTERS" = some (.int 6 t)) (b_all : mg "all" = none) (c_LETTERS : ∃ t, mg "LETTERS" = some (.str "abcdefghijklmnopqrstuvwxyz" t)) : Has P w mg base W 1 "is_word" ["thing"] 1 f_is_word [(1, [], [0], [])] := by
  have nd : (["thing", "sign"] : List Str).Nodup := sc_is_word.nd
  refine ⟨f, fd, hg, F.kp, fnD F sc_is_word rfl fun cdv A outer s H E hr tk => ?_, fun b hb => ?_⟩
  · exact (ss1 (sRet (andVD (bD (cIsiE rfl hW) b_isinstance bt_isinstance (aD (vv 0) (aD (tyD b_str bt_str) nD))) (andVD (chnD oLe oLe iD (bD (cLen rfl) b_len bt_len (aD (vv 0) nD)) (gcD c_MOST_LETTERS.choose_spec (y := (.int 6)) ⟨_, rfl⟩ fun _ _ => .int _)) (oneVD (bD (cAll rfl rfl) b_all bt_all (aD (lcD (own := [("sign", 1)]) rfl nd (srcD rfl (vv 0)) (blkOk (by kernel_rfl)) (fun _ _ _ _ _ => (gN nd rfl (by first | exact .inl rfl | exact .inr rfl) trivial (fun σ v => wipe_set σ (by decide)))) (fun _ _ _ _ _ => yesD) (fun _ _ _ _ _ => (cmD (oIn rfl (ru5 hr)) (vv 1) (gcD c_LETTERS.choose_spec (y := (.str "abcdefghijklmnopqrstuvwxyz")) ⟨_, rfl⟩ fun _ _ => .str _) rfl)) (fun _ _ => trivial)) nD)))))))
  · simp only [List.mem_cons, List.not_mem_nil, or_false] at hb
    rcases hb with rfl
    · exact bnN F 1 [] [0] fun _ _ _ _ _ _ us ws h1 h2 => match us, h1, ws, h2 with | [_], _, [], _ => rfl
theorem sc_is_short : FnScope ["thing"] ["thing"] (defScope (top 9)) := ⟨rfl, rfl, rfl, by decide +kernel, rfl, by decide +kernel, by decide +kernel⟩
theorem ok_is_short {P : Program} {w : World} {mg : Str → Option Value} {base : Heap} {W : Wd} {f : Addr} {fd : FuncData} (hW : W.ct = ct0) (F : FnP W 9 "is_short" [] [] f fd) (hg : mg "is_short" = some (.ref f)) (b_abs : mg "abs" = none) (H_is_integer : Has P w mg base W 1 "is_integer" ["thing"] 1 f_is_integer [(1, [], [0], [])]) : Has P w mg base W 2 "is_short" ["thing"] 1 f_is_short [(1, [], [0], [])] := by
  have nd : (["thing"] : List Str).Nodup := sc_is_short.nd
  refine ⟨f, fd, hg, F.kp, fnD F sc_is_short rfl fun cdv A outer s H E hr tk => ?_, fun b hb => ?_⟩
  · exact (ss1 (sRet (andVD (callH H_is_integer 0 rfl rfl hr (by decide) rfl tk (aD (vv 0) nD) kNil) (oneVD (cmD oLt (bD cAbs b_abs bt_abs (aD (vv 0) nD)) (opD oPow iD iD) (nomark _))))))
  · simp only [List.mem_cons, List.not_mem_nil, or_false] at hb
    rcases hb with rfl
    · exact bnN F 1 [] [0] fun _ _ _ _ _ _ us ws h1 h2 => match us, h1, ws, h2 with | [_], _, [], _ => rfl
theorem sc_is_item : FnScope ["thing"] ["thing"] (defScope (top 10)) := ⟨rfl, rfl, rfl, by decide +kernel, rfl, by decide +kernel, by decide +kernel⟩
theorem ok_is_item {P : Program} {w : World} {mg : Str → Option Value} {base : Heap} {W : Wd} {f : Addr} {fd : FuncData} (hW : W.ct = ct0) (F : FnP W 10 "is_item" [] [] f fd) (hg : mg "is_item" = some (.ref f)) (H_is_word : Has P w mg base W 1 "is_word" ["thing"] 1 f_is_word [(1, [], [0], [])]) (H_is_short : Has P w mg base W 2 "is_short" ["thing"] 1 f_is_short [(1, [], [0], [])]) : Has P w mg base W 3 "is_item" ["thing"] 1 f_is_item [(1, [], [0], [])] := by
  have nd : (["thing"] : List Str).Nodup := sc_is_item.nd
  refine ⟨f, fd, hg, F.kp, fnD F sc_is_item rfl fun cdv A outer s H E hr tk => ?_, fun b hb => ?_⟩
  · exact (ss1 (sRet (orVD (callH H_is_word 0 rfl rfl hr (by decide) rfl tk (aD (vv 0) nD) kNil) (oneVD (callH H_is_short 0 rfl rfl hr (by decide) rfl tk (aD (vv 0) nD) kNil)))))
  · simp only [List.mem_cons, List.not_mem_nil, or_false] at hb
    rcases hb with rfl
    · exact bnN F 1 [] [0] fun _ _ _ _ _ _ us ws h1 h2 => match us, h1, ws, h2 with | [_], _, [], _ => rfl
theorem sc_is_deed : FnScope ["thing", "word", "given"] ["thing"] (defScope (top 17)) := ⟨rfl, rfl, rfl, by decide +kernel, rfl, by decide +kernel, by decide +kernel⟩
theorem ok_is_deed {P : Program} {w : World} {mg : Str → Option Value} {base : Heap} {W : Wd} {f : Addr} {fd : FuncData} (hW : W.ct = ct0) (F : FnP W 17 "is_deed" [] [] f fd) (hg : mg "is_deed" = some (.ref f)) (b_isinstance : mg "isinstance" = none) (b_tuple : mg "tuple" = none) (b_len : mg "len" = none) (b_str : mg "str" = none) (c_SINGLE : ∃ a, mg "SINGLE" = some (.ref a) ∧ ∀ H, SqT W.K H a [(.str "pop"), (.str "pop_left"), (.str "reverse")]) (b_abs : mg "abs" = none) (c_MOST_STEPS : ∃ t, mg "MOST_STEPS" = some (.int 9 t)) (c_ADDING : ∃ a, mg "ADDING" = some (.ref a) ∧ ∀ H, SqT W.K H a [(.str "append"), (.str "append_left")]) (H_is_integer : Has P w mg base W 1 "is_integer" ["thing"] 1 f_is_integer [(1, [], [0], [])]) (H_is_item : Has P w mg base W 3 "is_item" ["thing"] 1 f_is_item [(1, [], [0], [])]) : Has P w mg base W 4 "is_deed" ["thing"] 1 f_is_deed [(1, [], [0], [])] := by
  have nd : (["thing", "word", "given"] : List Str).Nodup := sc_is_deed.nd
  refine ⟨f, fd, hg, F.kp, fnD F sc_is_deed rfl fun cdv A outer s H E hr tk => ?_, fun b hb => ?_⟩
  · exact (ssC (sIf (orD (notD (tstD (bD (cIsiE rfl hW) b_isinstance bt_isinstance (aD (vv 0) (aD (tyD b_tuple bt_tuple) nD))))) (orD (notD (chT oLe oLe iD (bD (cLen rfl) b_len bt_len (aD (vv 0) nD)) iD)) (or1D (notD (tstD (bD (cIsiE rfl hW) b_isinstance bt_isinstance (aD (ixD (xIdx rfl (ru1 hr)) (vv 0) iD fun _ _ => rfl) (aD (tyD b_str bt_str) nD)))))))).pt
  (ss1 (sRet bD0))
  ss0) (ssC (sIf (cmT (oEq rfl (ru hr)) (bD (cLen rfl) b_len bt_len (aD (vv 0) nD)) iD (nomark _))
  (ss1 (sRet (cmD (oIn rfl (ru5 hr)) (ixD (xIdx rfl (ru1 hr)) (vv 0) iD fun _ _ => rfl) (gcD c_SINGLE.choose_spec.1 (y := .ref _) rfl fun io H => .tup (c_SINGLE.choose_spec.2 H) (kr_SINGLE io H)) rfl)))
  ss0) (ssC (sAsg (vv 0) (gT rfl rfl (gsC anyC_ok (gN nd rfl (by first | exact .inl rfl | exact .inr rfl) trivial (fun _ _ => trivial)) (gsC anyC_ok (gN nd rfl (by first | exact .inl rfl | exact .inr rfl) trivial (fun _ _ => trivial)) (gs0 anyC_ok))) (dgC_len (dgC_len dg0_len)))) (ssC (sIf (cmT (oEq rfl (ru hr)) (vv 1) sD (nomark _))
  (ss1 (sRet (andVD (callH H_is_integer 0 rfl rfl hr (by decide) rfl tk (aD (vv 2) nD) kNil) (oneVD (cmD oLe (bD cAbs b_abs bt_abs (aD (vv 2) nD)) (gcD c_MOST_STEPS.choose_spec (y := (.int 9)) ⟨_, rfl⟩ fun _ _ => .int _) (nomark _))))))
  ss0) (ss1 (sRet (andVD (cmD (oIn rfl (ru5 hr)) (vv 1) (gcD c_ADDING.choose_spec.1 (y := .ref _) rfl fun io H => .tup (c_ADDING.choose_spec.2 H) (kr_ADDING io H)) rfl) (oneVD (callH H_is_item 0 rfl rfl hr (by decide) rfl tk (aD (vv 2) nD) kNil)))))))))
  · simp only [List.mem_cons, List.not_mem_nil, or_false] at hb
    rcases hb with rfl
    · exact bnN F 1 [] [0] fun _ _ _ _ _ _ us ws h1 h2 => match us, h1, ws, h2 with | [_], _, [], _ => rfl
theorem sc_is_row : FnScope ["thing", "deed"] ["thing"] (defScope (top 18)) := ⟨rfl, rfl, rfl, by decide +kernel, rfl, by decide +kernel, by decide +kernel⟩
theorem ok_is_row {P : Program} {w : World} {mg : Str → Option Value} {base : Heap} {W : Wd} {f : Addr} {fd : FuncData} (hW : W.ct = ct0) (F : FnP W 18 "is_row" [] [] f fd) (hg : mg "is_row" = some (.ref f)) (b_isinstance : mg "isinstance" = none) (b_tuple : mg "tuple" = none) (b_len : mg "len" = none) (c_MOST_DEEDS : ∃ t, mg "MOST_DEEDS" = some (.int 12 t)) (b_all : mg "all" = none) (H_is_deed : Has P w mg base W 4 "is_deed" ["thing"] 1 f_is_deed [(1, [], [0], [])]) : Has P w mg base W 5 "is_row" ["thing"] 1 f_is_row [(1, [], [0], [])] := by
  have nd : (["thing", "deed"] : List Str).Nodup := sc_is_row.nd
  refine ⟨f, fd, hg, F.kp, fnD F sc_is_row rfl fun cdv A outer s H E hr tk => ?_, fun b hb => ?_⟩
  · exact (ss1 (sRet (andVD (bD (cIsiE rfl hW) b_isinstance bt_isinstance (aD (vv 0) (aD (tyD b_tuple bt_tuple) nD))) (andVD (cmD oLe (bD (cLen rfl) b_len bt_len (aD (vv 0) nD)) (gcD c_MOST_DEEDS.choose_spec (y := (.int 12)) ⟨_, rfl⟩ fun _ _ => .int _) (nomark _)) (oneVD (bD (cAll rfl rfl) b_all bt_all (aD (lcD (own := [("deed", 1)]) rfl nd (srcD rfl (vv 0)) (blkOk (by kernel_rfl)) (fun _ _ _ _ _ => (gN nd rfl (by first | exact .inl rfl | exact .inr rfl) trivial (fun σ v => wipe_set σ (by decide)))) (fun _ _ _ _ _ => yesD) (fun _ _ _ _ _ => (callH H_is_deed 0 rfl rfl hr (by decide) rfl tkE0 (aD (vv 1) nD) kNil)) (fun _ _ => trivial)) nD)))))))
  · simp only [List.mem_cons, List.not_mem_nil, or_false] at hb
    rcases hb with rfl
    · exact bnN F 1 [] [0] fun _ _ _ _ _ _ us ws h1 h2 => match us, h1, ws, h2 with | [_], _, [], _ => rfl
theorem sc_added : FnScope ["left", "deed", "bound", "word", "item", "found"] ["left", "deed", "bound"] (defScope (top 19)) := ⟨rfl, rfl, rfl, by decide +kernel, rfl, by decide +kernel, by decide +kernel⟩
theorem ok_added {P : Program} {w : World} {mg : Str → Option Value} {base : Heap} {W : Wd} {f : Addr} {fd : FuncData} (hW : W.ct = ct0) (F : FnP W 19 "added" [] [] f fd) (hg : mg "added" = some (.ref f)) (b_len : mg "len" = none) : Has P w mg base W 1 "added" ["left", "deed", "bound"] 3 f_added [(3, [], [0, 1, 2], [])] := by
  have nd : (["left", "deed", "bound", "word", "item", "found"] : List Str).Nodup := sc_added.nd
  refine ⟨f, fd, hg, F.kp, fnD F sc_added rfl fun cdv A outer s H E hr tk => ?_, fun b hb => ?_⟩
  · exact (ssC (sAsg (vv 1) (gT rfl rfl (gsC anyC_ok (gN nd rfl (by first | exact .inl rfl | exact .inr rfl) trivial (fun _ _ => trivial)) (gsC anyC_ok (gN nd rfl (by first | exact .inl rfl | exact .inr rfl) trivial (fun _ _ => trivial)) (gs0 anyC_ok))) (dgC_len (dgC_len dg0_len)))) (ssC (sIf (cmT (oEq rfl (ru hr)) (vv 3) sD (nomark _))
  (ssC (sSet nd (i := 5) rfl (by first | exact .inl rfl | exact .inr rfl) (lstD (starD rfl (vv 0) (aD (tupD (aD sD (aD (vv 4) nD))) nD))) trivial) (ss1 (sRet (ifD (andD (cmT oIsNot (vv 2) nD0 (nomark _)) (and1D (cmT oGt (bD (cLen rfl) b_len bt_len (aD (vv 5) nD)) (vv 2) (nomark _)))).pt (slcD rfl (vv 5) (prtD iD) noP) (vv 5)))))
  ss0) (ssC (sSet nd (i := 5) rfl (by first | exact .inl rfl | exact .inr rfl) (lstD (aD (tupD (aD sD (aD (vv 4) nD))) (starD rfl (vv 0) nD))) trivial) (ss1 (sRet (ifD (andD (cmT oIsNot (vv 2) nD0 (nomark _)) (and1D (cmT oGt (bD (cLen rfl) b_len bt_len (aD (vv 5) nD)) (vv 2) (nomark _)))).pt (slcD rfl (vv 5) noP (prtD (unD uNeg iD))) (vv 5)))))))
  · simp only [List.mem_cons, List.not_mem_nil, or_false] at hb
    rcases hb with rfl
    · exact bnN F 3 [] [0, 1, 2] fun _ _ _ _ _ _ us ws h1 h2 => match us, h1, ws, h2 with | [_, _, _], _, [], _ => rfl
theorem sc_turned : FnScope ["left", "deed", "word", "steps", "by"] ["left", "deed"] (defScope (top 20)) := ⟨rfl, rfl, rfl, by decide +kernel, rfl, by decide +kernel, by decide +kernel⟩
theorem ok_turned {P : Program} {w : World} {mg : Str → Option Value} {base : Heap} {W : Wd} {f : Addr} {fd : FuncData} (hW : W.ct = ct0) (F : FnP W 20 "turned" [] [] f fd) (hg : mg "turned" = some (.ref f)) (b_len : mg "len" = none) : Has P w mg base W 1 "turned" ["left", "deed"] 2 f_turned [(2, [], [0, 1], [])] := by
  have nd : (["left", "deed", "word", "steps", "by"] : List Str).Nodup := sc_turned.nd
  refine ⟨f, fd, hg, F.kp, fnD F sc_turned rfl fun cdv A outer s H E hr tk => ?_, fun b hb => ?_⟩
  · exact (ssC (sStar rfl rfl (vv 1) (gsC anyC_ok (gN nd rfl (by first | exact .inl rfl | exact .inr rfl) trivial (fun _ _ => trivial)) (gsS anyC_ok (gN nd rfl (by first | exact .inl rfl | exact .inr rfl) trivial (fun _ _ => trivial)) (gs0 anyC_ok)))) (ssC (sIf (orD (cmT (oEq rfl (ru hr)) (vv 2) sD (nomark _)) (or1D (cmT (oEq rfl (ru hr)) (vv 0) (lstD nD) (nomark _)))).pt
  (ss1 (sRet (revD rfl (vv 0))))
  ss0) (ssC (sSet nd (i := 4) rfl (by first | exact .inl rfl | exact .inr rfl) (opD oMod (unD uNeg (ixD (xIdx rfl (ru1 hr)) (vv 3) iD fun _ _ => rfl)) (bD (cLen rfl) b_len bt_len (aD (vv 0) nD))) trivial) (ss1 (sRet (opD (oAdd rfl) (slcD rfl (vv 0) (prtD (vv 4)) noP) (slcD rfl (vv 0) noP (prtD (vv 4)))))))))
  · simp only [List.mem_cons, List.not_mem_nil, or_false] at hb
    rcases hb with rfl
    · exact bnN F 2 [] [0, 1] fun _ _ _ _ _ _ us ws h1 h2 => match us, h1, ws, h2 with | [_, _], _, [], _ => rfl
theorem sc_carried_out : FnScope ["row", "length", "bound", "left", "told", "index", "at", "deed"] ["row", "length", "bound"] (defScope (top 21)) := ⟨rfl, rfl, rfl, by decide +kernel, rfl, by decide +kernel, by decide +kernel⟩
theorem ok_carried_out {P : Program} {w : World} {mg : Str → Option Value} {base : Heap} {W : Wd} {f : Addr} {fd : FuncData} (hW : W.ct = ct0) (F : FnP W 21 "carried_out" [] [] f fd) (hg : mg "carried_out" = some (.ref f)) (b_range : mg "range" = none) (b_enumerate : mg "enumerate" = none) (c_ADDING : ∃ a, mg "ADDING" = some (.ref a) ∧ ∀ H, SqT W.K H a [(.str "append"), (.str "append_left")]) (b_tuple : mg "tuple" = none) (H_added : Has P w mg base W 1 "added" ["left", "deed", "bound"] 3 f_added [(3, [], [0, 1, 2], [])]) (H_turned : Has P w mg base W 1 "turned" ["left", "deed"] 2 f_turned [(2, [], [0, 1], [])]) : Has P w mg base W 2 "carried_out" ["row", "length", "bound"] 3 f_carried_out [(3, [], [0, 1, 2], [])] := by
  have nd : (["row", "length", "bound", "left", "told", "index", "at", "deed"] : List Str).Nodup := sc_carried_out.nd
  refine ⟨f, fd, hg, F.kp, fnD F sc_carried_out rfl fun cdv A outer s H E hr tk => ?_, fun b hb => ?_⟩
  · exact (ssC (sPar2 rfl nd rfl rfl (by decide) rfl rfl (aD (lcD (own := [("index", 5)]) rfl nd (rg1D rfl b_range (aD (vv 1) nD)) (blkOk (by kernel_rfl)) (fun _ _ _ _ _ => (gN nd rfl (by first | exact .inl rfl | exact .inr rfl) trivial (fun σ v => wipe_set σ (by decide)))) (fun _ _ _ _ _ => yesD) (fun _ _ _ _ _ => (tupD (aD sD (aD (vv 5) nD)))) (fun _ _ => trivial)) (aD (lstD nD) nD)) trivial trivial) (ssC (sFor (passes_of rfl) rfl (enmD rfl (vv 0) b_enumerate) (gT rfl rfl (gsC anyC_ok (gN nd rfl (by first | exact .inl rfl | exact .inr rfl) trivial (fun _ _ => trivial)) (gsC anyC_ok (gN nd rfl (by first | exact .inl rfl | exact .inr rfl) trivial (fun _ _ => trivial)) (gs0 anyC_ok))) (dgC_len (dgC_len dg0_len)))
  (ss1 (sIf (cmT (oIn rfl (ru5 hr)) (ixD (xIdx rfl (ru1 hr)) (vv 7) iD fun _ _ => rfl) (gcD c_ADDING.choose_spec.1 (y := .ref _) rfl fun io H => .tup (c_ADDING.choose_spec.2 H) (kr_ADDING io H)) rfl)
  (ss1 (sSet nd (i := 3) rfl (by first | exact .inl rfl | exact .inr rfl) (callH H_added 0 rfl rfl hr (by decide) rfl tk (aD (vv 3) (aD (vv 7) (aD (vv 2) nD))) kNil) trivial))
  (ss1 (sIf (cmT (oIn rfl (ru5 hr)) (ixD (xIdx rfl (ru1 hr)) (vv 7) iD fun _ _ => rfl) (tupD (aD sD (aD sD nD))) rfl)
  (ss1 (sSet nd (i := 3) rfl (by first | exact .inl rfl | exact .inr rfl) (callH H_turned 0 rfl rfl hr (by decide) rfl tk (aD (vv 3) (aD (vv 7) nD)) kNil) trivial))
  (ss1 (sIf (cmT (oEq rfl (ru hr)) (vv 3) (lstD nD) (nomark _))
  (ss1 (sRet (tupD (aD sD (aD (vv 6) nD)))))
  (ss1 (sExpr (mD rfl PySem.F.plainAttrs_list PySem.F.slot_list_append meAppend (vv 4) (aD (mD rfl PySem.F.plainAttrs_list PySem.F.slot_list_pop mePop (vv 3) (aD (ifD (cmT (oEq rfl (ru hr)) (vv 7) (tupD (aD sD nD)) (nomark _)) (unD uNeg iD) iD) nD)) nD))))))))))) (ss1 (sRet (tupD (aD sD (aD (yD (cTuple rfl) b_tuple bt_tuple (aD (vv 3) nD)) (aD (yD (cTuple rfl) b_tuple bt_tuple (aD (vv 4) nD)) nD))))))))
  · simp only [List.mem_cons, List.not_mem_nil, or_false] at hb
    rcases hb with rfl
    · exact bnN F 3 [] [0, 1, 2] fun _ _ _ _ _ _ us ws h1 h2 => match us, h1, ws, h2 with | [_, _, _], _, [], _ => rfl
theorem sc_effect : FnScope ["row", "length", "bound", "most"] ["row", "length", "bound"] (defScope (top 22)) := ⟨rfl, rfl, rfl, by decide +kernel, rfl, by decide +kernel, by decide +kernel⟩
theorem ok_effect {P : Program} {w : World} {mg : Str → Option Value} {base : Heap} {W : Wd} {f : Addr} {fd : FuncData} (hW : W.ct = ct0) (F : FnP W 22 "effect" [] [("bound", .non)] f fd) (hg : mg "effect" = some (.ref f)) (c_MOST_BOUND : ∃ t, mg "MOST_BOUND" = some (.int 1000 t)) (H_is_row : Has P w mg base W 5 "is_row" ["thing"] 1 f_is_row [(1, [], [0], [])]) (H_is_integer : Has P w mg base W 1 "is_integer" ["thing"] 1 f_is_integer [(1, [], [0], [])]) (H_carried_out : Has P w mg base W 2 "carried_out" ["row", "length", "bound"] 3 f_carried_out [(3, [], [0, 1, 2], [])]) : Has P w mg base W 6 "effect" ["row", "length", "bound"] 3 f_effect [(2, ["bound"], [0, 1, 2], []), (2, [], [0, 1, 2], [.non])] := by
  have nd : (["row", "length", "bound", "most"] : List Str).Nodup := sc_effect.nd
  refine ⟨f, fd, hg, F.kp, fnD F sc_effect rfl fun cdv A outer s H E hr tk => ?_, fun b hb => ?_⟩
  · exact (ssC (sIf (notD (tstD (callH H_is_row 0 rfl rfl hr (by decide) rfl tk (aD (vv 0) nD) kNil)))
  (ss1 wallS)
  ss0) (ssC (sSet nd (i := 3) rfl (by first | exact .inl rfl | exact .inr rfl) (ifD (cmT oIs (vv 2) nD0 (nomark _)) (gcD c_MOST_BOUND.choose_spec (y := (.int 1000)) ⟨_, rfl⟩ fun _ _ => .int _) (vv 2)) trivial) (ssC (sIf (orD (notD (tstD (callH H_is_integer 0 rfl rfl hr (by decide) rfl tk (aD (vv 1) nD) kNil))) (or1D (notD (chT oLe oLe iD (vv 1) (vv 3))))).pt
  (ss1 wallS)
  ss0) (ss1 (sRet (callH H_carried_out 0 rfl rfl hr (by decide) rfl tk (aD (vv 0) (aD (vv 1) (aD (vv 2) nD))) kNil))))))
  · simp only [List.mem_cons, List.not_mem_nil, or_false] at hb
    rcases hb with rfl | rfl
    · exact bnN F 2 ["bound"] [0, 1, 2] fun _ _ _ _ _ _ us ws h1 h2 => match us, h1, ws, h2 with | [_, _], _, [_], _ => rfl
    · exact bnK F 2 [] [("bound", .non)] [0, 1, 2] (by decide) (by decide) (fun io H => .cons ((.non)) (.nil)) fun _ _ _ _ _ _ us mv ws h1 h2 h3 => match us, h1, mv, h2, ws, h3 with | [_, _], _, [_], _, [], _ => ⟨_, _, _, _, _, _, rfl, rfl, rfl⟩
theorem sc__law_near : FnScope ["_law_part", "_law_many", "_law_word", "_law_at"] ["_law_part", "_law_many"] (defScope (top 28)) := ⟨rfl, rfl, rfl, by decide +kernel, rfl, by decide +kernel, by decide +kernel⟩
theorem ok__law_near {P : Program} {w : World} {mg : Str → Option Value} {base : Heap} {W : Wd} {f : Addr} {fd : FuncData} (hW : W.ct = ct0) (F : FnP W 28 "_law_near" [] [] f fd) (hg : mg "_law_near" = some (.ref f))  : Has P w mg base W 1 "_law_near" ["_law_part", "_law_many"] 2 f__law_near [(2, [], [0, 1], [])] := by
  have nd : (["_law_part", "_law_many", "_law_word", "_law_at"] : List Str).Nodup := sc__law_near.nd
  refine ⟨f, fd, hg, F.kp, fnD F sc__law_near rfl fun cdv A outer s H E hr tk => ?_, fun b hb => ?_⟩
  · exact (ssC (sAsg (vv 0) (gT rfl rfl (gsC anyC_ok (gN nd rfl (by first | exact .inl rfl | exact .inr rfl) trivial (fun _ _ => trivial)) (gsC anyC_ok (gN nd rfl (by first | exact .inl rfl | exact .inr rfl) trivial (fun _ _ => trivial)) (gs0 anyC_ok))) (dgC_len (dgC_len dg0_len)))) (ssC (sIf (cmT (oEq rfl (ru hr)) (vv 2) sD (nomark _))
  (ss1 (sRet (vv 0)))
  ss0) (ss1 (sRet (ifD (cmT oLt (vv 3) iD (nomark _)) (tupD (aD sD (aD (vv 3) nD))) (ifD (cmT oLt (opD oSub (vv 1) (vv 3)) iD (nomark _)) (tupD (aD sD (aD (opD oSub (vv 1) (vv 3)) nD))) (tupD (aD sD (aD (vv 3) nD)))))))))
  · simp only [List.mem_cons, List.not_mem_nil, or_false] at hb
    rcases hb with rfl
    · exact bnN F 2 [] [0, 1] fun _ _ _ _ _ _ us ws h1 h2 => match us, h1, ws, h2 with | [_, _], _, [], _ => rfl
theorem sc__law_outline : FnScope ["_law_some", "_law_many", "_law_found", "_law_middle", "_law_part", "_law_near_here", "_law_run"] ["_law_some", "_law_many"] (defScope (top 29)) := ⟨rfl, rfl, rfl, by decide +kernel, rfl, by decide +kernel, by decide +kernel⟩
theorem ok__law_outline {P : Program} {w : World} {mg : Str → Option Value} {base : Heap} {W : Wd} {f : Addr} {fd : FuncData} (hW : W.ct = ct0) (F : FnP W 29 "_law_outline" [] [] f fd) (hg : mg "_law_outline" = some (.ref f)) (b_int : mg "int" = none) (b_list : mg "list" = none) (b_range : mg "range" = none) (H__law_near : Has P w mg base W 1 "_law_near" ["_law_part", "_law_many"] 2 f__law_near [(2, [], [0, 1], [])]) : Has P w mg base W 2 "_law_outline" ["_law_some", "_law_many"] 2 f__law_outline [(2, [], [0, 1], [])] := by
  have nd : (["_law_some", "_law_many", "_law_found", "_law_middle", "_law_part", "_law_near_here", "_law_run"] : List Str).Nodup := sc__law_outline.nd
  refine ⟨f, fd, hg, F.kp, fnD F sc__law_outline rfl fun cdv A outer s H E hr tk => ?_, fun b hb => ?_⟩
  · exact (ssC (sPar2 rfl nd rfl rfl (by decide) rfl rfl (aD (lstD nD) (aD (lstD nD) nD)) trivial trivial) (ssC (sFor (passes_of rfl) rfl (srcD rfl (vv 0)) (gN nd rfl (by first | exact .inl rfl | exact .inr rfl) trivial (fun _ _ => trivial))
  (ssC (sSet nd (i := 5) rfl (by first | exact .inl rfl | exact .inr rfl) (callH H__law_near 0 rfl rfl hr (by decide) rfl tk (aD (vv 4) (aD (vv 1) nD)) kNil) trivial) (ssC (sIf (cmT (oNe rfl (ru hr)) (ixD (xIdx rfl (ru1 hr)) (vv 5) iD fun _ _ => rfl) sD (nomark _))
  (ss1 (sExpr (mD rfl PySem.F.plainAttrs_list PySem.F.slot_list_append meAppend (vv 2) (aD (vv 5) nD))))
  (ss1 (sIf (cmT (oEq rfl (ru hr)) (vv 3) (lstD nD) (nomark _))
  (ss1 (sExpr (mD rfl PySem.F.plainAttrs_list PySem.F.slot_list_append meAppend (vv 2) (aD sD nD))))
  ss0))) (ss1 (sSet nd (i := 3) rfl (by first | exact .inl rfl | exact .inr rfl) (opD (oAdd rfl) (vv 3) (opD oMul (lstD (aD (ixD (xIdx rfl (ru1 hr)) (vv 5) iD fun _ _ => rfl) nD)) (yD cInt b_int bt_int (aD (cmD (oEq rfl (ru hr)) (ixD (xIdx rfl (ru1 hr)) (vv 5) iD fun _ _ => rfl) sD (nomark _)) nD)))) trivial))))) (ssC (sSet nd (i := 6) rfl (by first | exact .inl rfl | exact .inr rfl) (lr2D rfl b_list b_range iD (opD oSub (vv 1) iD)) trivial) (ss1 (sRet (tupD (aD (vv 2) (aD (lstD (aD (cmD (oEq rfl (ru hr)) (vv 3) (vv 6) (nomark _)) (aD (cmD (oEq rfl (ru hr)) (vv 3) (revD rfl (vv 6)) (nomark _)) nD))) nD))))))))
  · simp only [List.mem_cons, List.not_mem_nil, or_false] at hb
    rcases hb with rfl
    · exact bnN F 2 [] [0, 1] fun _ _ _ _ _ _ us ws h1 h2 => match us, h1, ws, h2 with | [_, _], _, [], _ => rfl
theorem sc_law : FnScope ["_law_script", "_law_place", "_law_source_here", "_law_turn", "_law_row_here", "_law_one", "_law_other", "_law_first", "_law_second", "_law_part", "_law_outline_here", "_law_ways"] ["_law_script"] (defScope (top 30)) := ⟨rfl, rfl, rfl, by decide +kernel, rfl, by decide +kernel, by decide +kernel⟩
theorem ok_law {P : Program} {w : World} {mg : Str → Option Value} {base : Heap} {W : Wd} {f : Addr} {fd : FuncData} (hW : W.ct = ct0) (F : FnP W 30 "law" [] [] f fd) (hg : mg "law" = some (.ref f)) (b_range : mg "range" = none) (b_max : mg "max" = none) (b_min : mg "min" = none) (b_len : mg "len" = none) (H__law_source : Has P w mg base W 1 "_law_source" ["_law_script", "_law_place"] 2 f__law_source [(2, [], [0, 1], [])]) (H__law_row : Has P w mg base W 3 "_law_row" ["_law_source_here", "_law_most"] 2 f__law_row [(2, [], [0, 1], [])]) (H__law_draw : Has P w mg base W 1 "_law_draw" ["_law_source_here", "_law_often"] 2 f__law_draw [(2, [], [0, 1], [])]) (H_effect : Has P w mg base W 6 "effect" ["row", "length", "bound"] 3 f_effect [(2, ["bound"], [0, 1, 2], []), (2, [], [0, 1, 2], [.non])]) (H__law_near : Has P w mg base W 1 "_law_near" ["_law_part", "_law_many"] 2 f__law_near [(2, [], [0, 1], [])]) (H__law_outline : Has P w mg base W 2 "_law_outline" ["_law_some", "_law_many"] 2 f__law_outline [(2, [], [0, 1], [])]) : FnOk P w W.K mg base (L2.CX P w) 7 f fd ["_law_script"] (spD W 1 f_law) := by
  have nd : (["_law_script", "_law_place", "_law_source_here", "_law_turn", "_law_row_here", "_law_one", "_law_other", "_law_first", "_law_second", "_law_part", "_law_outline_here", "_law_ways"] : List Str).Nodup := sc_law.nd
  refine fnD F sc_law rfl fun cdv A outer s H E hr tk => ?_
  exact (ssC (sFor (passes_of rfl) rfl (rg1D rfl b_range (aD (bD (cMax rfl) b_max bt_max (aD iD (aD (bD (cMin rfl) b_min bt_min (aD iD (aD (bD (cLen rfl) b_len bt_len (aD (vv 0) nD)) nD))) nD))) nD)) (gN nd rfl (by first | exact .inl rfl | exact .inr rfl) trivial (fun _ _ => trivial))
  (ssC (sSet nd (i := 2) rfl (by first | exact .inl rfl | exact .inr rfl) (callH H__law_source 0 rfl rfl hr (by decide) rfl tk (aD (vv 0) (aD (vv 1) nD)) kNil) trivial) (ss1 (sFor (passes_of rfl) rfl (rg1D rfl b_range (aD iD nD)) (gN nd rfl (by first | exact .inl rfl | exact .inr rfl) trivial (fun _ _ => trivial))
  (ssC (sSet nd (i := 4) rfl (by first | exact .inl rfl | exact .inr rfl) (callH H__law_row 0 rfl rfl hr (by decide) rfl tk (aD (vv 2) (aD iD nD)) kNil) trivial) (ssC (sAsg (tupD (aD (opD (oAdd rfl) iD (callH H__law_draw 0 rfl rfl hr (by decide) rfl tk (aD (vv 2) (aD iD nD)) kNil)) (aD (opD (oAdd rfl) iD (callH H__law_draw 0 rfl rfl hr (by decide) rfl tk (aD (vv 2) (aD iD nD)) kNil)) nD))) (gT rfl rfl (gsC anyC_ok (gN nd rfl (by first | exact .inl rfl | exact .inr rfl) trivial (fun _ _ => trivial)) (gsC anyC_ok (gN nd rfl (by first | exact .inl rfl | exact .inr rfl) trivial (fun _ _ => trivial)) (gs0 anyC_ok))) (dgC_len (dgC_len dg0_len)))) (ssC (sPar2 rfl nd rfl rfl (by decide) rfl rfl (aD (callH H_effect 1 rfl rfl hr (by decide) rfl tk (aD (vv 4) (aD (vv 5) nD)) kNil) (aD (callH H_effect 0 rfl rfl hr (by decide) rfl tk (aD (vv 4) (aD (vv 6) nD)) (kCons iD kNil)) nD)) trivial trivial) (ssC (sIf (orD (cmT (oNe rfl (ru hr)) (ixD (xIdx rfl (ru1 hr)) (vv 7) iD fun _ _ => rfl) sD (nomark _)) (or1D (cmT (oNe rfl (ru hr)) (ixD (xIdx rfl (ru1 hr)) (vv 8) iD fun _ _ => rfl) sD (nomark _)))).pt
  (ss1 (sRet bD0))
  ss0) (ssC (sIf (cmT (oNe rfl (ru hr)) (lcD (own := [("_law_part", 9)]) rfl nd (srcD rfl (ixD (xIdx rfl (ru1 hr)) (vv 7) iD fun _ _ => rfl)) (blkOk (by kernel_rfl)) (fun _ _ _ _ _ => (gN nd rfl (by first | exact .inl rfl | exact .inr rfl) trivial (fun σ v => wipe_set σ (by decide)))) (fun _ _ _ _ _ => yesD) (fun _ _ _ _ _ => (callH H__law_near 0 rfl rfl hr (by decide) rfl tkE0 (aD (vv 9) (aD (vv 5) nD)) kNil)) (fun _ _ => trivial)) (lcD (own := [("_law_part", 9)]) rfl nd (srcD rfl (ixD (xIdx rfl (ru1 hr)) (vv 8) iD fun _ _ => rfl)) (blkOk (by kernel_rfl)) (fun _ _ _ _ _ => (gN nd rfl (by first | exact .inl rfl | exact .inr rfl) trivial (fun σ v => wipe_set σ (by decide)))) (fun _ _ _ _ _ => yesD) (fun _ _ _ _ _ => (callH H__law_near 0 rfl rfl hr (by decide) rfl tkE0 (aD (vv 9) (aD (vv 6) nD)) kNil)) (fun _ _ => trivial)) (nomark _))
  (ss1 (sRet bD0))
  ss0) (ssC (sAsg (callH H__law_outline 0 rfl rfl hr (by decide) rfl tk (aD (ixD (xIdx rfl (ru1 hr)) (vv 7) iD fun _ _ => rfl) (aD (vv 5) nD)) kNil) (gT rfl rfl (gsC anyC_ok (gN nd rfl (by first | exact .inl rfl | exact .inr rfl) trivial (fun _ _ => trivial)) (gsC anyC_ok (gN nd rfl (by first | exact .inl rfl | exact .inr rfl) trivial (fun _ _ => trivial)) (gs0 anyC_ok))) (dgC_len (dgC_len dg0_len)))) (ss1 (sIf (orD (cmT (oNotIn rfl (ru5 hr)) bD0 (vv 11) rfl) (or1D (cmT (oNe rfl (ru hr)) (tupD (aD (vv 10) (aD (vv 11) nD))) (callH H__law_outline 0 rfl rfl hr (by decide) rfl tk (aD (ixD (xIdx rfl (ru1 hr)) (vv 8) iD fun _ _ => rfl) (aD (vv 6) nD)) kNil) (nomark _)))).pt
  (ss1 (sRet bD0))
  ss0)))))))))))) (ss1 (sRet bD0)))
def d__law_source : He.DefD := ⟨("_law_source", none), "_law_source", "_law_source", defArgs (top 24), defBody (top 24), defScope (top 24), [], []⟩
def d__law_draw : He.DefD := ⟨("_law_draw", none), "_law_draw", "_law_draw", defArgs (top 25), defBody (top 25), defScope (top 25), [], []⟩
def d__law_deed : He.DefD := ⟨("_law_deed", none), "_law_deed", "_law_deed", defArgs (top 26), defBody (top 26), defScope (top 26), [], []⟩
def d__law_row : He.DefD := ⟨("_law_row", none), "_law_row", "_law_row", defArgs (top 27), defBody (top 27), defScope (top 27), [], []⟩
def d_is_integer : He.DefD := ⟨("is_integer", none), "is_integer", "is_integer", defArgs (top 7), defBody (top 7), defScope (top 7), [], []⟩
def d_is_word : He.DefD := ⟨("is_word", none), "is_word", "is_word", defArgs (top 8), defBody (top 8), defScope (top 8), [], []⟩
def d_is_short : He.DefD := ⟨("is_short", none), "is_short", "is_short", defArgs (top 9), defBody (top 9), defScope (top 9), [], []⟩
def d_is_item : He.DefD := ⟨("is_item", none), "is_item", "is_item", defArgs (top 10), defBody (top 10), defScope (top 10), [], []⟩
def d_is_deed : He.DefD := ⟨("is_deed", none), "is_deed", "is_deed", defArgs (top 17), defBody (top 17), defScope (top 17), [], []⟩
def d_is_row : He.DefD := ⟨("is_row", none), "is_row", "is_row", defArgs (top 18), defBody (top 18), defScope (top 18), [], []⟩
def d_added : He.DefD := ⟨("added", none), "added", "added", defArgs (top 19), defBody (top 19), defScope (top 19), [], []⟩
def d_turned : He.DefD := ⟨("turned", none), "turned", "turned", defArgs (top 20), defBody (top 20), defScope (top 20), [], []⟩
def d_carried_out : He.DefD := ⟨("carried_out", none), "carried_out", "carried_out", defArgs (top 21), defBody (top 21), defScope (top 21), [], []⟩
def d_effect : He.DefD := ⟨("effect", none), "effect", "effect", defArgs (top 22), defBody (top 22), defScope (top 22), [], [("bound", .non)]⟩
def d__law_near : He.DefD := ⟨("_law_near", none), "_law_near", "_law_near", defArgs (top 28), defBody (top 28), defScope (top 28), [], []⟩
def d__law_outline : He.DefD := ⟨("_law_outline", none), "_law_outline", "_law_outline", defArgs (top 29), defBody (top 29), defScope (top 29), [], []⟩
def d_law : He.DefD := ⟨("law", none), "law", "law", defArgs (top 30), defBody (top 30), defScope (top 30), [], []⟩
def fn : List He.DefD := [d__law_source, d__law_draw, d__law_deed, d__law_row, d_is_integer, d_is_word, d_is_short, d_is_item, d_is_deed, d_is_row, d_added, d_turned, d_carried_out, d_effect, d__law_near, d__law_outline, d_law]
def fa : List He.Fa := [.glo "_law_source", .glo "_law_draw", .glo "_law_deed", .glo "_law_row", .glo "is_integer", .glo "is_word", .glo "is_short", .glo "is_item", .glo "is_deed", .glo "is_row", .glo "added", .glo "turned", .glo "carried_out", .glo "effect", .glo "_law_near", .glo "_law_outline", .glo "law", .free "len", .free "abs", .free "int", .free "tuple", .free "range", .free "isinstance", .free "bool", .free "str", .free "all", .free "enumerate", .free "list", .free "max", .free "min", .int "MOST_DEEDS" 12, .int "MOST_STEPS" 9, .int "MOST_LETTERS" 6, .str "LETTERS" "abcdefghijklmnopqrstuvwxyz", .int "MOST_BOUND" 1000]
def xt : List (PySem.W.Frag → Bool) := [tupB "SINGLE" [(.str "pop"), (.str "pop_left"), (.str "reverse")], tupB "ADDING" [(.str "append"), (.str "append_left")], cdB, ckB]
abbrev RR : PySem.W.OpenRow := PySem.W.OpenLaw.row PySem.Challenge.rw_dequecounts_k66_whole_long_deques_are_un
abbrev hk : PySem.W.Hook := hookE 4 fa fn xt
def ob (s : PySem.W.SharedT) : He.AlD := obsEG 4 fa fn xt (HandSHeadRun.getT s)
theorem ob_eq (s : PySem.W.SharedT) : ob s = hk.obs s.abs := obsEG_eq (HandSHeadRun.getT_eq s)
def nms : List PySem.Str := (["CountError", "BadRow", "BadIndex", "MOST_LETTERS", "LETTERS", "is_integer", "is_word", "is_short", "is_item", "MOST_DEEDS", "MOST_STEPS", "MOST_BOUND", "SINGLE", "ADDING", "is_deed", "is_row", "added", "turned", "carried_out", "effect", "_law_source", "_law_draw", "_law_deed", "_law_row", "_law_near", "_law_outline"] : List PySem.Str)
theorem run (w : World) : HandSHeadRun.RunEq RR (PySem.W.view RR.prog [30]) hk ob 40000 nms w := by
  intro os
  kernel_rfl
theorem facts {P : Program} {w : World} {K : PySem.W.Frag} {h : Heap} {mg : Str → Option Value} {f : Addr} (X : K.In h) (G : h.Ns mainGlobals mg) (hfa : mg "law" = some (.ref f)) (c : SaysE fa fn xt K) :
    ∃ fd : FuncData, (∀ (s : Shared) (v : Value), BindsTo s fd ⟨[v], []⟩ [("_law_script", v)]) ∧ ∀ base : Heap, K.In base → base.Ns mainGlobals mg → FnOk P w K mg base (L2.CX P w) 7 f fd ["_law_script"] (spL K) := by
  obtain ⟨c1, c2⟩ := c.says
  obtain ⟨fd__law_source, F__law_source⟩ := c1.def_ 0 (d := d__law_source) rfl
  obtain ⟨fd__law_draw, F__law_draw⟩ := c1.def_ 1 (d := d__law_draw) rfl
  obtain ⟨fd__law_deed, F__law_deed⟩ := c1.def_ 2 (d := d__law_deed) rfl
  obtain ⟨fd__law_row, F__law_row⟩ := c1.def_ 3 (d := d__law_row) rfl
  obtain ⟨fd_is_integer, F_is_integer⟩ := c1.def_ 4 (d := d_is_integer) rfl
  obtain ⟨fd_is_word, F_is_word⟩ := c1.def_ 5 (d := d_is_word) rfl
  obtain ⟨fd_is_short, F_is_short⟩ := c1.def_ 6 (d := d_is_short) rfl
  obtain ⟨fd_is_item, F_is_item⟩ := c1.def_ 7 (d := d_is_item) rfl
  obtain ⟨fd_is_deed, F_is_deed⟩ := c1.def_ 8 (d := d_is_deed) rfl
  obtain ⟨fd_is_row, F_is_row⟩ := c1.def_ 9 (d := d_is_row) rfl
  obtain ⟨fd_added, F_added⟩ := c1.def_ 10 (d := d_added) rfl
  obtain ⟨fd_turned, F_turned⟩ := c1.def_ 11 (d := d_turned) rfl
  obtain ⟨fd_carried_out, F_carried_out⟩ := c1.def_ 12 (d := d_carried_out) rfl
  obtain ⟨fd_effect, F_effect⟩ := c1.def_ 13 (d := d_effect) rfl
  obtain ⟨fd__law_near, F__law_near⟩ := c1.def_ 14 (d := d__law_near) rfl
  obtain ⟨fd__law_outline, F__law_outline⟩ := c1.def_ 15 (d := d__law_outline) rfl
  obtain ⟨fd_law, F_law⟩ := c1.def_ 16 (d := d_law) rfl
  have e := hfa.symm.trans (He.glo_ok X G (c1.fact 16 (f := .glo "law") rfl))
  cases e
  have bl := FunD.bindsA (ps := ["_law_script"]) F_law fun _ _ _ _ _ _ us hl => match us, hl with | [_], _ => rfl
  refine ⟨fd_law, fun s v => bl s [v] rfl, fun base _ _ => ?_⟩
  have hW : (mkW K (cdB_ok (c2 2 _ rfl)) (ckB_ok (c2 3 _ rfl))).ct = ct0 := rfl
  have H__law_source := ok__law_source (P := P) (w := w) (base := base) (W := (mkW K (cdB_ok (c2 2 _ rfl)) (ckB_ok (c2 3 _ rfl)))) hW F__law_source (He.glo_ok X G (c1.fact 0 (f := .glo "_law_source") rfl)) (He.free_ok X G (c1.fact 17 (f := .free "len") rfl)) (He.free_ok X G (c1.fact 18 (f := .free "abs") rfl)) (He.free_ok X G (c1.fact 19 (f := .free "int") rfl))
  have H__law_draw := ok__law_draw (P := P) (w := w) (base := base) (W := (mkW K (cdB_ok (c2 2 _ rfl)) (ckB_ok (c2 3 _ rfl)))) hW F__law_draw (He.glo_ok X G (c1.fact 1 (f := .glo "_law_draw") rfl)) 
  have H__law_deed := ok__law_deed (P := P) (w := w) (base := base) (W := (mkW K (cdB_ok (c2 2 _ rfl)) (ckB_ok (c2 3 _ rfl)))) hW F__law_deed (He.glo_ok X G (c1.fact 2 (f := .glo "_law_deed") rfl)) H__law_draw
  have H__law_row := ok__law_row (P := P) (w := w) (base := base) (W := (mkW K (cdB_ok (c2 2 _ rfl)) (ckB_ok (c2 3 _ rfl)))) hW F__law_row (He.glo_ok X G (c1.fact 3 (f := .glo "_law_row") rfl)) (He.free_ok X G (c1.fact 20 (f := .free "tuple") rfl)) (He.free_ok X G (c1.fact 21 (f := .free "range") rfl)) H__law_draw H__law_deed
  have H_is_integer := ok_is_integer (P := P) (w := w) (base := base) (W := (mkW K (cdB_ok (c2 2 _ rfl)) (ckB_ok (c2 3 _ rfl)))) hW F_is_integer (He.glo_ok X G (c1.fact 4 (f := .glo "is_integer") rfl)) (He.free_ok X G (c1.fact 22 (f := .free "isinstance") rfl)) (He.free_ok X G (c1.fact 19 (f := .free "int") rfl)) (He.free_ok X G (c1.fact 23 (f := .free "bool") rfl))
  have H_is_word := ok_is_word (P := P) (w := w) (base := base) (W := (mkW K (cdB_ok (c2 2 _ rfl)) (ckB_ok (c2 3 _ rfl)))) hW F_is_word (He.glo_ok X G (c1.fact 5 (f := .glo "is_word") rfl)) (He.free_ok X G (c1.fact 22 (f := .free "isinstance") rfl)) (He.free_ok X G (c1.fact 24 (f := .free "str") rfl)) (He.free_ok X G (c1.fact 17 (f := .free "len") rfl)) (He.int_ok X G (c1.fact 32 (f := .int "MOST_LETTERS" 6) rfl)) (He.free_ok X G (c1.fact 25 (f := .free "all") rfl)) (He.str_ok X G (c1.fact 33 (f := .str "LETTERS" "abcdefghijklmnopqrstuvwxyz") rfl))
  have H_is_short := ok_is_short (P := P) (w := w) (base := base) (W := (mkW K (cdB_ok (c2 2 _ rfl)) (ckB_ok (c2 3 _ rfl)))) hW F_is_short (He.glo_ok X G (c1.fact 6 (f := .glo "is_short") rfl)) (He.free_ok X G (c1.fact 18 (f := .free "abs") rfl)) H_is_integer
  have H_is_item := ok_is_item (P := P) (w := w) (base := base) (W := (mkW K (cdB_ok (c2 2 _ rfl)) (ckB_ok (c2 3 _ rfl)))) hW F_is_item (He.glo_ok X G (c1.fact 7 (f := .glo "is_item") rfl)) H_is_word H_is_short
  have H_is_deed := ok_is_deed (P := P) (w := w) (base := base) (W := (mkW K (cdB_ok (c2 2 _ rfl)) (ckB_ok (c2 3 _ rfl)))) hW F_is_deed (He.glo_ok X G (c1.fact 8 (f := .glo "is_deed") rfl)) (He.free_ok X G (c1.fact 22 (f := .free "isinstance") rfl)) (He.free_ok X G (c1.fact 20 (f := .free "tuple") rfl)) (He.free_ok X G (c1.fact 17 (f := .free "len") rfl)) (He.free_ok X G (c1.fact 24 (f := .free "str") rfl)) (tupB_ok X G (c2 0 _ rfl)) (He.free_ok X G (c1.fact 18 (f := .free "abs") rfl)) (He.int_ok X G (c1.fact 31 (f := .int "MOST_STEPS" 9) rfl)) (tupB_ok X G (c2 1 _ rfl)) H_is_integer H_is_item
  have H_is_row := ok_is_row (P := P) (w := w) (base := base) (W := (mkW K (cdB_ok (c2 2 _ rfl)) (ckB_ok (c2 3 _ rfl)))) hW F_is_row (He.glo_ok X G (c1.fact 9 (f := .glo "is_row") rfl)) (He.free_ok X G (c1.fact 22 (f := .free "isinstance") rfl)) (He.free_ok X G (c1.fact 20 (f := .free "tuple") rfl)) (He.free_ok X G (c1.fact 17 (f := .free "len") rfl)) (He.int_ok X G (c1.fact 30 (f := .int "MOST_DEEDS" 12) rfl)) (He.free_ok X G (c1.fact 25 (f := .free "all") rfl)) H_is_deed
  have H_added := ok_added (P := P) (w := w) (base := base) (W := (mkW K (cdB_ok (c2 2 _ rfl)) (ckB_ok (c2 3 _ rfl)))) hW F_added (He.glo_ok X G (c1.fact 10 (f := .glo "added") rfl)) (He.free_ok X G (c1.fact 17 (f := .free "len") rfl))
  have H_turned := ok_turned (P := P) (w := w) (base := base) (W := (mkW K (cdB_ok (c2 2 _ rfl)) (ckB_ok (c2 3 _ rfl)))) hW F_turned (He.glo_ok X G (c1.fact 11 (f := .glo "turned") rfl)) (He.free_ok X G (c1.fact 17 (f := .free "len") rfl))
  have H_carried_out := ok_carried_out (P := P) (w := w) (base := base) (W := (mkW K (cdB_ok (c2 2 _ rfl)) (ckB_ok (c2 3 _ rfl)))) hW F_carried_out (He.glo_ok X G (c1.fact 12 (f := .glo "carried_out") rfl)) (He.free_ok X G (c1.fact 21 (f := .free "range") rfl)) (He.free_ok X G (c1.fact 26 (f := .free "enumerate") rfl)) (tupB_ok X G (c2 1 _ rfl)) (He.free_ok X G (c1.fact 20 (f := .free "tuple") rfl)) H_added H_turned
  have H_effect := ok_effect (P := P) (w := w) (base := base) (W := (mkW K (cdB_ok (c2 2 _ rfl)) (ckB_ok (c2 3 _ rfl)))) hW F_effect (He.glo_ok X G (c1.fact 13 (f := .glo "effect") rfl)) (He.int_ok X G (c1.fact 34 (f := .int "MOST_BOUND" 1000) rfl)) H_is_row H_is_integer H_carried_out
  have H__law_near := ok__law_near (P := P) (w := w) (base := base) (W := (mkW K (cdB_ok (c2 2 _ rfl)) (ckB_ok (c2 3 _ rfl)))) hW F__law_near (He.glo_ok X G (c1.fact 14 (f := .glo "_law_near") rfl)) 
  have H__law_outline := ok__law_outline (P := P) (w := w) (base := base) (W := (mkW K (cdB_ok (c2 2 _ rfl)) (ckB_ok (c2 3 _ rfl)))) hW F__law_outline (He.glo_ok X G (c1.fact 15 (f := .glo "_law_outline") rfl)) (He.free_ok X G (c1.fact 19 (f := .free "int") rfl)) (He.free_ok X G (c1.fact 27 (f := .free "list") rfl)) (He.free_ok X G (c1.fact 21 (f := .free "range") rfl)) H__law_near
  have H_law := ok_law (P := P) (w := w) (base := base) (W := (mkW K (cdB_ok (c2 2 _ rfl)) (ckB_ok (c2 3 _ rfl)))) hW F_law (He.glo_ok X G (c1.fact 16 (f := .glo "law") rfl)) (He.free_ok X G (c1.fact 21 (f := .free "range") rfl)) (He.free_ok X G (c1.fact 28 (f := .free "max") rfl)) (He.free_ok X G (c1.fact 29 (f := .free "min") rfl)) (He.free_ok X G (c1.fact 17 (f := .free "len") rfl)) H__law_source H__law_row H__law_draw H_effect H__law_near H__law_outline
  exact law_sp H_law law_true
end Q
open PySem PySem.W PySem.Calls PyProof.Rows
theorem PySem.Challenge.cw_dequecounts_k66_whole_long_deques_are_un_holds : PySem.Challenge.rw_dequecounts_k66_whole_long_deques_are_un.Holds := by
  w_on; o_law
  refine HandSHeadRun.head_any (r := OpenLaw.row PySem.Challenge.rw_dequecounts_k66_whole_long_deques_are_un) (q := view (OpenLaw.row PySem.Challenge.rw_dequecounts_k66_whole_long_deques_are_un).prog [30]) (H := Q.hk) (ob := Q.ob) (M := 40000) (loose := Q.nms) (d := HandSHeadRun.topDef (OpenLaw.row PySem.Challenge.rw_dequecounts_k66_whole_long_deques_are_un).prog 30) (kwd := []) Q.ob_eq
    (by kernel_rfl) (fun s => by kernel_rfl) Q.run (by kernel_rfl) (by kernel_rfl) (by kernel_rfl) (by rfl) (by first | assumption | decide +kernel) (by decide +kernel) ⟨rfl, rfl, rfl, rfl, rfl, by decide +kernel⟩ ?hw ?hc
  case hw => w_witness2
  case hc =>
    refine Dn.walk_ofW (l := PySem.Challenge.rw_dequecounts_k66_whole_long_deques_are_un) (n := 63) (k := 7) (x := "_law_script") rfl (by decide) (by kernel_rfl) ⟨rfl, by decide, by decide⟩ ?F
    intro w mg fa h Y G hmg0
    obtain ⟨K, KX, c⟩ := Y
    have hmg : mg ("law" : PySem.Str) = some (.ref fa) := by
      have e : (HandSHeadRun.topDef (OpenLaw.row PySem.Challenge.rw_dequecounts_k66_whole_long_deques_are_un).prog 30).name = ("law" : PySem.Str) := by kernel_rfl
      rw [← e]
      exact hmg0
    obtain ⟨fd, hb, hF⟩ := Q.facts (P := (PySem.Challenge.rw_dequecounts_k66_whole_long_deques_are_un).prog) (w := w) KX G hmg c
    exact ⟨K, fd, Dn.spL K, KX, hb, fun H a ns hl hO hS => ⟨a, ns, rfl, hl, hO, hS, fun _ => rfl⟩, hF⟩
