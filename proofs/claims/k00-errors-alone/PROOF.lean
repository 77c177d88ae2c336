import PyProof.Rows.All
import HandS.Lambda
import HandS.HeadHook4
import Wide.All
import OpenK.AllK
import Wide.FinOn
import HandS.ForMost
import HandS.Exc
import HandS.TryOnly
import HandS.TryMany
import HandS.DictComp
import HandS.Deep
import HandS.TupAny
import HandS.TupLe
import HandS.Style
import HandS.Star
import HandS.IsInst
import HandS.Conv
import HandS.StrMore
import HandS.FStr
import HandS.Replace
import HandS.SortInts
import HandS.SortRule
import HandS.SortOrd
import HandS.Codes
import HandS.Flow
import HandS.HeadHook2
import HandS.HeadEnd
import HandS.HeadWalk
import HandS.Head0
import HandS.Head1
import HandS.Head2
import HandS.Defaults
import HandS.DictTup
import HandS.TupLen
import HandS.RaiseMore
import HandS.Small
import HandS.CallSlots
import HandS.ExcSuper
import HandS.ExcInit
import KE.KDictPairs
import KE.GoesMore
import HandS.More
import KE.DataMinMax
import KE.KExcSuper
import KE.KSuper
import HandS.Nested
import HandS.ExcField
import HandS.ExcOwn
import HandS.HeadHook1
import KE.KRevSl
import HandS.Iter
import HandS.NamedTupSort
import HandS.HeadHook3
import HandS.ExcIs
import KE.KExcIs
import PyProof.ReprRoads
import HandS.Ends
import HandS.ExcValue
import PySem.Challenge.RW_gaplabels_k00_errors_alone
set_option Elab.async false
set_option linter.all false
set_option autoImplicit false
/-! Dl0: the tables of code objects that a law's lambdas are written in. -/
namespace DL
open PySem
def LT (_ : PySem.W.Frag) : List (Addr × Str) := []
end DL
set_option linter.all false
set_option autoImplicit false
set_option maxRecDepth 100000
/-! DlA: pure data D, slots, mirrors' results; how they lie in a heap. -/
namespace DL
open PySem PySem.Spec L2

/-! ### data, slots -/
inductive D where
  | non | bl (b : Bool) | int (i : Int) | str (x : Str) | tup (xs : List D) | lst (xs : List D)
  | dK (ks : List Key) (ds : List D) | dT (ks : List (List Key)) (ds : List D) | ins (C : Addr) (ns : List Str) (ds : List D)
  | ext (ns : List Int) | exv (C : Addr) (ns : List Str) (ds : List D)
  deriving Inhabited
/-- an object that one slot alone holds -/
inductive MO where
  | lst (xs : List D) | dK (ks : List Key) (ds : List D) | dT (ks : List (List Key)) (ds : List D) | ins (C : Addr) (ns : List Str) (ds : List D)
  deriving Inhabited
def MO.toD : MO -> D
  | .lst xs => .lst xs
  | .dK ks ds => .dK ks ds
  | .dT ks ds => .dT ks ds
  | .ins C ns ds => .ins C ns ds
/-- an object that owns some of its parts, lists -/
inductive CO where
  | d (x : D) | l (xs : List D)
  deriving Inhabited
inductive NO where
  | lst (cs : List CO) | ins (C : Addr) (ns : List Str) (cs : List CO)
  deriving Inhabited
def CO.toD : CO -> D
  | .d x => x
  | .l xs => .lst xs
def NO.toD : NO -> D
  | .lst cs => .lst (cs.map CO.toD)
  | .ins C ns cs => .ins C ns (cs.map CO.toD)
inductive S where
  | no | v (d : D) | o (m : MO) | q (n : NO)
  deriving Inhabited
/-- an exception: its class, the fields of its own dict -/
structure Ex where
  C : Addr
  ns : List Str
  ds : List D
inductive ER (α : Type) where
  | ok (a : α) (sl : List S) | exn (x : Ex) (sl : List S) | bad
def ER.bind {α β : Type} (r : ER α) (f : α -> List S -> ER β) : ER β := match r with
  | .ok a sl => f a sl
  | .exn x sl => .exn x sl
  | .bad => .bad
inductive SR where
  | nx (sl : List S) | rt (d : D) (sl : List S) | bk (sl : List S) | ct (sl : List S) | exn (x : Ex) (sl : List S) | bad
abbrev EM : Type := List S -> ER D
abbrev BM : Type := List S -> ER Bool
abbrev AM : Type := List S -> ER (List D)
abbrev NM : Type := List S -> ER MO
abbrev SM : Type := List S -> SR

/-! ### a part of the heap -/
open Classical in
noncomputable def Hm (H : Hp) (U : Addr -> Prop) : Hp := fun b => if U b then none else H b
theorem Hm_some {H : Hp} {U : Addr -> Prop} {b : Addr} {o : HO} : Hm H U b = some o ↔ ¬ U b ∧ H b = some o := by
  unfold Hm
  by_cases h : U b
  · rw [if_pos h]; exact ⟨fun q => (by cases q), fun q => absurd h q.1⟩
  · rw [if_neg h]; exact ⟨fun q => ⟨h, q⟩, fun q => q.2⟩
def NT (o : HO) : Prop := ∀ ps, o ≠ .tbl ps
/-- no table, no tuple -/
def NU (o : HO) : Prop := NT o ∧ ∀ vs, o ≠ .tup vs
theorem nt_lst {xs : List V} : NT (.lst xs) := fun _ h => nomatch h
theorem nt_tup {xs : List V} : NT (.tup xs) := fun _ h => nomatch h
theorem nt_dK {xs : List (Key × V)} : NT (.dK xs) := fun _ h => nomatch h
theorem nt_dT {xs : List (List Key × V)} : NT (.dT xs) := fun _ h => nomatch h
theorem nt_ins {C dx : Addr} {fs : List (Str × V)} : NT (.ins C dx fs) := fun _ h => nomatch h
theorem nu_lst {xs : List V} : NU (.lst xs) := ⟨nt_lst, fun _ h => nomatch h⟩
theorem nu_dK {xs : List (Key × V)} : NU (.dK xs) := ⟨nt_dK, fun _ h => nomatch h⟩
theorem nu_dT {xs : List (List Key × V)} : NU (.dT xs) := ⟨nt_dT, fun _ h => nomatch h⟩
theorem nu_ins {C dx : Addr} {fs : List (Str × V)} : NU (.ins C dx fs) := ⟨nt_ins, fun _ h => nomatch h⟩
theorem nt_frz {o : Obj} {u : HO} : NT (.frz o u) := fun _ h => nomatch h
/-- all that the first heap tells, the second tells -/
def Le (A B : Hp) : Prop := ∀ b o, A b = some o -> NT o -> B b = some o
theorem Le.rfl {A : Hp} : Le A A := fun _ _ h _ => h
theorem Le.trans {A B C : Hp} (a : Le A B) (b : Le B C) : Le A C := fun x o h n => b x o (a x o h n) n
theorem Le.of_same {A B : Hp} (h : Same A B) : Le A B := fun b o e _ => h b o e
theorem Hm_le {H : Hp} {U : Addr -> Prop} : Le (Hm H U) H := fun _ _ h _ => (Hm_some.mp h).2
theorem Hm_same {H H' : Hp} {U : Addr -> Prop} (h : Le H H') : Le (Hm H U) (Hm H' U) := fun b o e n => by
  obtain ⟨h1, h2⟩ := Hm_some.mp e
  exact Hm_some.mpr ⟨h1, h b o h2 n⟩
theorem Hm_sub {H : Hp} {U U' : Addr -> Prop} (h : ∀ b, U' b -> U b) : Le (Hm H U) (Hm H U') := fun b o e _ => by
  obtain ⟨h1, h2⟩ := Hm_some.mp e
  exact Hm_some.mpr ⟨fun q => h1 (h b q), h2⟩
theorem same_upd {H : Hp} {p : Addr} {o : HO} (h : H p = none) : Same H (upd H p o) := fun b u e => by
  rw [upd_ne (ne_of_none e h)]
  exact e

/-! ### how data lies in a heap -/
mutual
inductive Rep (K : PySem.W.Frag) (H : Hp) : D -> V -> Prop
  | non : Rep K H .non .non
  | bl (b : Bool) : Rep K H (.bl b) (.bl b)
  | int (i : Int) : Rep K H (.int i) (.int i)
  | str (x : Str) : Rep K H (.str x) (.str x)
  | tup {a : Addr} {vs : List V} {ds : List D} : H a = some (.tup vs) -> Reps K H ds vs -> Rep K H (.tup ds) (.ref a)
  | lst {a : Addr} {vs : List V} {ds : List D} : H a = some (.lst vs) -> Reps K H ds vs -> Rep K H (.lst ds) (.ref a)
  | dK {a : Addr} {ks : List Key} {vs : List V} {ds : List D} : H a = some (.dK (ks.zip vs)) -> ks.length = vs.length -> Reps K H ds vs -> Rep K H (.dK ks ds) (.ref a)
  | dT {a : Addr} {ks : List (List Key)} {vs : List V} {ds : List D} : H a = some (.dT (ks.zip vs)) -> ks.length = vs.length -> Reps K H ds vs -> Rep K H (.dT ks ds) (.ref a)
  | ins {a C dx : Addr} {ns : List Str} {vs : List V} {ds : List D} : H a = some (.ins C dx (ns.zip vs)) -> ns.length = vs.length -> Reps K H ds vs -> Rep K H (.ins C ns ds) (.ref a)
  | ext {a : Addr} {ns : List Int} : SqL K H a (ns.map V.int) -> Rep K H (.ext ns) (.ref a)
  | ex0 {a C : Addr} : H a = some (exo a C none) -> Rep K H (.exv C [] []) (.ref a)
  | ex1 {a C dx : Addr} {ns : List Str} {vs : List V} {ds : List D} : H a = some (exo a C (some dx)) -> H dx = some (exd dx (ns.zip vs)) -> ns.length = vs.length -> Reps K H ds vs -> Rep K H (.exv C ns ds) (.ref a)
inductive Reps (K : PySem.W.Frag) (H : Hp) : List D -> List V -> Prop
  | nil : Reps K H [] []
  | cons {d : D} {ds : List D} {v : V} {vs : List V} : Rep K H d v -> Reps K H ds vs -> Reps K H (d :: ds) (v :: vs)
end
theorem SqT.le {K : PySem.W.Frag} {A B : Hp} {a : Addr} {xs : List V} (h : Le A B) (q : SqT K A a xs) : SqT K B a xs := by
  rcases q with (q | ⟨o, q⟩) | q
  · exact .inl (.inl (h _ _ q nt_tup))
  · exact .inl (.inr ⟨o, h _ _ q nt_frz⟩)
  · exact .inr q
theorem SqL.le {K : PySem.W.Frag} {A B : Hp} {a : Addr} {xs : List V} (h : Le A B) (q : SqL K A a xs) : SqL K B a xs := by
  rcases q with (q | ⟨o, q⟩) | q
  · exact .inl (.inl (h _ _ q nt_lst))
  · exact .inl (.inr ⟨o, h _ _ q nt_frz⟩)
  · exact .inr q
mutual
theorem Rep.le {K : PySem.W.Frag} {A B : Hp} (h : Le A B) : ∀ {d : D} {v : V}, Rep K A d v -> Rep K B d v
  | _, _, .non => .non
  | _, _, .bl b => .bl b
  | _, _, .int i => .int i
  | _, _, .str x => .str x
  | _, _, .tup s r => .tup (h _ _ s nt_tup) (Reps.le h r)
  | _, _, .lst s r => .lst (h _ _ s nt_lst) (Reps.le h r)
  | _, _, .dK s l r => .dK (h _ _ s nt_dK) l (Reps.le h r)
  | _, _, .dT s l r => .dT (h _ _ s nt_dT) l (Reps.le h r)
  | _, _, .ins s l r => .ins (h _ _ s nt_ins) l (Reps.le h r)
  | _, _, .ext s => .ext (SqL.le h s)
  | _, _, .ex0 e => .ex0 (h _ _ e (fun _ q => nomatch q))
  | _, _, .ex1 e1 e2 l r => .ex1 (h _ _ e1 (fun _ q => nomatch q)) (h _ _ e2 (fun _ q => nomatch q)) l (Reps.le h r)
theorem Reps.le {K : PySem.W.Frag} {A B : Hp} (h : Le A B) : ∀ {ds : List D} {vs : List V}, Reps K A ds vs -> Reps K B ds vs
  | _, _, .nil => .nil
  | _, _, .cons a b => .cons (Rep.le h a) (Reps.le h b)
end
theorem Reps.length {K : PySem.W.Frag} {A : Hp} : ∀ {ds : List D} {vs : List V}, Reps K A ds vs -> ds.length = vs.length
  | _, _, .nil => rfl
  | _, _, .cons _ b => by rw [List.length_cons, List.length_cons, Reps.length b]
theorem Reps.append {K : PySem.W.Frag} {A : Hp} : ∀ {ds es : List D} {vs ws : List V}, Reps K A ds vs -> Reps K A es ws -> Reps K A (ds ++ es) (vs ++ ws)
  | _, _, _, _, .nil, s => s
  | _, _, _, _, .cons a b, s => .cons a (Reps.append b s)
theorem Reps.get {K : PySem.W.Frag} {A : Hp} : ∀ {ds : List D} {vs : List V} {i : Nat} {d : D}, Reps K A ds vs -> ds[i]? = some d -> ∃ v, vs[i]? = some v ∧ Rep K A d v
  | _, _, _, _, .nil, e => by simp at e
  | _, _, 0, _, .cons a _, e => by simp at e; subst e; exact ⟨_, rfl, a⟩
  | _, _, i + 1, _, .cons _ b, e => by
    obtain ⟨v, h1, h2⟩ := Reps.get (i := i) b (by simpa using e)
    exact ⟨v, by simpa using h1, h2⟩
theorem Reps.take {K : PySem.W.Frag} {A : Hp} : ∀ {ds : List D} {vs : List V} (n : Nat), Reps K A ds vs -> Reps K A (ds.take n) (vs.take n)
  | _, _, 0, _ => by simp; exact .nil
  | _, _, _ + 1, .nil => .nil
  | _, _, n + 1, .cons a b => .cons a (Reps.take n b)
theorem Reps.drop {K : PySem.W.Frag} {A : Hp} : ∀ {ds : List D} {vs : List V} (n : Nat), Reps K A ds vs -> Reps K A (ds.drop n) (vs.drop n)
  | _, _, 0, r => r
  | _, _, _ + 1, .nil => .nil
  | _, _, n + 1, .cons _ b => Reps.drop n b
theorem Reps.set {K : PySem.W.Frag} {A : Hp} {d : D} {v : V} (r : Rep K A d v) : ∀ {ds : List D} {vs : List V} (i : Nat), Reps K A ds vs -> Reps K A (ds.set i d) (vs.set i v)
  | _, _, _, .nil => .nil
  | _, _, 0, .cons _ b => .cons r b
  | _, _, i + 1, .cons a b => .cons a (Reps.set r i b)
theorem Reps.erase {K : PySem.W.Frag} {A : Hp} : ∀ {ds : List D} {vs : List V} (i : Nat), Reps K A ds vs -> Reps K A (ds.eraseIdx i) (vs.eraseIdx i)
  | _, _, _, .nil => .nil
  | _, _, 0, .cons _ b => b
  | _, _, i + 1, .cons a b => .cons a (Reps.erase i b)
theorem Reps.reverse {K : PySem.W.Frag} {A : Hp} : ∀ {ds : List D} {vs : List V}, Reps K A ds vs -> Reps K A ds.reverse vs.reverse
  | _, _, .nil => .nil
  | _, _, .cons a b => by
    rw [List.reverse_cons, List.reverse_cons]
    exact Reps.append (Reps.reverse b) (.cons a .nil)
theorem Reps.map_int {K : PySem.W.Frag} {A : Hp} : ∀ (ns : List Int), Reps K A (ns.map D.int) (ns.map V.int)
  | [] => .nil
  | n :: r => .cons (.int n) (Reps.map_int r)
theorem Reps.map_bl {K : PySem.W.Frag} {A : Hp} : ∀ (ns : List Bool), Reps K A (ns.map D.bl) (ns.map V.bl)
  | [] => .nil
  | n :: r => .cons (.bl n) (Reps.map_bl r)
theorem Reps.map_str {K : PySem.W.Frag} {A : Hp} : ∀ (ns : List Str), Reps K A (ns.map D.str) (ns.map V.str)
  | [] => .nil
  | n :: r => .cons (.str n) (Reps.map_str r)

/-- an owned object at a: its items lie in Hf -/
def HORep (K : PySem.W.Frag) (Hf : Hp) (m : MO) (o : HO) : Prop := match m with
  | .lst xs => ∃ vs, o = .lst vs ∧ Reps K Hf xs vs
  | .dK ks ds => ∃ vs, o = .dK (ks.zip vs) ∧ ks.length = vs.length ∧ Reps K Hf ds vs
  | .dT ks ds => ∃ vs, o = .dT (ks.zip vs) ∧ ks.length = vs.length ∧ Reps K Hf ds vs
  | .ins C ns ds => ∃ dx vs, o = .ins C dx (ns.zip vs) ∧ ns.length = vs.length ∧ Reps K Hf ds vs
theorem HORep.le {K : PySem.W.Frag} {A B : Hp} {m : MO} {o : HO} (h : Le A B) (r : HORep K A m o) : HORep K B m o := by
  cases m with
  | lst xs => obtain ⟨vs, e, q⟩ := r; exact ⟨vs, e, Reps.le h q⟩
  | dK ks ds => obtain ⟨vs, e, l, q⟩ := r; exact ⟨vs, e, l, Reps.le h q⟩
  | dT ks ds => obtain ⟨vs, e, l, q⟩ := r; exact ⟨vs, e, l, Reps.le h q⟩
  | ins C ns ds => obtain ⟨dx, vs, e, l, q⟩ := r; exact ⟨dx, vs, e, l, Reps.le h q⟩
theorem HORep.nt {K : PySem.W.Frag} {A : Hp} {m : MO} {o : HO} (r : HORep K A m o) : NT o := by
  cases m with
  | lst xs => obtain ⟨vs, e, q⟩ := r; rw [e]; exact nt_lst
  | dK ks ds => obtain ⟨vs, e, l, q⟩ := r; rw [e]; exact nt_dK
  | dT ks ds => obtain ⟨vs, e, l, q⟩ := r; rw [e]; exact nt_dT
  | ins C ns ds => obtain ⟨dx, vs, e, l, q⟩ := r; rw [e]; exact nt_ins
theorem HORep.nu {K : PySem.W.Frag} {A : Hp} {m : MO} {o : HO} (r : HORep K A m o) : NU o := by
  cases m with
  | lst xs => obtain ⟨vs, e, q⟩ := r; rw [e]; exact nu_lst
  | dK ks ds => obtain ⟨vs, e, l, q⟩ := r; rw [e]; exact nu_dK
  | dT ks ds => obtain ⟨vs, e, l, q⟩ := r; rw [e]; exact nu_dT
  | ins C ns ds => obtain ⟨dx, vs, e, l, q⟩ := r; rw [e]; exact nu_ins
theorem HORep.toD {K : PySem.W.Frag} {A : Hp} {m : MO} {o : HO} {a : Addr} (r : HORep K A m o) (ha : A a = some o) : Rep K A m.toD (.ref a) := by
  cases m with
  | lst xs => obtain ⟨vs, rfl, q⟩ := r; exact .lst ha q
  | dK ks ds => obtain ⟨vs, rfl, l, q⟩ := r; exact .dK ha l q
  | dT ks ds => obtain ⟨vs, rfl, l, q⟩ := r; exact .dT ha l q
  | ins C ns ds => obtain ⟨dx, vs, rfl, l, q⟩ := r; exact .ins ha l q

/-! ### the state -/
/-- the heap at the def's entry, the object that the caller lent (in slot 0), what callers hold for themselves -/
structure Ct where
  H0 : Hp
  P : Option Addr
  U : Addr -> Prop
  X : Option (Nat × Addr × List Addr)
/-- the object that owns its parts, and these -/
def Ct.Xs (c : Ct) (b : Addr) : Prop := ∃ j r as, c.X = some (j, r, as) ∧ (b = r ∨ b ∈ as)
theorem Ct.xs_none {H : Hp} {P : Option Addr} {U : Addr -> Prop} {b : Addr} : ¬ (Ct.mk H P U none).Xs b := fun ⟨_, _, _, e, _⟩ => nomatch e
def Ow (sl : List S) (σ : St) (a : Addr) : Prop := ∃ (i : Nat) (m : MO), sl[i]? = some (S.o m) ∧ σ[i]? = some (some (V.ref a))
def Hid (c : Ct) (sl : List S) (σ : St) (a : Addr) : Prop := c.U a ∨ Ow sl σ a
noncomputable def fz (c : Ct) (sl : List S) (σ : St) (H : Hp) : Hp := Hm H (Hid c sl σ)
/-- no code object -/
def NC (o : HO) : Prop := ∀ c q, o ≠ LamX.CodeO c q
theorem HORep.nc {K : PySem.W.Frag} {A : Hp} {m : MO} {o : HO} (r : HORep K A m o) : NC o := fun c q h => by
  unfold LamX.CodeO at h
  cases m with
  | lst xs => obtain ⟨vs, e, _⟩ := r; rw [e] at h; cases h
  | dK ks ds => obtain ⟨vs, e, _⟩ := r; rw [e] at h; cases h
  | dT ks ds => obtain ⟨vs, e, _⟩ := r; rw [e] at h; cases h
  | ins C ns ds => obtain ⟨dx, vs, e, _⟩ := r; rw [e] at h; cases h
theorem tabs_upd {T : List (Addr × Str)} {H : Hp} {a : Addr} {o o' : HO} (t : LamX.Tabs T H) (h : H a = some o) (nt : NT o) (nc : NC o) : LamX.Tabs T (upd H a o') := fun p hp => by
  obtain ⟨ps, h1, h2, h3⟩ := t p hp
  have n1 : p.1 ≠ a := fun q => by
    rw [q, h] at h1
    exact nt ps (Option.some.inj h1)
  refine ⟨ps, by rw [upd_ne n1]; exact h1, h2, fun pos cv hc => ?_⟩
  obtain ⟨c, e1, e2⟩ := h3 pos cv hc
  have n2 : c ≠ a := fun q => by
    rw [q, h] at e2
    exact nc _ _ (Option.some.inj e2)
  exact ⟨c, e1, by rw [upd_ne n2]; exact e2⟩
theorem nc_lst {xs : List V} : NC (.lst xs) := fun _ _ h => by unfold LamX.CodeO at h; cases h
theorem nc_dK {xs : List (Key × V)} : NC (.dK xs) := fun _ _ h => by unfold LamX.CodeO at h; cases h
theorem nc_dT {xs : List (List Key × V)} : NC (.dT xs) := fun _ _ h => by unfold LamX.CodeO at h; cases h
inductive COs (K : PySem.W.Frag) (H Hf : Hp) : List CO -> List V -> List Addr -> Prop
  | nil : COs K H Hf [] [] []
  | d {x : D} {v : V} {cs : List CO} {vs : List V} {as : List Addr} : Rep K Hf x v -> COs K H Hf cs vs as -> COs K H Hf (.d x :: cs) (v :: vs) as
  | l {a : Addr} {ws : List V} {xs : List D} {cs : List CO} {vs : List V} {as : List Addr} : H a = some (.lst ws) -> Reps K Hf xs ws -> COs K H Hf cs vs as -> COs K H Hf (.l xs :: cs) (.ref a :: vs) (a :: as)
def NHeld (K : PySem.W.Frag) (H Hf : Hp) (r : Addr) (as : List Addr) : NO -> Prop
  | .lst cs => ∃ vs, H r = some (.lst vs) ∧ COs K H Hf cs vs as
  | .ins C ns cs => ∃ dx vs, H r = some (.ins C dx (ns.zip vs)) ∧ ns.length = vs.length ∧ COs K H Hf cs vs as
theorem COs.mv {K : PySem.W.Frag} {H H' A B : Hp} (l : Le A B) : ∀ {cs : List CO} {vs : List V} {as : List Addr}, COs K H A cs vs as -> (∀ b o, b ∈ as -> H b = some o -> NU o -> H' b = some o) -> COs K H' B cs vs as
  | _, _, _, .nil, _ => .nil
  | _, _, _, .d r q, e => .d (r.le l) (COs.mv l q e)
  | _, _, _, .l h r q, e => .l (e _ _ (List.mem_cons_self ..) h nu_lst) (r.le l) (COs.mv l q fun b o hb => e b o (List.mem_cons_of_mem _ hb))
theorem NHeld.mv {K : PySem.W.Frag} {H H' A B : Hp} {r : Addr} {as : List Addr} (l : Le A B) {n : NO} (h : NHeld K H A r as n) (e : ∀ b o, (b = r ∨ b ∈ as) -> H b = some o -> NU o -> H' b = some o) : NHeld K H' B r as n := by
  cases n with
  | lst cs =>
    obtain ⟨vs, h1, h2⟩ := h
    exact ⟨vs, e _ _ (.inl rfl) h1 nu_lst, h2.mv l fun b o hb => e b o (.inr hb)⟩
  | ins C ns cs =>
    obtain ⟨dx, vs, h1, hl, h2⟩ := h
    exact ⟨dx, vs, e _ _ (.inl rfl) h1 nu_ins, hl, h2.mv l fun b o hb => e b o (.inr hb)⟩
structure NSt (K : PySem.W.Frag) (c : Ct) (sl : List S) (σ : St) (H : Hp) : Prop where
  xk : ∀ b, c.Xs b -> c.U b ∧ ∃ o, H b = some o ∧ NU o ∧ NC o
  qx : ∀ (j : Nat) (n : NO), sl[j]? = some (.q n) -> ∃ r as, c.X = some (j, r, as)
  nst : ∀ (j : Nat) (r : Addr) (as : List Addr) (n : NO), c.X = some (j, r, as) -> sl[j]? = some (.q n) -> σ[j]? = some (some (.ref r)) ∧ (r :: as).Nodup ∧ NHeld K H (fz c sl σ H) r as n
theorem NSt.mv {K : PySem.W.Frag} {c c' : Ct} {sl sl' : List S} {σ σ' : St} {H H' : Hp} (s : NSt K c sl σ H) (ex : c'.X = c.X) (eu : ∀ b, c.U b -> c'.U b) (eh : ∀ b o, c.Xs b -> c.U b -> H b = some o -> NU o -> H' b = some o)
    (lf : Le (fz c sl σ H) (fz c' sl' σ' H')) (es : ∀ (j : Nat) (n : NO), sl'[j]? = some (S.q n) -> sl[j]? = some (S.q n) ∧ ∀ v, σ[j]? = some (some v) -> σ'[j]? = some (some v)) : NSt K c' sl' σ' H' := by
  have xx : ∀ b, c'.Xs b -> c.Xs b := fun b ⟨j, r, as, e, h⟩ => ⟨j, r, as, by rw [← ex]; exact e, h⟩
  refine ⟨fun b x => ?_, fun j n e => (by rw [ex]; exact s.qx j n (es j n e).1), fun j r as n e1 e2 => ?_⟩
  · obtain ⟨u, o, h, nu, nc⟩ := s.xk b (xx b x)
    exact ⟨eu b u, o, eh b o (xx b x) u h nu, nu, nc⟩
  · rw [ex] at e1
    obtain ⟨q1, q2⟩ := es j n e2
    obtain ⟨h1, h2, h3⟩ := s.nst j r as n e1 q1
    refine ⟨q2 _ h1, h2, h3.mv lf fun b o hb hH nu => ?_⟩
    have x : c.Xs b := ⟨j, r, as, e1, hb⟩
    exact eh b o x (s.xk b x).1 hH nu
theorem NSt.none {K : PySem.W.Frag} {H0 : Hp} {P : Option Addr} {U : Addr -> Prop} {sl : List S} {σ : St} {H : Hp} (h : ∀ (j : Nat) (n : NO), sl[j]? ≠ some (.q n)) : NSt K ⟨H0, P, U, .none⟩ sl σ H := ⟨fun _ x => absurd x Ct.xs_none, fun j n e => absurd e (h j n), fun _ _ _ _ e _ => nomatch e⟩
theorem set_q {sl : List S} {i j : Nat} {x : S} {n : NO} (e : (sl.set i x)[j]? = some (S.q n)) (hx : ∀ n, x ≠ .q n) : j ≠ i ∧ sl[j]? = some (S.q n) := by
  by_cases q : j = i
  · subst q
    have hl : j < sl.length := by
      have := (List.getElem?_eq_some_iff.mp e).1
      rw [List.length_set] at this
      exact this
    rw [List.getElem?_set_self hl] at e
    exact absurd (Option.some.inj e) (hx n)
  · rw [List.getElem?_set_ne (Ne.symm q)] at e
    exact ⟨q, e⟩
structure Sim (K : PySem.W.Frag) (c : Ct) (sl : List S) (σ : St) (H : Hp) : Prop where
  len : sl.length = σ.length
  val : ∀ (i : Nat) (d : D), sl[i]? = some (.v d) -> ∃ v, σ[i]? = some (some v) ∧ Rep K (fz c sl σ H) d v
  own : ∀ (i : Nat) (m : MO), sl[i]? = some (.o m) -> ∃ a o, σ[i]? = some (some (.ref a)) ∧ ¬ c.U a ∧ (c.P = some a ∨ ∀ u, c.H0 a = some u -> ¬ NT u) ∧ H a = some o ∧ HORep K (fz c sl σ H) m o
  dis : ∀ (i j : Nat) (m m' : MO) (a : Addr), sl[i]? = some (.o m) -> sl[j]? = some (.o m') -> σ[i]? = some (some (.ref a)) -> σ[j]? = some (some (.ref a)) -> i = j
  par : ∀ (a : Addr) (m : MO), c.P = some a -> sl[0]? = some (.o m) -> σ[0]? = some (some (.ref a))
  frm : ∀ b o, c.H0 b = some o -> NT o -> c.P ≠ some b -> ¬ c.Xs b -> H b = some o
  uh : ∀ b, c.U b -> c.P ≠ some b ∧ ∃ o, c.H0 b = some o ∧ NU o
  pex : ∀ a, c.P = some a -> ∃ o, H a = some o ∧ NT o
  tab : LamX.Tabs (LT K) H
  ne : NSt K c sl σ H
section
variable {K : PySem.W.Frag} {c : Ct} {sl sl' : List S} {σ : St} {H H' : Hp}
theorem Sim.hiddenU (s : Sim K c sl σ H) {b : Addr} (h : Hid c sl σ b) : ∃ o, H b = some o ∧ NU o := by
  rcases h with h | ⟨i, m, h1, h2⟩
  · by_cases x : c.Xs b
    · obtain ⟨_, o, e, n, _⟩ := s.ne.xk b x
      exact ⟨o, e, n⟩
    · obtain ⟨p, o, e, n⟩ := s.uh b h
      exact ⟨o, s.frm b o e n.1 p x, n⟩
  · obtain ⟨a, o, e, _, _, ho, r⟩ := s.own i m h1
    rw [h2] at e
    cases e
    exact ⟨o, ho, r.nu⟩
theorem Sim.hidden (s : Sim K c sl σ H) {b : Addr} (h : Hid c sl σ b) : ∃ o, H b = some o ∧ NT o := let ⟨o, e, n⟩ := s.hiddenU h; ⟨o, e, n.1⟩
theorem Sim.freshT (s : Sim K c sl σ H) {b : Addr} {vs : List V} (h : H b = some (.tup vs)) : ¬ Hid c sl σ b := fun q => by
  obtain ⟨o, e, n⟩ := s.hiddenU q
  rw [h] at e
  cases e
  exact n.2 vs rfl
theorem Sim.fresh (s : Sim K c sl σ H) {b : Addr} (h : H b = none) : ¬ Hid c sl σ b := fun q => by
  obtain ⟨o, e, _⟩ := s.hidden q
  rw [h] at e
  cases e
theorem fz_same (h : Le H H') : Le (fz c sl σ H) (fz c sl σ H') := Hm_same h
/-- nothing that is told changes -/
theorem Sim.le (s : Sim K c sl σ H) (h : Le H H') (t : LamX.Tabs (LT K) H') : Sim K c sl σ H' := by
  refine ⟨s.len, fun i d e => ?_, fun i m e => ?_, s.dis, s.par, fun b o e n p x => h b o (s.frm b o e n p x) n, s.uh, fun a p => let ⟨o, e, n⟩ := s.pex a p; ⟨o, h a o e n, n⟩, t, s.ne.mv rfl (fun _ q => q) (fun b o _ _ e n => h b o e n.1) (fz_same h) fun j n e => ⟨e, fun _ q => q⟩⟩
  · obtain ⟨v, h1, h2⟩ := s.val i d e
    exact ⟨v, h1, h2.le (fz_same h)⟩
  · obtain ⟨a, o, h1, h2, h3, h4, h5⟩ := s.own i m e
    exact ⟨a, o, h1, h2, h3, h a o h4 h5.nt, h5.le (fz_same h)⟩
theorem Sim.same (s : Sim K c sl σ H) (h : Same H H') : Sim K c sl σ H' := s.le (Le.of_same h) (s.tab.ext h)
end
end DL
set_option linter.all false
set_option autoImplicit false
set_option maxRecDepth 100000
/-! DlB: the classes that tie a reading to a mirror; expressions. -/
namespace DL
open PySem PySem.Spec L2

/-! ### what is wanted of a mirror's result -/
def XRep (K : PySem.W.Frag) (Hf : Hp) (x : Ex) (cls : Value) (dd : Option Addr) : Prop :=
  cls = .ref x.C ∧ ((x.ns = [] ∧ x.ds = []) ∨ ∃ a vs, dd = some a ∧ Hf a = some (.xd (x.ns.zip vs)) ∧ x.ns.length = vs.length ∧ Reps K Hf x.ds vs)
theorem XRep.le {K : PySem.W.Frag} {A B : Hp} {x : Ex} {cls : Value} {dd : Option Addr} (h : Le A B) (r : XRep K A x cls dd) : XRep K B x cls dd := by
  obtain ⟨e, r⟩ := r
  refine ⟨e, r.elim .inl fun ⟨a, vs, e1, e2, e3, e4⟩ => .inr ⟨a, vs, e1, h _ _ e2 (fun _ q => nomatch q), e3, e4.le h⟩⟩
section
variable {K : PySem.W.Frag} {W : WX} {c : Ct} {σ : St} {H H1 : Hp} {sl sl1 : List S} {α β γ δ : Type}
def POk (K : PySem.W.Frag) (W : WX) (c : Ct) (σ : St) (R : Hp -> α -> β -> Prop) (H : Hp) (sl : List S) (r : ER α) (Q : β -> Hp -> Prop) : Prop := match r with
  | .ok a sl' => ∀ b H', Sim K c sl' σ H' -> R (fz c sl' σ H') a b -> Le (fz c sl σ H) (fz c sl' σ H') -> Q b H'
  | .exn x sl' => ∀ cls dd H', Sim K c sl' σ H' -> XRep K (fz c sl' σ H') x cls dd -> Le (fz c sl σ H) (fz c sl' σ H') -> W cls dd σ H'
  | .bad => False
/-- .. of one that makes a new object -/
def NOk (K : PySem.W.Frag) (W : WX) (c : Ct) (σ : St) (H : Hp) (sl : List S) (r : ER MO) (Q : VK) : Prop := match r with
  | .ok m sl' => ∀ p o H', Sim K c sl' σ H' -> H' p = none -> HORep K (fz c sl' σ H') m o -> Le (fz c sl σ H) (fz c sl' σ H') -> Q (.ref p) (upd H' p o)
  | .exn x sl' => ∀ cls dd H', Sim K c sl' σ H' -> XRep K (fz c sl' σ H') x cls dd -> Le (fz c sl σ H) (fz c sl' σ H') -> W cls dd σ H'
  | .bad => False
theorem POk.imp {R : Hp -> α -> β -> Prop} {r : ER α} {Q Q' : β -> Hp -> Prop} (h : POk K W c σ R H sl r Q) (q : ∀ b H', Q b H' -> Q' b H') : POk K W c σ R H sl r Q' := by
  cases r with
  | ok a s => exact fun b H' s1 r1 l1 => q _ _ (h b H' s1 r1 l1)
  | exn x s => exact h
  | bad => exact h
theorem POk.le {R : Hp -> α -> β -> Prop} {r : ER α} {Q : β -> Hp -> Prop} (l : Le (fz c sl σ H) (fz c sl1 σ H1)) (h : POk K W c σ R H sl r Q) : POk K W c σ R H1 sl1 r Q := by
  cases r with
  | ok a s => exact fun b H' s1 r1 l1 => h b H' s1 r1 (l.trans l1)
  | exn x s => exact fun cls dd H' s1 r1 l1 => h cls dd H' s1 r1 (l.trans l1)
  | bad => exact h
theorem NOk.le {r : ER MO} {Q : VK} (l : Le (fz c sl σ H) (fz c sl1 σ H1)) (h : NOk K W c σ H sl r Q) : NOk K W c σ H1 sl1 r Q := by
  cases r with
  | ok a s => exact fun p o H' s1 n r1 l1 => h p o H' s1 n r1 (l.trans l1)
  | exn x s => exact fun cls dd H' s1 r1 l1 => h cls dd H' s1 r1 (l.trans l1)
  | bad => exact h
/-- the first step of two -/
theorem POk.split {R : Hp -> α -> β -> Prop} {R' : Hp -> γ -> δ -> Prop} {r : ER α} {f : α -> List S -> ER γ} {Q : δ -> Hp -> Prop} (h : POk K W c σ R' H sl (r.bind f) Q) :
    POk K W c σ R H sl r (fun b H1 => ∃ a sl1, r = .ok a sl1 ∧ Sim K c sl1 σ H1 ∧ R (fz c sl1 σ H1) a b ∧ Le (fz c sl σ H) (fz c sl1 σ H1) ∧ POk K W c σ R' H1 sl1 (f a sl1) Q) := by
  cases r with
  | ok a s => exact fun b H' s1 r1 l1 => ⟨a, s, rfl, s1, r1, l1, POk.le l1 h⟩
  | exn x s => exact h
  | bad => exact h
theorem NOk.split {R : Hp -> α -> β -> Prop} {r : ER α} {f : α -> List S -> ER MO} {Q : VK} (h : NOk K W c σ H sl (r.bind f) Q) :
    POk K W c σ R H sl r (fun b H1 => ∃ a sl1, r = .ok a sl1 ∧ Sim K c sl1 σ H1 ∧ R (fz c sl1 σ H1) a b ∧ Le (fz c sl σ H) (fz c sl1 σ H1) ∧ NOk K W c σ H1 sl1 (f a sl1) Q) := by
  cases r with
  | ok a s => exact fun b H' s1 r1 l1 => ⟨a, s, rfl, s1, r1, l1, NOk.le l1 h⟩
  | exn x s => exact h
  | bad => exact h
/-- a new object is frozen at once -/
theorem NOk.freeze {r : ER MO} {Q : VK} (h : POk K W c σ (Rep K) H sl (r.bind fun m s => .ok m.toD s) Q) : NOk K W c σ H sl r Q := by
  cases r with
  | ok m s =>
    intro p o H' s1 n r1 l1
    have e : Same H' (upd H' p o) := same_upd n
    have l2 : Le (fz c s σ H') (fz c s σ (upd H' p o)) := fz_same (Le.of_same e)
    exact h _ _ (s1.same e) ((r1.le l2).toD (Hm_some.mpr ⟨s1.fresh n, upd_same⟩)) (l1.trans l2)
  | exn x s => exact h
  | bad => exact h
end
def BRel : Hp -> Bool -> Bool -> Prop := fun _ a b => a = b

/-! ### the classes -/
class EX (K : PySem.W.Frag) (W : WX) (t : TE) (m : outParam EM) : Prop where
  ok : ∀ (c : Ct) (σ : St) (H : Hp) (sl : List S) (Q : VK), Sim K c sl σ H -> POk K W c σ (Rep K) H sl (m sl) Q -> t σ H Q
class TX (K : PySem.W.Frag) (W : WX) (t : TT) (m : outParam BM) : Prop where
  ok : ∀ (c : Ct) (σ : St) (H : Hp) (sl : List S) (Q : Bool -> Hp -> Prop), Sim K c sl σ H -> POk K W c σ BRel H sl (m sl) Q -> t σ H Q
class AX (K : PySem.W.Frag) (W : WX) (t : TA) (m : outParam AM) : Prop where
  ok : ∀ (c : Ct) (σ : St) (H : Hp) (sl : List S) (Q : List V -> Hp -> Prop), Sim K c sl σ H -> POk K W c σ (Reps K) H sl (m sl) Q -> t σ H Q
class NX (K : PySem.W.Frag) (W : WX) (t : TE) (m : outParam NM) : Prop where
  ok : ∀ (c : Ct) (σ : St) (H : Hp) (sl : List S) (Q : VK), Sim K c sl σ H -> NOk K W c σ H sl (m sl) Q -> t σ H Q
/-- operations by values -/
def HidOk (H : Hp) (U : Addr -> Prop) : Prop := ∀ p, (H p = none ∨ ∃ vs, H p = some (.tup vs)) -> ¬ U p
class Op1 (K : PySem.W.Frag) (r : V -> Hp -> VK -> Prop) (f : outParam (D -> Option D)) : Prop where
  ok : ∀ (H : Hp) (U : Addr -> Prop) (x : V) (a z : D) (Q : VK), HidOk H U -> Rep K (Hm H U) a x -> f a = some z -> (∀ u H', Same H H' -> Rep K (Hm H' U) z u -> Q u H') -> r x H Q
class Op2 (K : PySem.W.Frag) (r : R2) (f : outParam (D -> D -> Option D)) : Prop where
  ok : ∀ (H : Hp) (U : Addr -> Prop) (x y : V) (a b z : D) (Q : VK), HidOk H U -> Rep K (Hm H U) a x -> Rep K (Hm H U) b y -> f a b = some z -> (∀ u H', Same H H' -> Rep K (Hm H' U) z u -> Q u H') -> r x y H Q
class OpL (K : PySem.W.Frag) (r : List V -> Hp -> VK -> Prop) (f : outParam (List D -> Option D)) : Prop where
  ok : ∀ (H : Hp) (U : Addr -> Prop) (xs : List V) (as : List D) (z : D) (Q : VK), HidOk H U -> Reps K (Hm H U) as xs -> f as = some z -> (∀ u H', Same H H' -> Rep K (Hm H' U) z u -> Q u H') -> r xs H Q
/-- .. that make a new object -/
class Op2N (K : PySem.W.Frag) (r : R2) (f : outParam (D -> D -> Option MO)) : Prop where
  ok : ∀ (H : Hp) (U : Addr -> Prop) (x y : V) (a b : D) (z : MO) (Q : VK), HidOk H U -> Rep K (Hm H U) a x -> Rep K (Hm H U) b y -> f a b = some z -> (∀ p o, H p = none -> HORep K (Hm H U) z o -> Q (.ref p) (upd H p o)) -> r x y H Q
class OpLN (K : PySem.W.Frag) (r : List V -> Hp -> VK -> Prop) (f : outParam (List D -> Option MO)) : Prop where
  ok : ∀ (H : Hp) (U : Addr -> Prop) (xs : List V) (as : List D) (z : MO) (Q : VK), HidOk H U -> Reps K (Hm H U) as xs -> f as = some z -> (∀ p o, H p = none -> HORep K (Hm H U) z o -> Q (.ref p) (upd H p o)) -> r xs H Q
def ofO {α : Type} (o : Option α) (sl : List S) : ER α := match o with
  | some z => .ok z sl
  | none => .bad
section
variable {K : PySem.W.Frag} {W : WX} {c : Ct} {σ : St} {H H1 : Hp} {sl sl1 : List S}
theorem Sim.hid (s : Sim K c sl σ H) : HidOk H (Hid c sl σ) := fun _ h => h.elim s.fresh fun ⟨_, h⟩ => s.freshT h
theorem POk.pure {d : D} {v : V} {Q : VK} (s : Sim K c sl σ H) (h : POk K W c σ (Rep K) H sl (.ok d sl) Q) (r : Rep K (fz c sl σ H) d v) : Q v H := h v H s r Le.rfl
/-- behind an operation by values -/
theorem POk.op {d : D} {Q : VK} (s : Sim K c sl σ H) (h : POk K W c σ (Rep K) H sl (.ok d sl) Q) : ∀ u H', Same H H' -> Rep K (Hm H' (Hid c sl σ)) d u -> Q u H' := fun u H' e r =>
  h u H' (s.same e) r (fz_same (Le.of_same e))
theorem NOk.op {m : MO} {Q : VK} (s : Sim K c sl σ H) (h : NOk K W c σ H sl (.ok m sl) Q) : ∀ p o, H p = none -> HORep K (Hm H (Hid c sl σ)) m o -> Q (.ref p) (upd H p o) := fun p o n r => h p o H s n r Le.rfl
end

/-! ### slots -/
def gS : List S -> Nat -> S
  | [], _ => .no
  | s :: _, 0 => s
  | _ :: r, i + 1 => gS r i
def sS : List S -> Nat -> S -> List S
  | [], _, _ => []
  | _ :: r, 0, x => x :: r
  | s :: r, i + 1, x => s :: sS r i x
theorem gS_some : ∀ {sl : List S} {i : Nat} {x : S}, gS sl i = x -> x ≠ .no -> sl[i]? = some x
  | [], _, _, h, n => absurd h.symm n
  | s :: r, 0, x, h, _ => by rw [List.getElem?_cons_zero, ← h]; rfl
  | s :: r, i + 1, x, h, n => by rw [List.getElem?_cons_succ]; exact gS_some (sl := r) (i := i) h n
theorem sS_set : ∀ (sl : List S) (i : Nat) (x : S), sS sl i x = sl.set i x
  | [], _, _ => rfl
  | s :: r, 0, x => rfl
  | s :: r, i + 1, x => by rw [List.set_cons_succ, ← sS_set r i x]; rfl
section
variable {K : PySem.W.Frag} {W : WX} {c : Ct} {σ : St} {H H1 : Hp} {sl sl1 : List S}
theorem get_v {i : Nat} {d : D} (s : Sim K c sl σ H) (h : gS sl i = .v d) : ∃ v, σ[i]? = some (some v) ∧ Rep K (fz c sl σ H) d v := s.val i d (gS_some h (fun q => nomatch q))
theorem get_o {i : Nat} {m : MO} (s : Sim K c sl σ H) (h : gS sl i = .o m) : ∃ a o, σ[i]? = some (some (.ref a)) ∧ ¬ c.U a ∧ (c.P = some a ∨ ∀ u, c.H0 a = some u -> ¬ NT u) ∧ H a = some o ∧ HORep K (fz c sl σ H) m o :=
  s.own i m (gS_some h (fun q => nomatch q))
/-- the object that slot i owns becomes a value -/
theorem Sim.frz {i : Nat} {m : MO} (s : Sim K c sl σ H) (h : gS sl i = .o m) : ∃ a o, σ[i]? = some (some (.ref a)) ∧ H a = some o ∧ ¬ Hid c (sS sl i (.v m.toD)) σ a ∧ Le (fz c sl σ H) (fz c (sS sl i (.v m.toD)) σ H) ∧
    Rep K (fz c (sS sl i (.v m.toD)) σ H) m.toD (.ref a) ∧ Sim K c (sS sl i (.v m.toD)) σ H := by
  have hi := gS_some h (fun q => nomatch q)
  obtain ⟨a, o, e1, e2, e3, e4, e5⟩ := s.own i m hi
  rw [sS_set]
  have hlt : i < sl.length := (List.getElem?_eq_some_iff.mp hi).1
  have old : ∀ (j : Nat) (m' : MO), (sl.set i (.v m.toD))[j]? = some (.o m') -> j ≠ i ∧ sl[j]? = some (.o m') := fun j m' e => by
    by_cases q : j = i
    · subst q
      rw [List.getElem?_set_self hlt] at e
      cases e
    · rw [List.getElem?_set_ne (Ne.symm q)] at e
      exact ⟨q, e⟩
  have sub : ∀ b, Hid c (sl.set i (.v m.toD)) σ b -> Hid c sl σ b := fun b hb => hb.elim .inl fun ⟨j, m', h1, h2⟩ => .inr ⟨j, m', (old j m' h1).2, h2⟩
  have na : ¬ Hid c (sl.set i (.v m.toD)) σ a := fun hb => by
    rcases hb with hb | ⟨j, m', h1, h2⟩
    · exact e2 hb
    · obtain ⟨q, h1⟩ := old j m' h1
      exact q (s.dis j i m' m a h1 hi h2 e1)
  have le : Le (fz c sl σ H) (fz c (sl.set i (.v m.toD)) σ H) := Hm_sub sub
  have rp : Rep K (fz c (sl.set i (.v m.toD)) σ H) m.toD (.ref a) := (e5.le le).toD (Hm_some.mpr ⟨na, e4⟩)
  refine ⟨a, o, e1, e4, na, le, rp, ⟨by rw [List.length_set]; exact s.len, fun j d e => ?_, fun j m' e => ?_, fun j k m1 m2 b h1 h2 h3 h4 => s.dis j k m1 m2 b (old j m1 h1).2 (old k m2 h2).2 h3 h4, fun b m' p e => s.par b m' p (old 0 m' e).2, s.frm, s.uh, s.pex, s.tab, s.ne.mv rfl (fun _ q => q) (fun _ _ _ _ e _ => e) le fun j n e => ⟨(set_q e fun _ h => nomatch h).2, fun _ q => q⟩⟩⟩
  · by_cases q : j = i
    · subst q
      rw [List.getElem?_set_self hlt] at e
      cases e
      exact ⟨_, e1, rp⟩
    · rw [List.getElem?_set_ne (Ne.symm q)] at e
      obtain ⟨v, h1, h2⟩ := s.val j d e
      exact ⟨v, h1, h2.le le⟩
  · obtain ⟨_, e⟩ := old j m' e
    obtain ⟨b, o', h1, h2, h3, h4, h5⟩ := s.own j m' e
    exact ⟨b, o', h1, h2, h3, h4, h5.le le⟩
end
/-- a name that is read as a value: what its slot owns is frozen -/
def cVar (i : Nat) : EM := fun sl => match gS sl i with
  | .v d => .ok d sl
  | .o m => .ok m.toD (sS sl i (.v m.toD))
  | _ => .bad
instance (K : PySem.W.Frag) (W : WX) (i : Nat) : EX K W (tVar i) (cVar i) := ⟨fun c σ H sl Q s h => by
  unfold cVar at h
  cases e : gS sl i with
  | no => rw [e] at h; exact h.elim
  | q n => rw [e] at h; exact h.elim
  | v d =>
    rw [e] at h
    obtain ⟨v, h1, h2⟩ := get_v s e
    exact ⟨v, h1, h.pure s h2⟩
  | o m =>
    rw [e] at h
    obtain ⟨a, o, e1, _, _, le, rp, s'⟩ := s.frz e
    exact ⟨_, e1, h _ _ s' rp le⟩⟩

/-! ### constants -/
def cC (d : D) : EM := fun sl => .ok d sl
class VD (v : V) (d : outParam D) : Prop where
  ok : ∀ (K : PySem.W.Frag) (H : Hp), Rep K H d v
instance : VD .non .non := ⟨fun _ _ => .non⟩
instance (b : Bool) : VD (.bl b) (.bl b) := ⟨fun _ _ => .bl b⟩
instance (i : Int) : VD (.int i) (.int i) := ⟨fun _ _ => .int i⟩
instance (x : Str) : VD (.str x) (.str x) := ⟨fun _ _ => .str x⟩
instance (K : PySem.W.Frag) (W : WX) (v : V) (d : D) [q : VD v d] : EX K W (tC v) (cC d) := ⟨fun c σ H sl Q s h => h.pure s (q.ok K _)⟩

/-! ### operators -/
def cOp1 (f : D -> Option D) (ma : EM) : EM := fun sl => (ma sl).bind fun x s => ofO (f x) s
def cOp2 (f : D -> D -> Option D) (ma mb : EM) : EM := fun sl => (ma sl).bind fun x s => (mb s).bind fun y s' => ofO (f x y) s'
def cOp2N (f : D -> D -> Option MO) (ma mb : EM) : NM := fun sl => (ma sl).bind fun x s => (mb s).bind fun y s' => ofO (f x y) s'
def cFz (m : NM) : EM := fun sl => (m sl).bind fun x s => .ok x.toD s
section
variable {K : PySem.W.Frag} {W : WX} {ta tb : TE} {ma mb : EM}
instance {r : V -> Hp -> VK -> Prop} {f : D -> Option D} [ha : EX K W ta ma] [ho : Op1 K r f] : EX K W (tUn r ta) (cOp1 f ma) := ⟨fun c σ H sl Q s h => by
  refine ha.ok c σ H sl _ s (h.split.imp fun x H1 ⟨a, s1, _, i1, r1, l1, h1⟩ => ?_)
  cases e : f a with
  | none => rw [e] at h1; exact h1.elim
  | some z => rw [e] at h1; exact ho.ok H1 _ x a z Q i1.hid r1 e (h1.op i1)⟩
instance op2_ex {r : R2} {f : D -> D -> Option D} [ha : EX K W ta ma] [hb : EX K W tb mb] [ho : Op2 K r f] : EX K W (tOp r ta tb) (cOp2 f ma mb) := ⟨fun c σ H sl Q s h => by
  refine ha.ok c σ H sl _ s (h.split.imp fun x H1 ⟨a, s1, _, i1, r1, l1, h1⟩ => ?_)
  refine hb.ok c σ H1 s1 _ i1 (h1.split.imp fun y H2 ⟨b, s2, _, i2, r2, l2, h2⟩ => ?_)
  cases e : f a b with
  | none => rw [e] at h2; exact h2.elim
  | some z => rw [e] at h2; exact ho.ok H2 _ x y a b z Q i2.hid (r1.le l2) r2 e (h2.op i2)⟩
instance op2_nx {r : R2} {f : D -> D -> Option MO} [ha : EX K W ta ma] [hb : EX K W tb mb] [ho : Op2N K r f] : NX K W (tOp r ta tb) (cOp2N f ma mb) := ⟨fun c σ H sl Q s h => by
  refine ha.ok c σ H sl _ s (h.split.imp fun x H1 ⟨a, s1, _, i1, r1, l1, h1⟩ => ?_)
  refine hb.ok c σ H1 s1 _ i1 (h1.split.imp fun y H2 ⟨b, s2, _, i2, r2, l2, h2⟩ => ?_)
  cases e : f a b with
  | none => rw [e] at h2; exact h2.elim
  | some z => rw [e] at h2; exact ho.ok H2 _ x y a b z Q i2.hid (r1.le l2) r2 e (h2.op i2)⟩
theorem NX.ex {t : TE} {m : NM} (n : NX K W t m) : EX K W t (cFz m) := ⟨fun c σ H sl Q s h => n.ok c σ H sl Q s (NOk.freeze h)⟩
end

/-! ### argument lists, calls of built-ins, displays -/
def cNil : AM := fun sl => .ok [] sl
def cCons (ma : EM) (mr : AM) : AM := fun sl => (ma sl).bind fun x s => (mr s).bind fun xs s' => .ok (x :: xs) s'
def cCB (f : List D -> Option D) (ma : AM) : EM := fun sl => (ma sl).bind fun xs s => ofO (f xs) s
def cCBN (f : List D -> Option MO) (ma : AM) : NM := fun sl => (ma sl).bind fun xs s => ofO (f xs) s
def cTup (ma : AM) : EM := fun sl => (ma sl).bind fun xs s => if xs.length ≤ sizeLine then .ok (.tup xs) s else .bad
def cLst (ma : AM) : NM := fun sl => (ma sl).bind fun xs s => if xs.length ≤ sizeLine then .ok (.lst xs) s else .bad
section
variable {K : PySem.W.Frag} {W : WX} {ta tb : TE} {ma mb : EM} {tr : TA} {mr : AM}
instance : AX K W tNil cNil := ⟨fun c σ H sl Q s h => h [] H s .nil Le.rfl⟩
instance [ha : EX K W ta ma] [hr : AX K W tr mr] : AX K W (tCons ta tr) (cCons ma mr) := ⟨fun c σ H sl Q s h => by
  refine ha.ok c σ H sl _ s (h.split.imp fun x H1 ⟨a, s1, _, i1, r1, l1, h1⟩ => ?_)
  refine hr.ok c σ H1 s1 _ i1 (h1.split.imp fun xs H2 ⟨as, s2, _, i2, r2, l2, h2⟩ => ?_)
  exact h2 _ H2 i2 (.cons (r1.le l2) r2) Le.rfl⟩
instance cb_ex {r : List V -> Hp -> VK -> Prop} {f : List D -> Option D} [ha : AX K W tr mr] [ho : OpL K r f] : EX K W (tCB r tr) (cCB f mr) := ⟨fun c σ H sl Q s h => by
  refine ha.ok c σ H sl _ s (h.split.imp fun x H1 ⟨a, s1, _, i1, r1, l1, h1⟩ => ?_)
  cases e : f a with
  | none => rw [e] at h1; exact h1.elim
  | some z => rw [e] at h1; exact ho.ok H1 _ x a z Q i1.hid r1 e (h1.op i1)⟩
instance cb_nx {r : List V -> Hp -> VK -> Prop} {f : List D -> Option MO} [ha : AX K W tr mr] [ho : OpLN K r f] : NX K W (tCB r tr) (cCBN f mr) := ⟨fun c σ H sl Q s h => by
  refine ha.ok c σ H sl _ s (h.split.imp fun x H1 ⟨a, s1, _, i1, r1, l1, h1⟩ => ?_)
  cases e : f a with
  | none => rw [e] at h1; exact h1.elim
  | some z => rw [e] at h1; exact ho.ok H1 _ x a z Q i1.hid r1 e (h1.op i1)⟩
instance [ha : AX K W tr mr] : EX K W (tTup tr) (cTup mr) := ⟨fun c σ H sl Q s h => by
  refine ha.ok c σ H sl _ s (h.split.imp fun x H1 ⟨a, s1, _, i1, r1, l1, h1⟩ => ?_)
  by_cases z : a.length ≤ sizeLine
  · rw [if_pos z] at h1
    refine ⟨by rw [← r1.length]; exact z, fun p hp => ?_⟩
    have e : Same H1 (upd H1 p (.tup x)) := same_upd hp
    have l2 : Le (fz c s1 σ H1) (fz c s1 σ (upd H1 p (.tup x))) := fz_same (Le.of_same e)
    exact h1 _ _ (i1.same e) (.tup (Hm_some.mpr ⟨i1.fresh hp, upd_same⟩) (r1.le l2)) l2
  · rw [if_neg z] at h1; exact h1.elim⟩
instance lst_nx [ha : AX K W tr mr] : NX K W (tLst tr) (cLst mr) := ⟨fun c σ H sl Q s h => by
  refine ha.ok c σ H sl _ s (h.split.imp fun x H1 ⟨a, s1, _, i1, r1, l1, h1⟩ => ?_)
  by_cases z : a.length ≤ sizeLine
  · rw [if_pos z] at h1
    exact ⟨by rw [← r1.length]; exact z, fun p hp => h1 p _ H1 i1 hp ⟨x, rfl, r1⟩ Le.rfl⟩
  · rw [if_neg z] at h1; exact h1.elim⟩
instance lst_ex [ha : AX K W tr mr] : EX K W (tLst tr) (cFz (cLst mr)) := (lst_nx).ex
end
end DL
set_option linter.all false
set_option autoImplicit false
set_option maxRecDepth 100000
/-! DlC: tests, statements. -/
namespace DL
open PySem PySem.Spec L2

/-! ### tests -/
def asB : D -> Option Bool
  | .bl b => some b
  | _ => none
def cTest (m : EM) : BM := fun sl => (m sl).bind fun x s => ofO (asB x) s
def cAnd (a b : BM) : BM := fun sl => (a sl).bind fun x s => if x = true then b s else .ok false s
def cOr (a b : BM) : BM := fun sl => (a sl).bind fun x s => if x = true then .ok true s else b s
def cNot (a : BM) : BM := fun sl => (a sl).bind fun x s => .ok (!x) s
def cYes : BM := fun sl => .ok true sl
def cOfB (a : BM) : EM := fun sl => (a sl).bind fun x s => .ok (.bl x) s
def cIfE (t : BM) (a b : EM) : EM := fun sl => (t sl).bind fun x s => if x = true then a s else b s
section
variable {K : PySem.W.Frag} {W : WX} {ta tb tc : TE} {ma mb mc : EM} {t u : TT} {a b : BM}
theorem rep_bl {K : PySem.W.Frag} {H : Hp} {d : D} {v : V} {k : Bool} (r : Rep K H d v) (h : asB d = some k) : v = .bl k := by
  cases d <;> simp [asB] at h
  subst h
  cases r
  rfl
instance [ha : EX K W ta ma] : TX K W (tB ta) (cTest ma) := ⟨fun c σ H sl Q s h => by
  refine ha.ok c σ H sl _ s (h.split.imp fun x H1 ⟨d, s1, _, i1, r1, l1, h1⟩ => ?_)
  cases e : asB d with
  | none => rw [e] at h1; exact h1.elim
  | some k => rw [e] at h1; exact ⟨k, rep_bl r1 e, h1 k H1 i1 rfl Le.rfl⟩⟩
instance [ha : EX K W ta ma] : TX K W (tTest ta) (cTest ma) := ⟨fun c σ H sl Q s h => by
  refine ha.ok c σ H sl _ s (h.split.imp fun x H1 ⟨d, s1, _, i1, r1, l1, h1⟩ => ?_)
  cases e : asB d with
  | none => rw [e] at h1; exact h1.elim
  | some k => rw [e] at h1; exact ⟨k, rep_bl r1 e, h1 k H1 i1 rfl Le.rfl⟩⟩
instance : TX K W tYes cYes := ⟨fun c σ H sl Q s h => h true H s rfl Le.rfl⟩
instance [ha : TX K W t a] [hb : TX K W u b] : TX K W (tAnd t u) (cAnd a b) := ⟨fun c σ H sl Q s h => by
  refine ha.ok c σ H sl _ s (h.split.imp fun x H1 ⟨d, s1, _, i1, r1, l1, h1⟩ => ?_)
  cases (show d = x from r1)
  cases x with
  | true => rw [if_pos rfl] at h1 ⊢; exact hb.ok c σ H1 s1 Q i1 h1
  | false => rw [if_neg Bool.false_ne_true] at h1 ⊢; exact h1 false H1 i1 rfl Le.rfl⟩
instance [ha : TX K W t a] [hb : TX K W u b] : TX K W (tOr t u) (cOr a b) := ⟨fun c σ H sl Q s h => by
  refine ha.ok c σ H sl _ s (h.split.imp fun x H1 ⟨d, s1, _, i1, r1, l1, h1⟩ => ?_)
  cases (show d = x from r1)
  cases x with
  | true => rw [if_pos rfl] at h1 ⊢; exact h1 true H1 i1 rfl Le.rfl
  | false => rw [if_neg Bool.false_ne_true] at h1 ⊢; exact hb.ok c σ H1 s1 Q i1 h1⟩
instance [ha : TX K W t a] : TX K W (tNot t) (cNot a) := ⟨fun c σ H sl Q s h => by
  refine ha.ok c σ H sl _ s (h.split.imp fun x H1 ⟨d, s1, _, i1, r1, l1, h1⟩ => ?_)
  cases (show d = x from r1)
  exact h1 _ H1 i1 rfl Le.rfl⟩
instance [ha : EX K W ta ma] [hb : EX K W tb mb] : EX K W (tAndV ta tb) (cIfE (cTest ma) mb (cC (.bl false))) := ⟨fun c σ H sl Q s h => by
  unfold cIfE cTest at h
  refine ha.ok c σ H sl _ s (POk.imp (POk.split (f := fun x s => (ofO (asB x) s).bind fun x s => if x = true then mb s else cC (.bl false) s) (R' := Rep K) (Q := Q) (by cases e : ma sl <;> rw [e] at h <;> exact h)) fun x H1 ⟨d, s1, _, i1, r1, l1, h1⟩ => ?_)
  cases e : asB d with
  | none => rw [e] at h1; exact h1.elim
  | some k =>
    rw [e] at h1
    refine ⟨k, rep_bl r1 e, ?_⟩
    cases k with
    | true => rw [if_pos rfl]; exact hb.ok c σ H1 s1 Q i1 h1
    | false => rw [if_neg Bool.false_ne_true]; exact h1 _ H1 i1 (.bl false) Le.rfl⟩
instance [ha : EX K W ta ma] [hb : EX K W tb mb] : EX K W (tOrV ta tb) (cIfE (cTest ma) (cC (.bl true)) mb) := ⟨fun c σ H sl Q s h => by
  unfold cIfE cTest at h
  refine ha.ok c σ H sl _ s (POk.imp (POk.split (f := fun x s => (ofO (asB x) s).bind fun x s => if x = true then cC (.bl true) s else mb s) (R' := Rep K) (Q := Q) (by cases e : ma sl <;> rw [e] at h <;> exact h)) fun x H1 ⟨d, s1, _, i1, r1, l1, h1⟩ => ?_)
  cases e : asB d with
  | none => rw [e] at h1; exact h1.elim
  | some k =>
    rw [e] at h1
    refine ⟨k, rep_bl r1 e, ?_⟩
    cases k with
    | true => rw [if_pos rfl]; exact h1 _ H1 i1 (.bl true) Le.rfl
    | false => rw [if_neg Bool.false_ne_true]; exact hb.ok c σ H1 s1 Q i1 h1⟩
instance [ha : EX K W ta ma] : EX K W (tNotV ta) (cOfB (cNot (cTest ma))) := ⟨fun c σ H sl Q s h => by
  refine ha.ok c σ H sl _ s (POk.imp (POk.split (f := fun x s => (ofO (asB x) s).bind fun x s => .ok (.bl (!x)) s) (R' := Rep K) (Q := Q) (by unfold cOfB cNot cTest at h; cases e : ma sl with
    | ok a s => rw [e] at h; cases q : asB a with
      | none => simp only [ER.bind, q, ofO] at h ⊢; exact h
      | some k => simp only [ER.bind, q, ofO] at h ⊢; exact h
    | exn x s => rw [e] at h; exact h
    | bad => rw [e] at h; exact h)) fun x H1 ⟨d, s1, _, i1, r1, l1, h1⟩ => ?_)
  cases e : asB d with
  | none => rw [e] at h1; exact h1.elim
  | some k => rw [e] at h1; exact ⟨k, rep_bl r1 e, h1 _ H1 i1 (.bl _) Le.rfl⟩⟩
instance [hc : TX K W t a] [ha : EX K W ta ma] [hb : EX K W tb mb] : EX K W (tIf t ta tb) (cIfE a ma mb) := ⟨fun c σ H sl Q s h => by
  refine hc.ok c σ H sl _ s (h.split.imp fun x H1 ⟨d, s1, _, i1, r1, l1, h1⟩ => ?_)
  cases (show d = x from r1)
  cases x with
  | true => rw [if_pos rfl] at h1 ⊢; exact ha.ok c σ H1 s1 Q i1 h1
  | false => rw [if_neg Bool.false_ne_true] at h1 ⊢; exact hb.ok c σ H1 s1 Q i1 h1⟩
def cChain (f g : D -> D -> Option D) (ma mb mc : EM) : EM := fun sl => (ma sl).bind fun x s => (mb s).bind fun y s1 => (ofO ((f x y).bind asB) s1).bind fun k s1 => if k = true then (mc s1).bind fun z s2 => ofO (g y z) s2 else .ok (.bl false) s1
instance {r r' : R2} {f g : D -> D -> Option D} [ha : EX K W ta ma] [hb : EX K W tb mb] [hc : EX K W tc mc] [ho : Op2 K r f] [ho' : Op2 K r' g] : EX K W (tChain r r' ta tb tc) (cChain f g ma mb mc) := ⟨fun c σ H sl Q s h => by
  refine ha.ok c σ H sl _ s (h.split.imp fun x H1 ⟨a, s1, _, i1, r1, l1, h1⟩ => ?_)
  refine hb.ok c σ H1 s1 _ i1 (h1.split.imp fun y H2 ⟨b, s2, _, i2, r2, l2, h2⟩ => ?_)
  cases e : f a b with
  | none => rw [e] at h2; exact h2.elim
  | some z =>
    cases e2 : asB z with
    | none => simp only [e, Option.bind, e2, ofO, ER.bind] at h2; exact h2.elim
    | some k =>
      simp only [e, Option.bind, e2, ofO, ER.bind] at h2
      refine ho.ok H2 _ x y a b z _ i2.hid (r1.le l2) r2 e fun u H3 sm r3 => ?_
      have i3 := i2.same sm
      have l3 : Le (fz c s2 σ H2) (fz c s2 σ H3) := fz_same (Le.of_same sm)
      refine ⟨k, rep_bl r3 e2, ?_⟩
      cases k with
      | false =>
        rw [if_neg Bool.false_ne_true] at h2 ⊢
        exact (POk.le l3 h2) _ H3 i3 (.bl false) Le.rfl
      | true =>
        rw [if_pos rfl] at h2 ⊢
        refine hc.ok c σ H3 s2 _ i3 ((POk.le l3 h2).split.imp fun w H4 ⟨d, s4, _, i4, r4, l4, h4⟩ => ?_)
        cases e4 : g b d with
        | none => rw [e4] at h4; exact h4.elim
        | some z2 => rw [e4] at h4; exact ho'.ok H4 _ y w b d z2 Q i4.hid (r2.le (l3.trans l4)) r4 e4 (h4.op i4)⟩
end

/-! ### stores -/
section
variable {K : PySem.W.Frag} {W : WX} {c : Ct} {σ σ1 : St} {H H1 : Hp} {sl sl1 : List S}
theorem set_old {sl : List S} {i : Nat} {x : S} {j : Nat} {m' : MO} (hlt : i < sl.length) (nx : ∀ m, x ≠ .o m) (e : (sl.set i x)[j]? = some (.o m')) : j ≠ i ∧ sl[j]? = some (.o m') := by
  by_cases q : j = i
  · subst q
    rw [List.getElem?_set_self hlt] at e
    exact absurd (Option.some.inj e) (nx m')
  · rw [List.getElem?_set_ne (Ne.symm q)] at e
    exact ⟨q, e⟩
theorem Sim.setV {i : Nat} {d : D} {v : V} (s : Sim K c sl σ H) (r : Rep K (fz c sl σ H) d v) (hlt : i < sl.length) : Sim K c (sS sl i (.v d)) (σ.set i (some v)) H ∧ Le (fz c sl σ H) (fz c (sS sl i (.v d)) (σ.set i (some v)) H) := by
  rw [sS_set]
  have hσ : i < σ.length := by rw [← s.len]; exact hlt
  have old : ∀ (j : Nat) (m' : MO), (sl.set i (.v d))[j]? = some (.o m') -> j ≠ i ∧ sl[j]? = some (.o m') := fun j m' e => set_old hlt (fun m q => by cases q) e
  have oσ : ∀ (j : Nat), j ≠ i -> (σ.set i (some v))[j]? = σ[j]? := fun j q => List.getElem?_set_ne (Ne.symm q)
  have sub : ∀ b, Hid c (sl.set i (.v d)) (σ.set i (some v)) b -> Hid c sl σ b := fun b hb => hb.elim .inl fun ⟨j, m', h1, h2⟩ => by
    obtain ⟨q, h1⟩ := old j m' h1
    rw [oσ j q] at h2
    exact .inr ⟨j, m', h1, h2⟩
  have le : Le (fz c sl σ H) (fz c (sl.set i (.v d)) (σ.set i (some v)) H) := Hm_sub sub
  refine ⟨⟨by rw [List.length_set, List.length_set]; exact s.len, fun j d' e => ?_, fun j m' e => ?_, fun j k m1 m2 b h1 h2 h3 h4 => ?_, fun b m' p e => ?_, s.frm, s.uh, s.pex, s.tab, s.ne.mv rfl (fun _ q => q) (fun _ _ _ _ e _ => e) le fun j n e => (fun ⟨q, e⟩ => ⟨e, fun w hw => by rw [oσ j q]; exact hw⟩) (set_q e fun _ h => nomatch h)⟩, le⟩
  · by_cases q : j = i
    · subst q
      rw [List.getElem?_set_self hlt] at e
      cases e
      exact ⟨v, List.getElem?_set_self hσ, r.le le⟩
    · rw [List.getElem?_set_ne (Ne.symm q)] at e
      obtain ⟨w, h1, h2⟩ := s.val j d' e
      exact ⟨w, by rw [oσ j q]; exact h1, h2.le le⟩
  · obtain ⟨q, e⟩ := old j m' e
    obtain ⟨b, o', h1, h2, h3, h4, h5⟩ := s.own j m' e
    exact ⟨b, o', by rw [oσ j q]; exact h1, h2, h3, h4, h5.le le⟩
  · obtain ⟨q1, h1⟩ := old j m1 h1
    obtain ⟨q2, h2⟩ := old k m2 h2
    rw [oσ j q1] at h3
    rw [oσ k q2] at h4
    exact s.dis j k m1 m2 b h1 h2 h3 h4
  · obtain ⟨q, e⟩ := old 0 m' e
    rw [oσ 0 q]
    exact s.par b m' p e
/-- a new object comes into slot i, not the first one -/
theorem Sim.setO {i : Nat} {m : MO} {p : Addr} {o : HO} (s : Sim K c sl σ H) (n : H p = none) (r : HORep K (fz c sl σ H) m o) (hlt : i < sl.length) (hi : i ≠ 0) :
    Sim K c (sS sl i (.o m)) (σ.set i (some (.ref p))) (upd H p o) ∧ Le (fz c sl σ H) (fz c (sS sl i (.o m)) (σ.set i (some (.ref p))) (upd H p o)) := by
  rw [sS_set]
  have hσ : i < σ.length := by rw [← s.len]; exact hlt
  have oσ : ∀ (j : Nat), j ≠ i -> (σ.set i (some (V.ref p)))[j]? = σ[j]? := fun j q => List.getElem?_set_ne (Ne.symm q)
  have osl : ∀ (j : Nat), j ≠ i -> (sl.set i (.o m))[j]? = sl[j]? := fun j q => List.getElem?_set_ne (Ne.symm q)
  have sm : Same H (upd H p o) := same_upd n
  have np : ∀ b, Hid c sl σ b -> b ≠ p := fun b hb q => s.fresh n (by rw [← q]; exact hb)
  have sub : ∀ b, b ≠ p -> Hid c (sl.set i (.o m)) (σ.set i (some (.ref p))) b -> Hid c sl σ b := fun b nb hb => hb.elim .inl fun ⟨j, m', h1, h2⟩ => by
    by_cases q : j = i
    · subst q
      rw [List.getElem?_set_self hσ] at h2
      cases h2
      exact absurd rfl nb
    · rw [osl j q] at h1
      rw [oσ j q] at h2
      exact .inr ⟨j, m', h1, h2⟩
  have le : Le (fz c sl σ H) (fz c (sl.set i (.o m)) (σ.set i (some (.ref p))) (upd H p o)) := fun b u e nt => by
    obtain ⟨h1, h2⟩ := Hm_some.mp e
    exact Hm_some.mpr ⟨fun q => h1 (sub b (ne_of_none h2 n) q), sm b u h2⟩
  have pnew : c.P = some p ∨ ∀ u, c.H0 p = some u -> ¬ NT u := by
    by_cases q : c.P = some p
    · exact .inl q
    · exact .inr fun u e nt => by
        have z := s.frm p u e nt q fun x => (by obtain ⟨_, o, h, _⟩ := s.ne.xk p x; rw [n] at h; cases h)
        rw [n] at z
        cases z
  refine ⟨⟨by rw [List.length_set, List.length_set]; exact s.len, fun j d' e => ?_, fun j m' e => ?_, fun j k m1 m2 b h1 h2 h3 h4 => ?_, fun b m' q e => ?_, fun b u e nt q x => sm b u (s.frm b u e nt q x), s.uh, fun b q => let ⟨u, e, z⟩ := s.pex b q; ⟨u, sm b u e, z⟩, s.tab.ext sm, s.ne.mv rfl (fun _ q => q) (fun b o _ _ e _ => sm b o e) le fun j n e => (fun ⟨q, e⟩ => ⟨e, fun w hw => by rw [oσ j q]; exact hw⟩) (set_q e fun _ h => nomatch h)⟩, le⟩
  · by_cases q : j = i
    · subst q
      rw [List.getElem?_set_self hlt] at e
      cases e
    · rw [osl j q] at e
      obtain ⟨w, h1, h2⟩ := s.val j d' e
      exact ⟨w, by rw [oσ j q]; exact h1, h2.le le⟩
  · by_cases q : j = i
    · subst q
      rw [List.getElem?_set_self hlt] at e
      cases e
      exact ⟨p, o, List.getElem?_set_self hσ, fun q => s.fresh n (.inl q), pnew, upd_same, r.le le⟩
    · rw [osl j q] at e
      obtain ⟨b, o', h1, h2, h3, h4, h5⟩ := s.own j m' e
      exact ⟨b, o', by rw [oσ j q]; exact h1, h2, h3, sm b o' h4, h5.le le⟩
  · have away : ∀ (l : Nat) (ml : MO), l ≠ i -> (sl.set i (.o m))[l]? = some (.o ml) -> (σ.set i (some (V.ref p)))[l]? = some (some (.ref p)) -> False := fun l ml q e1 e2 => by
      rw [osl l q] at e1
      rw [oσ l q] at e2
      exact np p (.inr ⟨l, ml, e1, e2⟩) rfl
    by_cases q1 : j = i
    · by_cases q2 : k = i
      · rw [q1, q2]
      · exfalso
        subst q1
        rw [List.getElem?_set_self hσ] at h3
        cases h3
        exact away k m2 q2 h2 h4
    · by_cases q2 : k = i
      · exfalso
        subst q2
        rw [List.getElem?_set_self hσ] at h4
        cases h4
        exact away j m1 q1 h1 h3
      · rw [osl j q1] at h1
        rw [osl k q2] at h2
        rw [oσ j q1] at h3
        rw [oσ k q2] at h4
        exact s.dis j k m1 m2 b h1 h2 h3 h4
  · rw [osl 0 (Ne.symm hi)] at e
    rw [oσ 0 (Ne.symm hi)]
    exact s.par b m' q e
/-- the object that slot i owns is written -/
theorem Sim.putO {i : Nat} {m m' : MO} {a : Addr} {o : HO} (s : Sim K c sl σ H) (h : gS sl i = .o m) (ha : σ[i]? = some (some (.ref a))) (r : HORep K (fz c sl σ H) m' o) :
    Sim K c (sS sl i (.o m')) σ (upd H a o) ∧ Le (fz c sl σ H) (fz c (sS sl i (.o m')) σ (upd H a o)) := by
  have hi := gS_some h (fun q => nomatch q)
  rw [sS_set]
  have hlt : i < sl.length := (List.getElem?_eq_some_iff.mp hi).1
  have osl : ∀ (j : Nat), j ≠ i -> (sl.set i (.o m'))[j]? = sl[j]? := fun j q => List.getElem?_set_ne (Ne.symm q)
  obtain ⟨a', o', e1, e2, e3, e4, e5⟩ := s.own i m hi
  rw [ha] at e1
  cases e1
  have hida : Hid c sl σ a := .inr ⟨i, m, hi, ha⟩
  have sub : ∀ b, Hid c (sl.set i (.o m')) σ b -> Hid c sl σ b := fun b hb => hb.elim .inl fun ⟨j, m1, h1, h2⟩ => by
    by_cases q : j = i
    · rw [q] at h2
      exact .inr ⟨i, m, hi, h2⟩
    · rw [osl j q] at h1
      exact .inr ⟨j, m1, h1, h2⟩
  have le : Le (fz c sl σ H) (fz c (sl.set i (.o m')) σ (upd H a o)) := fun b u e nt => by
    obtain ⟨h1, h2⟩ := Hm_some.mp e
    have nb : b ≠ a := fun q => h1 (by rw [q]; exact hida)
    exact Hm_some.mpr ⟨fun q => h1 (sub b q), by rw [upd_ne nb]; exact h2⟩
  have back : ∀ (j : Nat) (m1 : MO), (sl.set i (.o m'))[j]? = some (.o m1) -> ∃ m2, sl[j]? = some (.o m2) ∧ (j ≠ i -> m2 = m1) := fun j m1 e => by
    by_cases q : j = i
    · rw [q]
      exact ⟨m, hi, fun z => absurd rfl z⟩
    · rw [osl j q] at e
      exact ⟨m1, e, fun _ => rfl⟩
  refine ⟨⟨by rw [List.length_set]; exact s.len, fun j d' e => ?_, fun j m1 e => ?_, fun j k m1 m2 b h1 h2 h3 h4 => ?_, fun b m1 q e => ?_, fun b u e nt q x => ?_, s.uh, fun b q => ?_, tabs_upd s.tab e4 e5.nt e5.nc, s.ne.mv rfl (fun _ q => q) (fun b o _ u e _ => by rw [upd_ne (fun q => e2 (by rw [← q]; exact u))]; exact e) le fun j n e => ⟨(set_q e fun _ h => nomatch h).2, fun _ q => q⟩⟩, le⟩
  · have q : j ≠ i := fun q => by
      subst q
      rw [List.getElem?_set_self hlt] at e
      cases e
    rw [osl j q] at e
    obtain ⟨w, h1, h2⟩ := s.val j d' e
    exact ⟨w, h1, h2.le le⟩
  · by_cases q : j = i
    · subst q
      rw [List.getElem?_set_self hlt] at e
      cases e
      exact ⟨a, o, ha, e2, e3, upd_same, r.le le⟩
    · rw [osl j q] at e
      obtain ⟨b, u, h1, h2, h3, h4, h5⟩ := s.own j m1 e
      have nb : b ≠ a := fun z => q (s.dis j i m1 m a e hi (by rw [← z]; exact h1) ha)
      exact ⟨b, u, h1, h2, h3, by rw [upd_ne nb]; exact h4, h5.le le⟩
  · obtain ⟨n1, g1, _⟩ := back j m1 h1
    obtain ⟨n2, g2, _⟩ := back k m2 h2
    exact s.dis j k n1 n2 b g1 g2 h3 h4
  · obtain ⟨n1, g1, _⟩ := back 0 m1 e
    exact s.par b n1 q g1
  · have nb : b ≠ a := fun z => by
      rcases e3 with e3 | e3
      · exact q (by rw [z]; exact e3)
      · exact e3 u (by rw [← z]; exact e) nt
    rw [upd_ne nb]
    exact s.frm b u e nt q x
  · by_cases z : b = a
    · rw [z]
      exact ⟨o, upd_same, r.nt⟩
    · obtain ⟨u, e, n⟩ := s.pex b q
      exact ⟨u, by rw [upd_ne z]; exact e, n⟩
end

/-! ### statements -/
def SOk (K : PySem.W.Frag) (W : WX) (c : Ct) (σ : St) (H : Hp) (sl : List S) (r : SR) (Dn : Ends) : Prop := match r with
  | .nx sl' => ∀ σ' H', Sim K c sl' σ' H' -> Le (fz c sl σ H) (fz c sl' σ' H') -> Dn.nx σ' H'
  | .rt d sl' => ∀ v σ' H', Sim K c sl' σ' H' -> Rep K (fz c sl' σ' H') d v -> Le (fz c sl σ H) (fz c sl' σ' H') -> Dn.rt v H'
  | .bk sl' => ∀ σ' H', Sim K c sl' σ' H' -> Le (fz c sl σ H) (fz c sl' σ' H') -> Dn.bk σ' H'
  | .ct sl' => ∀ σ' H', Sim K c sl' σ' H' -> Le (fz c sl σ H) (fz c sl' σ' H') -> Dn.ct σ' H'
  | .exn x sl' => ∀ cls dd σ' H', Sim K c sl' σ' H' -> XRep K (fz c sl' σ' H') x cls dd -> Le (fz c sl σ H) (fz c sl' σ' H') -> W cls dd σ' H'
  | .bad => False
class SX (K : PySem.W.Frag) (W : WX) (t : TS) (m : outParam SM) : Prop where
  ok : ∀ (c : Ct) (σ : St) (H : Hp) (sl : List S) (Dn : Ends), Sim K c sl σ H -> SOk K W c σ H sl (m sl) Dn -> t Dn σ H
def bSR {α : Type} (r : ER α) (f : α -> List S -> SR) : SR := match r with
  | .ok a sl => f a sl
  | .exn x sl => .exn x sl
  | .bad => .bad
section
variable {K : PySem.W.Frag} {W : WX} {c : Ct} {σ σ1 : St} {H H1 : Hp} {sl sl1 : List S} {α β : Type} {Dn : Ends}
theorem SOk.le {r : SR} (l : Le (fz c sl σ H) (fz c sl1 σ1 H1)) (h : SOk K W c σ H sl r Dn) : SOk K W c σ1 H1 sl1 r Dn := by
  cases r with
  | nx s => exact fun σ' H' s1 l1 => h σ' H' s1 (l.trans l1)
  | rt d s => exact fun v σ' H' s1 r1 l1 => h v σ' H' s1 r1 (l.trans l1)
  | bk s => exact fun σ' H' s1 l1 => h σ' H' s1 (l.trans l1)
  | ct s => exact fun σ' H' s1 l1 => h σ' H' s1 (l.trans l1)
  | exn x s => exact fun cls dd σ' H' s1 r1 l1 => h cls dd σ' H' s1 r1 (l.trans l1)
  | bad => exact h
theorem SOk.split {R : Hp -> α -> β -> Prop} {r : ER α} {f : α -> List S -> SR} (h : SOk K W c σ H sl (bSR r f) Dn) :
    POk K W c σ R H sl r (fun b H1 => ∃ a sl1, r = .ok a sl1 ∧ Sim K c sl1 σ H1 ∧ R (fz c sl1 σ H1) a b ∧ Le (fz c sl σ H) (fz c sl1 σ H1) ∧ SOk K W c σ H1 sl1 (f a sl1) Dn) := by
  cases r with
  | ok a s => exact fun b H' s1 r1 l1 => ⟨a, s, rfl, s1, r1, l1, SOk.le l1 h⟩
  | exn x s => exact fun cls dd H' s1 r1 l1 => h cls dd σ H' s1 r1 l1
  | bad => exact h
end
def cSeq (a b : SM) : SM := fun sl => match a sl with
  | .nx s => b s
  | r => r
def cNext : SM := fun sl => .nx sl
def cBrk : SM := fun sl => .bk sl
def cCnt : SM := fun sl => .ct sl
def cDrop (m : EM) : SM := fun sl => bSR (m sl) fun _ s => .nx s
def cRet (m : EM) : SM := fun sl => bSR (m sl) fun d s => .rt d s
def cRetN : SM := fun sl => .rt .non sl
def cIfS (t : BM) (a b : SM) : SM := fun sl => bSR (t sl) fun x s => if x = true then a s else b s
section
variable {K : PySem.W.Frag} {W : WX} {t u : TS} {a b : SM} {te : TE} {me : EM} {tt : TT} {mt : BM}
instance : SX K W tNext cNext := ⟨fun c σ H sl Dn s h => h σ H s Le.rfl⟩
instance : SX K W tBreak cBrk := ⟨fun c σ H sl Dn s h => h σ H s Le.rfl⟩
instance : SX K W tCont cCnt := ⟨fun c σ H sl Dn s h => h σ H s Le.rfl⟩
instance [ha : SX K W t a] [hb : SX K W u b] : SX K W (tSeq t u) (cSeq a b) := ⟨fun c σ H sl Dn s h => by
  refine ha.ok c σ H sl { Dn with nx := u Dn } s ?_
  unfold cSeq at h
  cases e : a sl with
  | nx s1 => rw [e] at h; exact fun σ' H' i1 l1 => hb.ok c σ' H' s1 Dn i1 (SOk.le l1 h)
  | rt d s1 => rw [e] at h; exact h
  | bk s1 => rw [e] at h; exact h
  | ct s1 => rw [e] at h; exact h
  | exn x s1 => rw [e] at h; exact h
  | bad => rw [e] at h; exact h⟩
instance [he : EX K W te me] : SX K W (tDrop te) (cDrop me) := ⟨fun c σ H sl Dn s h => by
  refine he.ok c σ H sl _ s (h.split.imp fun x H1 ⟨d, s1, _, i1, r1, l1, h1⟩ => h1 σ H1 i1 Le.rfl)⟩
instance [he : EX K W te me] : SX K W (tRet te) (cRet me) := ⟨fun c σ H sl Dn s h => by
  refine he.ok c σ H sl _ s (h.split.imp fun x H1 ⟨d, s1, _, i1, r1, l1, h1⟩ => h1 x σ H1 i1 r1 Le.rfl)⟩
instance : SX K W tRetN cRetN := ⟨fun c σ H sl Dn s h => h .non σ H s .non Le.rfl⟩
instance [hc : TX K W tt mt] [ha : SX K W t a] [hb : SX K W u b] : SX K W (tIfS tt t u) (cIfS mt a b) := ⟨fun c σ H sl Dn s h => by
  refine hc.ok c σ H sl _ s (h.split.imp fun x H1 ⟨d, s1, _, i1, r1, l1, h1⟩ => ?_)
  cases (show d = x from r1)
  cases x with
  | true => rw [if_pos rfl] at h1 ⊢; exact ha.ok c σ H1 s1 Dn i1 h1
  | false => rw [if_neg Bool.false_ne_true] at h1 ⊢; exact hb.ok c σ H1 s1 Dn i1 h1⟩
end

/-! ### targets -/
class GX (K : PySem.W.Frag) (g : TG) (m : outParam (D -> List S -> Option (List S))) : Prop where
  ok : ∀ (c : Ct) (σ : St) (H : Hp) (sl sl' : List S) (d : D) (v : V) (Q : St -> Hp -> Prop), Sim K c sl σ H -> Rep K (fz c sl σ H) d v -> m d sl = some sl' ->
    (∀ σ', Sim K c sl' σ' H -> Le (fz c sl σ H) (fz c sl' σ' H) -> Q σ' H) -> g v σ H Q
class GsX (K : PySem.W.Frag) (g : TGs) (m : outParam (List D -> List S -> Option (List S))) : Prop where
  ok : ∀ (c : Ct) (σ : St) (H : Hp) (sl sl' : List S) (ds : List D) (vs : List V) (Q : St -> Hp -> Prop), Sim K c sl σ H -> Reps K (fz c sl σ H) ds vs -> m ds sl = some sl' ->
    (∀ σ', Sim K c sl' σ' H -> Le (fz c sl σ H) (fz c sl' σ' H) -> Q σ' H) -> g vs σ H Q
def mName (i : Nat) : D -> List S -> Option (List S) := fun d sl => if i < sl.length then some (sS sl i (.v d)) else none
def mGNil : List D -> List S -> Option (List S) := fun ds sl => match ds with
  | [] => some sl
  | _ :: _ => none
def mGCons (a : D -> List S -> Option (List S)) (b : List D -> List S -> Option (List S)) : List D -> List S -> Option (List S) := fun ds sl => match ds with
  | [] => none
  | d :: r => (a d sl).bind fun s => b r s
def mGTup (n : Nat) (a : List D -> List S -> Option (List S)) : D -> List S -> Option (List S) := fun d sl => match d with
  | .tup ds => if ds.length = n then a ds sl else none
  | _ => none
section
variable {K : PySem.W.Frag}
instance (i : Nat) : GX K (gName i) (mName i) := ⟨fun c σ H sl sl' d v Q s r e h => by
  unfold mName at e
  by_cases hl : i < sl.length
  · rw [if_pos hl] at e
    cases e
    obtain ⟨s1, l1⟩ := s.setV r hl
    exact h _ s1 l1
  · rw [if_neg hl] at e; cases e⟩
instance : GsX K gNil mGNil := ⟨fun c σ H sl sl' ds vs Q s r e h => by
  cases r with
  | nil => cases e; exact ⟨rfl, h σ s Le.rfl⟩
  | cons a b => cases e⟩
instance {g : TG} {gs : TGs} {a : D -> List S -> Option (List S)} {b : List D -> List S -> Option (List S)} [ha : GX K g a] [hb : GsX K gs b] : GsX K (gCons g gs) (mGCons a b) := ⟨fun c σ H sl sl' ds vs Q s r e h => by
  cases r with
  | nil => cases e
  | @cons d ds v vs r1 r2 =>
    unfold mGCons at e
    cases q : a d sl with
    | none => simp only [q, Option.bind] at e; cases e
    | some s1 =>
      simp only [q, Option.bind] at e
      refine ⟨v, vs, rfl, ha.ok c σ H sl s1 d v _ s r1 q fun σ1 i1 l1 => ?_⟩
      exact hb.ok c σ1 H s1 sl' ds vs Q i1 (r2.le l1) e fun σ2 i2 l2 => h σ2 i2 (l1.trans l2)⟩
instance {gs : TGs} {n : Nat} {b : List D -> List S -> Option (List S)} [hb : GsX K gs b] : GX K (gTup K n gs) (mGTup n b) := ⟨fun c σ H sl sl' d v Q s r e h => by
  cases r with
  | @tup a vs ds hs r =>
    unfold mGTup at e
    by_cases q : ds.length = n
    · simp only [q, if_true] at e
      exact ⟨a, vs, rfl, SqT.of (Hm_some.mp hs).2, by rw [← r.length]; exact q, hb.ok c σ H sl sl' ds vs Q s r e h⟩
    · simp only [q, if_false] at e
      cases e
  | _ => cases e⟩
end
def cAsg (m : EM) (g : D -> List S -> Option (List S)) : SM := fun sl => bSR (m sl) fun d s => match g d s with
  | some s' => .nx s'
  | none => .bad
/-- x = a new object, which x alone holds (x not the first slot) -/
def gO (i : Nat) : TG := gName i
def cAsgO (m : NM) (i : Nat) : SM := fun sl => bSR (m sl) fun d s => if i ≠ 0 ∧ i < s.length then .nx (sS s i (.o d)) else .bad
def cPar (i j : Nat) (m : AM) : SM := fun sl => bSR (m sl) fun ds s => match ds with
  | [a, b] => if i < s.length ∧ j < s.length then .nx (sS (sS s i (.v a)) j (.v b)) else .bad
  | _ => .bad
section
variable {K : PySem.W.Frag} {W : WX} {te : TE} {me : EM} {mn : NM} {g : TG} {mg : D -> List S -> Option (List S)} {ta : TA} {ma : AM}
instance asg_v [he : EX K W te me] [hg : GX K g mg] : SX K W (tAsg te g) (cAsg me mg) := ⟨fun c σ H sl Dn s h => by
  refine he.ok c σ H sl _ s (h.split.imp fun x H1 ⟨d, s1, _, i1, r1, l1, h1⟩ => ?_)
  cases e : mg d s1 with
  | none => simp only [e] at h1; exact h1.elim
  | some s2 => simp only [e] at h1; exact hg.ok c σ H1 s1 s2 d x _ i1 r1 e fun σ' i2 l2 => h1 σ' H1 i2 l2⟩
theorem NOk.splitS {c : Ct} {σ : St} {H : Hp} {sl : List S} {Dn : Ends} {r : ER MO} {i : Nat} (h : SOk K W c σ H sl (bSR r fun d s => if i ≠ 0 ∧ i < s.length then SR.nx (sS s i (.o d)) else .bad) Dn) :
    NOk K W c σ H sl r (fun v H' => ∃ p, v = .ref p ∧ Dn.nx (σ.set i (some v)) H') := by
  cases r with
  | ok m s =>
    intro p o H' s1 n r1 l1
    refine ⟨p, rfl, ?_⟩
    by_cases q : i ≠ 0 ∧ i < s.length
    · simp only [bSR, if_pos q] at h
      obtain ⟨s2, l2⟩ := s1.setO n r1 q.2 q.1
      exact h _ _ s2 (l1.trans l2)
    · simp only [bSR, if_neg q] at h
      exact h.elim
  | exn x s => exact fun cls dd H' s1 r1 l1 => h cls dd σ H' s1 r1 l1
  | bad => exact h
end
end DL
set_option linter.all false
set_option autoImplicit false
set_option maxRecDepth 100000
/-! DlD: owned stores, loops, what is walked, defs and their calls. -/
namespace DL
open PySem PySem.Spec L2

section
variable {K : PySem.W.Frag} {W : WX} {te : TE} {me : EM} {mn : NM} {ta : TA} {ma : AM}
theorem gO_def (i : Nat) (v : V) (σ : L2.St) (H : Hp) (Q : L2.St -> Hp -> Prop) : gO i v σ H Q = Q (σ.set i (some v)) H := rfl
theorem NOk.splitO {c : Ct} {σ : L2.St} {H : Hp} {sl : List S} {Dn : Ends} {r : ER MO} {i : Nat} (h : SOk K W c σ H sl (bSR r fun d s => if i ≠ 0 ∧ i < s.length then SR.nx (sS s i (.o d)) else .bad) Dn) :
    NOk K W c σ H sl r (fun v H' => Dn.nx (σ.set i (some v)) H') := by
  cases r with
  | ok m s =>
    intro p o H' s1 n r1 l1
    by_cases q : i ≠ 0 ∧ i < s.length
    · simp only [bSR, if_pos q] at h
      obtain ⟨s2, l2⟩ := s1.setO n r1 q.2 q.1
      exact h _ _ s2 (l1.trans l2)
    · simp only [bSR, if_neg q] at h
      exact h.elim
  | exn x s => exact fun cls dd H' s1 r1 l1 => h cls dd σ H' s1 r1 l1
  | bad => exact h
instance asg_o {i : Nat} [he : NX K W te mn] : SX K W (tAsg te (gO i)) (cAsgO mn i) := ⟨fun c σ H sl Dn s h => he.ok c σ H sl _ s (NOk.splitO h)⟩
instance {i j : Nat} [ha : AX K W ta ma] : SX K W (tPar i j ta) (cPar i j ma) := ⟨fun c σ H sl Dn s h => by
  refine ha.ok c σ H sl _ s (h.split.imp fun x H1 ⟨ds, s1, _, i1, r1, l1, h1⟩ => ?_)
  cases r1 with
  | nil => exact h1.elim
  | cons ra rr =>
    cases rr with
    | nil => exact h1.elim
    | cons rb rr =>
      cases rr with
      | cons _ _ => exact h1.elim
      | nil =>
        by_cases q : i < s1.length ∧ j < s1.length
        · simp only [if_pos q] at h1
          obtain ⟨s2, l2⟩ := i1.setV ra q.1
          obtain ⟨s3, l3⟩ := s2.setV (i := j) (rb.le l2) (by rw [sS_set, List.length_set]; exact q.2)
          exact ⟨_, _, rfl, h1 _ _ s3 (l2.trans l3)⟩
        · simp only [if_neg q] at h1
          exact h1.elim⟩
end

/-! ### what a loop walks -/
def ItOk (K : PySem.W.Frag) (J : It) (ds : List D) (F0 : Hp) : Prop := ∀ (i : Nat) (H : Hp) (U : Addr -> Prop), Le F0 (Hm H U) -> HidOk H U ->
  (ds.length ≤ i -> J.stop i H) ∧ ∀ d, ds[i]? = some d -> J.go i H ∧ ∀ x H', J.yld i H x H' -> Same H H' ∧ Rep K (Hm H' U) d x
class IX (K : PySem.W.Frag) (W : WX) (wi : TI) (m : outParam AM) : Prop where
  ok : ∀ (c : Ct) (σ : L2.St) (H : Hp) (sl : List S) (R : It -> Hp -> Prop), Sim K c sl σ H -> POk K W c σ (fun Hf ds J => ItOk K J ds Hf) H sl (m sl) R -> wi σ H R
/-- a list or a tuple -/
def iSeq (K : PySem.W.Frag) (tl : TE) : TI := fun σ H R => iList K tl σ H R ∨ iTup K tl σ H R
theorem pi_seq {X : Cx} {tg l : Expr} {tl : TE} (hl : PE X l tl) : PI X tg l (iSeq X.K tl) := ⟨fun pins s σ H R I h => h.elim ((pi_list hl).run pins s σ H R I) ((pi_tup hl).run pins s σ H R I)⟩
def seqD : D -> Option (List D)
  | .lst xs => some xs
  | .tup xs => some xs
  | _ => none
def cSeqI (m : EM) : AM := fun sl => (m sl).bind fun d s => ofO (seqD d) s
theorem itOk_list {K : PySem.W.Frag} {a : Addr} {vs : List V} {ds : List D} {F0 : Hp} (h : F0 a = some (.lst vs)) (r : Reps K F0 ds vs) : ItOk K (Itl K a) ds F0 := fun i H U l _ => by
  have ha : H a = some (.lst vs) := (Hm_some.mp (l _ _ h nt_lst)).2
  refine ⟨fun q => ⟨vs, SqL.of ha, by rw [← r.length]; exact q⟩, fun d e => ?_⟩
  obtain ⟨v, e1, e2⟩ := r.get e
  refine ⟨⟨vs, v, SqL.of ha, e1⟩, fun x H' y => ?_⟩
  obtain ⟨rfl, y⟩ := y
  have z := y vs (SqL.of ha)
  rw [e1] at z
  cases z
  exact ⟨Same.refl _, e2.le l⟩
theorem itOk_tup {K : PySem.W.Frag} {a : Addr} {vs : List V} {ds : List D} {F0 : Hp} (h : F0 a = some (.tup vs)) (r : Reps K F0 ds vs) : ItOk K (Itt K a) ds F0 := fun i H U l _ => by
  have ha : SqT K H a vs := SqT.of (Hm_some.mp (l _ _ h nt_tup)).2
  refine ⟨fun q => ⟨vs, ha, by rw [← r.length]; exact q⟩, fun d e => ?_⟩
  obtain ⟨v, e1, e2⟩ := r.get e
  refine ⟨⟨vs, v, ha, e1⟩, fun x H' y => ?_⟩
  obtain ⟨rfl, y⟩ := y
  have z := y vs ha
  rw [e1] at z
  cases z
  exact ⟨Same.refl _, e2.le l⟩
section
variable {K : PySem.W.Frag} {W : WX} {te : TE} {me : EM} {ta : TA} {ma : AM}
instance [he : EX K W te me] : IX K W (iSeq K te) (cSeqI me) := ⟨fun c σ H sl R s h => by
  have p : POk K W c σ (Rep K) H sl (me sl) (fun x H1 => ∃ a, x = .ref a ∧ (((∃ xs, SqL K H1 a xs) ∧ R (Itl K a) H1) ∨ ((∃ xs, SqT K H1 a xs) ∧ R (Itt K a) H1))) := h.split.imp fun x H1 ⟨d, s1, _, i1, r1, l1, h1⟩ => by
    cases r1 with
    | @tup a vs ds hs r =>
      have h1 : POk K W c σ (fun Hf ds J => ItOk K J ds Hf) H1 s1 (.ok ds s1) R := h1
      exact ⟨a, rfl, .inr ⟨⟨vs, SqT.of (Hm_some.mp hs).2⟩, h1 _ H1 i1 (itOk_tup hs r) Le.rfl⟩⟩
    | @lst a vs ds hs r =>
      have h1 : POk K W c σ (fun Hf ds J => ItOk K J ds Hf) H1 s1 (.ok ds s1) R := h1
      exact ⟨a, rfl, .inl ⟨⟨vs, SqL.of (Hm_some.mp hs).2⟩, h1 _ H1 i1 (itOk_list hs r) Le.rfl⟩⟩
    | _ => exact h1.elim
  -- which of the two is known ahead
  cases e : me sl with
  | bad => unfold cSeqI at h; rw [e] at h; exact h.elim
  | exn x s1 =>
    refine .inl (he.ok c σ H sl _ s ?_)
    rw [e] at p ⊢
    exact p
  | ok d s1 =>
    cases d with
    | tup ds =>
      refine .inr (he.ok c σ H sl _ s ?_)
      unfold cSeqI at h
      rw [e] at h ⊢
      intro x H1 i1 r1 l1
      cases r1 with
      | @tup a vs _ hs r => exact ⟨a, rfl, ⟨vs, SqT.of (Hm_some.mp hs).2⟩, h _ H1 i1 (itOk_tup hs r) l1⟩
    | lst ds =>
      refine .inl (he.ok c σ H sl _ s ?_)
      unfold cSeqI at h
      rw [e] at h ⊢
      intro x H1 i1 r1 l1
      cases r1 with
      | @lst a vs _ hs r => exact ⟨a, rfl, ⟨vs, SqL.of (Hm_some.mp hs).2⟩, h _ H1 i1 (itOk_list hs r) l1⟩
    | _ => unfold cSeqI at h; rw [e] at h; exact h.elim⟩
/-- range -/
def rngD (lo hi : Int) : List D := (List.range (hi - lo).toNat).map fun i : Nat => D.int (lo + i)
def rngB (i : Int) : Bool := decide (-(2 ^ 62) ≤ i) && decide (i < 2 ^ 62)
def cRng1 (m : AM) : AM := fun sl => (m sl).bind fun ds s => match ds with
  | [.int j] => if rngB j = true then .ok (rngD 0 j) s else .bad
  | _ => .bad
def cRng2 (m : AM) : AM := fun sl => (m sl).bind fun ds s => match ds with
  | [.int i, .int j] => if (rngB i && rngB j) = true then .ok (rngD i j) s else .bad
  | _ => .bad
theorem itOk_rng {K : PySem.W.Frag} {lo hi : Int} {F0 : Hp} : ItOk K (Itr lo (hi - lo).toNat) (rngD lo hi) F0 := fun i H U l _ => by
  refine ⟨fun q => ?_, fun d e => ?_⟩
  · unfold rngD at q
    rw [List.length_map, List.length_range] at q
    exact q
  · unfold rngD at e
    rw [List.getElem?_map] at e
    cases q : (List.range (hi - lo).toNat)[i]? with
    | none => rw [q] at e; cases e
    | some k =>
      rw [q] at e
      obtain ⟨h1, h2⟩ := List.getElem?_eq_some_iff.mp q
      rw [List.getElem_range] at h2
      rw [List.length_range] at h1
      subst h2
      cases e
      refine ⟨h1, fun x H' y => ?_⟩
      obtain ⟨rfl, rfl⟩ := y
      exact ⟨Same.refl _, .int _⟩
instance [ha : AX K W ta ma] : IX K W (iRng1 ta) (cRng1 ma) := ⟨fun c σ H sl R s h => by
  refine ha.ok c σ H sl _ s (h.split.imp fun x H1 ⟨ds, s1, _, i1, r1, l1, h1⟩ => ?_)
  cases r1 with
  | nil => exact h1.elim
  | cons ra rr =>
    cases ra with
    | int j =>
      cases rr with
      | cons _ _ => exact h1.elim
      | nil =>
        by_cases q : rngB j = true
        · simp only [if_pos q] at h1
          unfold rngB at q
          simp only [Bool.and_eq_true, decide_eq_true_eq] at q
          have z := h1 _ H1 i1 (itOk_rng (lo := 0) (hi := j)) Le.rfl
          rw [Int.sub_zero] at z
          exact ⟨j, rfl, q.1, q.2, z⟩
        · simp only [if_neg q] at h1; exact h1.elim
    | _ => exact h1.elim⟩
instance [ha : AX K W ta ma] : IX K W (iRng2 ta) (cRng2 ma) := ⟨fun c σ H sl R s h => by
  refine ha.ok c σ H sl _ s (h.split.imp fun x H1 ⟨ds, s1, _, i1, r1, l1, h1⟩ => ?_)
  cases r1 with
  | nil => exact h1.elim
  | cons ra rr =>
    cases ra with
    | int i =>
      cases rr with
      | nil => exact h1.elim
      | cons rb rr =>
        cases rb with
        | int j =>
          cases rr with
          | cons _ _ => exact h1.elim
          | nil =>
            by_cases q : (rngB i && rngB j) = true
            · simp only [if_pos q] at h1
              unfold rngB at q
              simp only [Bool.and_eq_true, decide_eq_true_eq] at q
              exact ⟨i, j, rfl, ⟨q.1.1, q.1.2, q.2.1, q.2.2⟩, h1 _ H1 i1 itOk_rng Le.rfl⟩
            · simp only [if_neg q] at h1; exact h1.elim
        | _ => exact h1.elim
    | _ => exact h1.elim⟩
/-- a text, sign by sign -/
def strD (x : Str) : List D := x.cps.toList.map fun c => D.str ⟨#[c]⟩
def cStrI (m : EM) : AM := fun sl => (m sl).bind fun d s => match d with
  | .str x => .ok (strD x) s
  | _ => .bad
theorem itOk_str {K : PySem.W.Frag} {x : Str} {F0 : Hp} : ItOk K (Its x) (strD x) F0 := fun i H U l _ => by
  unfold strD
  refine ⟨fun q => ?_, fun d e => ?_⟩
  · rw [List.length_map, Array.length_toList] at q
    exact q
  · rw [List.getElem?_map, Array.getElem?_toList] at e
    cases q : x.cps[i]? with
    | none => rw [q] at e; cases e
    | some k =>
      rw [q] at e
      cases e
      refine ⟨(Array.getElem?_eq_some_iff.mp q).1, fun y H' z => ?_⟩
      obtain ⟨rfl, c, h1, rfl⟩ := z
      rw [q] at h1
      cases h1
      exact ⟨Same.refl _, .str _⟩
instance [he : EX K W te me] : IX K W (iStr te) (cStrI me) := ⟨fun c σ H sl R s h => by
  refine he.ok c σ H sl _ s (h.split.imp fun x H1 ⟨d, s1, _, i1, r1, l1, h1⟩ => ?_)
  cases r1 with
  | str x => exact ⟨x, rfl, h1 _ H1 i1 itOk_str Le.rfl⟩
  | _ => exact h1.elim⟩
end

/-! ### for, while -/
def forR (g : D -> List S -> Option (List S)) (b : SM) : List D -> SM
  | [], sl => .nx sl
  | d :: r, sl => match g d sl with
    | none => .bad
    | some s => match b s with
      | .nx s' => forR g b r s'
      | .ct s' => forR g b r s'
      | .bk s' => .nx s'
      | q => q
def cFor (mi : AM) (g : D -> List S -> Option (List S)) (b : SM) : SM := fun sl => bSR (mi sl) fun ds s => forR g b ds s
def whileR (t : BM) (b : SM) : Nat -> SM
  | 0, _ => .bad
  | n + 1, sl => bSR (t sl) fun k s => if k = true then (match b s with
      | .nx s' => whileR t b n s'
      | .ct s' => whileR t b n s'
      | .bk s' => .nx s'
      | q => q) else .nx s
def tWhileF (n : Nat) (c : TT) (tb : TS) : TS := tWhile c tb
theorem ps_whileF {X : Cx} {c : Expr} {body : List Stmt} {tc : TT} {tb : TS} {pos : Pos} (n : Nat) (hp : PassesOwn (model X.prog X.w) X.A X.env X.xe) (hc : PT X c tc) (hb : PSs X body tb) : PS X (.While c body [] pos) (tWhileF n tc tb) := ps_while hp hc hb
section
variable {K : PySem.W.Frag} {W : WX} {wi : TI} {mi : AM} {g : TG} {mg : D -> List S -> Option (List S)} {tb : TS} {mb : SM} {tt : TT} {mt : BM}
instance [hi : IX K W wi mi] [hg : GX K g mg] [hb : SX K W tb mb] : SX K W (tFor wi g tb) (cFor mi mg mb) := ⟨fun c σ H sl Dn s h => by
  refine hi.ok c σ H sl _ s (h.split.imp fun J H1 ⟨ds, s1, _, i1, r1, l1, h1⟩ => ?_)
  refine ⟨fun i m σ' H' => m = ds.length - i ∧ i ≤ ds.length ∧ ∃ s', Sim K c s' σ' H' ∧ Le (fz c s1 σ H1) (fz c s' σ' H') ∧ SOk K W c σ' H' s' (forR mg mb (ds.drop i) s') Dn, ⟨ds.length, by simp, Nat.zero_le _, s1, i1, Le.rfl, h1⟩, ?_⟩
  rintro i m σ2 H2 ⟨rfl, hle, s2, i2, l2, h2⟩
  obtain ⟨st, go⟩ := r1 i H2 _ l2 i2.hid
  by_cases hlt : i < ds.length
  · have hd : ds[i]? = some ds[i] := by simp [hlt]
    obtain ⟨g1, g2⟩ := go _ hd
    refine .inr ⟨g1, fun σ' H' => ∃ s', Sim K c s' σ' H' ∧ Le (fz c s1 σ H1) (fz c s' σ' H') ∧ SOk K W c σ' H' s' (forR mg mb (ds.drop (i + 1)) s') Dn, fun σ' H' ⟨s', a1, a2, a3⟩ => ⟨ds.length - (i + 1), by omega, rfl, hlt, s', a1, a2, a3⟩, fun x H3 y => ?_⟩
    obtain ⟨sm, rx⟩ := g2 x H3 y
    have i3 := i2.same sm
    have l3 : Le (fz c s2 σ2 H2) (fz c s2 σ2 H3) := fz_same (Le.of_same sm)
    rw [List.drop_eq_getElem_cons hlt] at h2
    unfold forR at h2
    cases e : mg ds[i] s2 with
    | none => rw [e] at h2; exact h2.elim
    | some s4 =>
      rw [e] at h2
      refine hg.ok c σ2 H3 s2 s4 ds[i] x _ i3 rx e fun σ4 i4 l4 => ?_
      refine hb.ok c σ4 H3 s4 _ i4 ?_
      have lz := (l2.trans l3).trans l4
      cases q : mb s4 with
      | nx s5 => simp only [q] at h2; exact fun σ5 H5 i5 l5 => ⟨s5, i5, lz.trans l5, SOk.le ((l3.trans l4).trans l5) h2⟩
      | ct s5 => simp only [q] at h2; exact fun σ5 H5 i5 l5 => ⟨s5, i5, lz.trans l5, SOk.le ((l3.trans l4).trans l5) h2⟩
      | bk s5 => simp only [q] at h2; exact fun σ5 H5 i5 l5 => h2 σ5 H5 i5 ((l3.trans l4).trans l5)
      | rt d s5 => simp only [q] at h2; exact fun v σ5 H5 i5 r5 l5 => h2 v σ5 H5 i5 r5 ((l3.trans l4).trans l5)
      | exn x s5 => simp only [q] at h2; exact fun cls dd σ5 H5 i5 r5 l5 => h2 cls dd σ5 H5 i5 r5 ((l3.trans l4).trans l5)
      | bad => simp only [q] at h2; exact h2.elim
  · have e : i = ds.length := by omega
    subst e
    refine .inl ⟨st (Nat.le_refl _), ?_⟩
    rw [List.drop_length] at h2
    exact h2 σ2 H2 i2 Le.rfl⟩
instance {n : Nat} [hc : TX K W tt mt] [hb : SX K W tb mb] : SX K W (tWhileF n tt tb) (whileR mt mb n) := ⟨fun c σ H sl Dn s h => by
  refine ⟨fun m σ' H' => ∃ s', Sim K c s' σ' H' ∧ SOk K W c σ' H' s' (whileR mt mb m s') Dn, ⟨n, sl, s, h⟩, ?_⟩
  rintro m σ2 H2 ⟨s2, i2, h2⟩
  cases m with
  | zero => exact h2.elim
  | succ m =>
    unfold whileR at h2
    refine hc.ok c σ2 H2 s2 _ i2 (h2.split.imp fun x H3 ⟨k, s3, _, i3, r3, l3, h3⟩ => ?_)
    cases (show k = x from r3)
    cases x with
    | false => rw [if_neg Bool.false_ne_true] at h3 ⊢; exact h3 σ2 H3 i3 Le.rfl
    | true =>
      rw [if_pos rfl] at h3 ⊢
      refine ⟨fun σ' H' => ∃ s', Sim K c s' σ' H' ∧ SOk K W c σ' H' s' (whileR mt mb m s') Dn, fun σ' H' z => ⟨m, Nat.lt_succ_self _, z⟩, hb.ok c σ2 H3 s3 _ i3 ?_⟩
      cases q : mb s3 with
      | nx s5 => simp only [q] at h3; exact fun σ5 H5 i5 l5 => ⟨s5, i5, SOk.le l5 h3⟩
      | ct s5 => simp only [q] at h3; exact fun σ5 H5 i5 l5 => ⟨s5, i5, SOk.le l5 h3⟩
      | bk s5 => simp only [q] at h3; exact h3
      | rt d s5 => simp only [q] at h3; exact h3
      | exn x s5 => simp only [q] at h3; exact h3
      | bad => simp only [q] at h3; exact h3.elim⟩
end

/-! ### defs: their promises, their calls -/
structure UOk (K : PySem.W.Frag) (H : Hp) (U : Addr -> Prop) : Prop where
  at_ : ∀ b, U b -> ∃ o, H b = some o ∧ NU o
  tab : LamX.Tabs (LT K) H
/-- behind a call: all is kept but tables, and these tell what they told -/
structure LeT (K : PySem.W.Frag) (H H' : Hp) : Prop where
  le : Le H H'
  tab : LamX.Tabs (LT K) H'
/-- a def of data alone -/
def spP (K : PySem.W.Frag) (n : Nat) (F : List D -> Option D) : Sp := fun vs H Q _ => ∃ (ds : List D) (U : Addr -> Prop) (z : D), ds.length = n ∧ UOk K H U ∧ Reps K (Hm H U) ds vs ∧ F ds = some z ∧ ∀ u H', LeT K H H' -> Rep K (Hm H' U) z u -> Q u H'
/-- a def that is lent an object first -/
def spB (K : PySem.W.Frag) (n : Nat) (F : MO -> List D -> Option (D × MO)) : Sp := fun vs H Q _ => ∃ (a : Addr) (m : MO) (o : HO) (ws : List V) (ds : List D) (U : Addr -> Prop) (z : D) (m' : MO), vs = .ref a :: ws ∧ ds.length = n ∧ UOk K H U ∧ ¬ U a ∧ H a = some o ∧
  HORep K (Hm H fun b => U b ∨ b = a) m o ∧ Reps K (Hm H fun b => U b ∨ b = a) ds ws ∧ F m ds = some (z, m') ∧
  ∀ u H' o', (∀ b ob, b ≠ a -> H b = some ob -> NT ob -> H' b = some ob) -> LamX.Tabs (LT K) H' -> H' a = some o' -> HORep K (Hm H' fun b => U b ∨ b = a) m' o' -> Rep K (Hm H' fun b => U b ∨ b = a) z u -> Q u H'
def cCall (F : List D -> Option D) (m : AM) : EM := fun sl => (m sl).bind fun ds s => ofO (F ds) s
/-- the i-th slot's object, read where it stays owned -/
def tVarB (i : Nat) : TE := tVar i
theorem pvB {X : Cx} (i : Nat) {x : Str} {pos : Pos} (hN : X.N[i]? = some x := by rfl) (hv : Vis X.env.scope x := by first | exact Or.inl rfl | exact Or.inr (Or.inl rfl) | exact Or.inr (Or.inr rfl)) (hd : (x == ("__debug__" : Str)) = false := by decide)
    (hcd : (x == ("__classdict__" : Str)) = false := by decide) : PE X (.Name x pos) (tVarB i) := pe_var hN hv hd hcd
def cCallB (i : Nat) (F : MO -> List D -> Option (D × MO)) (m : AM) : EM := fun sl => match gS sl i with
  | .o _ => (m sl).bind fun ds s => match gS s i with
    | .o mo => (match F mo ds with
      | some (z, m') => .ok z (sS s i (.o m'))
      | none => .bad)
    | _ => .bad
  | _ => .bad
section
variable {K : PySem.W.Frag} {W : WX} {c : Ct} {σ : L2.St} {H H1 : Hp} {sl sl1 : List S} {ta : TA} {ma : AM} {n : Nat} {E : XK}
theorem Sim.uok (s : Sim K c sl σ H) : UOk K H (Hid c sl σ) := ⟨fun _ h => s.hiddenU h, s.tab⟩
instance {F : List D -> Option D} [ha : AX K W ta ma] : EX K W (tCall (spP K n F) [] E ta) (cCall (fun ds => if ds.length = n then F ds else none) ma) := ⟨fun c σ H sl Q s h => by
  refine ha.ok c σ H sl _ s (h.split.imp fun x H1 ⟨ds, s1, _, i1, r1, l1, h1⟩ => ?_)
  by_cases hl : ds.length = n
  · simp only [hl, if_true] at h1
    cases e : F ds with
    | none => rw [e] at h1; exact h1.elim
    | some z =>
      rw [e] at h1
      refine ⟨ds, Hid c s1 σ, z, hl, i1.uok, by rw [List.append_nil]; exact r1, e, fun u H2 l2 r2 => ?_⟩
      exact h1 u H2 (i1.le l2.le l2.tab) r2 (fz_same l2.le)
  · simp only [hl, if_false] at h1
    exact h1.elim⟩
/-- the object that slot i owns is another one behind a call -/
theorem Sim.putG {i : Nat} {m m' : MO} {a : Addr} {o : HO} {H' : Hp} (s : Sim K c sl σ H) (h : gS sl i = .o m) (ha : σ[i]? = some (some (.ref a))) (fr : ∀ b ob, b ≠ a -> H b = some ob -> NT ob -> H' b = some ob) (tb : LamX.Tabs (LT K) H') (he : H' a = some o)
    (r : HORep K (Hm H' (Hid c sl σ)) m' o) : Sim K c (sS sl i (.o m')) σ H' ∧ Le (fz c sl σ H) (fz c (sS sl i (.o m')) σ H') ∧ Le (Hm H' (Hid c sl σ)) (fz c (sS sl i (.o m')) σ H') := by
  have hi := gS_some h (fun q => nomatch q)
  rw [sS_set]
  have hlt : i < sl.length := (List.getElem?_eq_some_iff.mp hi).1
  have osl : ∀ (j : Nat), j ≠ i -> (sl.set i (.o m'))[j]? = sl[j]? := fun j q => List.getElem?_set_ne (Ne.symm q)
  obtain ⟨a', o', e1, e2, e3, e4, e5⟩ := s.own i m hi
  rw [ha] at e1
  cases e1
  have hida : Hid c sl σ a := .inr ⟨i, m, hi, ha⟩
  have sub : ∀ b, Hid c (sl.set i (.o m')) σ b -> Hid c sl σ b := fun b hb => hb.elim .inl fun ⟨j, m1, h1, h2⟩ => by
    by_cases q : j = i
    · rw [q] at h2
      exact .inr ⟨i, m, hi, h2⟩
    · rw [osl j q] at h1
      exact .inr ⟨j, m1, h1, h2⟩
  have le : Le (fz c sl σ H) (fz c (sl.set i (.o m')) σ H') := fun b u e nt => by
    obtain ⟨h1, h2⟩ := Hm_some.mp e
    have nb : b ≠ a := fun q => h1 (by rw [q]; exact hida)
    exact Hm_some.mpr ⟨fun q => h1 (sub b q), fr b u nb h2 nt⟩
  have le2 : Le (Hm H' (Hid c sl σ)) (fz c (sl.set i (.o m')) σ H') := Hm_sub sub
  have back : ∀ (j : Nat) (m1 : MO), (sl.set i (.o m'))[j]? = some (.o m1) -> ∃ m2, sl[j]? = some (.o m2) ∧ (j ≠ i -> m2 = m1) := fun j m1 e => by
    by_cases q : j = i
    · rw [q]
      exact ⟨m, hi, fun z => absurd rfl z⟩
    · rw [osl j q] at e
      exact ⟨m1, e, fun _ => rfl⟩
  refine ⟨⟨by rw [List.length_set]; exact s.len, fun j d' e => ?_, fun j m1 e => ?_, fun j k m1 m2 b h1 h2 h3 h4 => ?_, fun b m1 q e => ?_, fun b u e nt q x => ?_, s.uh, fun b q => ?_, tb, s.ne.mv rfl (fun _ q => q) (fun b o _ u e n => fr b o (fun q => e2 (by rw [← q]; exact u)) e n.1) le fun j n e => ⟨(set_q e fun _ h => nomatch h).2, fun _ q => q⟩⟩, le, le2⟩
  · have q : j ≠ i := fun q => by
      subst q
      rw [List.getElem?_set_self hlt] at e
      cases e
    rw [osl j q] at e
    obtain ⟨w, h1, h2⟩ := s.val j d' e
    exact ⟨w, h1, h2.le le⟩
  · by_cases q : j = i
    · subst q
      rw [List.getElem?_set_self hlt] at e
      cases e
      exact ⟨a, o, ha, e2, e3, he, r.le le2⟩
    · rw [osl j q] at e
      obtain ⟨b, u, h1, h2, h3, h4, h5⟩ := s.own j m1 e
      have nb : b ≠ a := fun z => q (s.dis j i m1 m a e hi (by rw [← z]; exact h1) ha)
      exact ⟨b, u, h1, h2, h3, fr b u nb h4 h5.nt, h5.le le⟩
  · obtain ⟨n1, g1, _⟩ := back j m1 h1
    obtain ⟨n2, g2, _⟩ := back k m2 h2
    exact s.dis j k n1 n2 b g1 g2 h3 h4
  · obtain ⟨n1, g1, _⟩ := back 0 m1 e
    exact s.par b n1 q g1
  · have nb : b ≠ a := fun z => by
      rcases e3 with e3 | e3
      · exact q (by rw [z]; exact e3)
      · exact e3 u (by rw [← z]; exact e) nt
    exact fr b u nb (s.frm b u e nt q x) nt
  · by_cases z : b = a
    · rw [z]
      exact ⟨o, he, r.nt⟩
    · obtain ⟨u, e, n⟩ := s.pex b q
      exact ⟨u, fr b u z e n, n⟩
instance {i : Nat} {F : MO -> List D -> Option (D × MO)} [ha : AX K W ta ma] : EX K W (tCall (spB K n F) [] E (tCons (tVarB i) ta)) (cCallB i (fun m ds => if ds.length = n then F m ds else none) ma) := ⟨fun c σ H sl Q s h => by
  unfold cCallB at h
  cases g0 : gS sl i with
  | no => rw [g0] at h; exact h.elim
  | q n => rw [g0] at h; exact h.elim
  | v d => rw [g0] at h; exact h.elim
  | o m0 =>
    simp only [g0] at h
    obtain ⟨a, o0, hσ, _⟩ := get_o s g0
    refine ⟨.ref a, hσ, ha.ok c σ H sl _ s (h.split.imp fun x H1 ⟨ds, s1, _, i1, r1, l1, h1⟩ => ?_)⟩
    cases g1 : gS s1 i with
    | no => simp only [g1] at h1; exact h1.elim
    | q n => simp only [g1] at h1; exact h1.elim
    | v d => simp only [g1] at h1; exact h1.elim
    | o m =>
      simp only [g1] at h1
      obtain ⟨a', o, hσ', nU, _, hH, hr⟩ := get_o i1 g1
      rw [hσ] at hσ'
      cases hσ'
      by_cases hl : ds.length = n
      · simp only [hl, if_true] at h1
        cases e : F m ds with
        | none => simp only [e] at h1; exact h1.elim
        | some zm =>
          obtain ⟨z, m'⟩ := zm
          simp only [e] at h1
          have hU : ∀ b, (Hid c s1 σ b ∧ b ≠ a ∨ b = a) ↔ Hid c s1 σ b := fun b => ⟨fun q => q.elim (fun w => w.1) fun w => by rw [w]; exact .inr ⟨i, m, gS_some g1 (fun q => nomatch q), hσ⟩, fun q => by
            by_cases w : b = a
            · exact .inr w
            · exact .inl ⟨q, w⟩⟩
          have eU : (fun b => Hid c s1 σ b ∧ b ≠ a ∨ b = a) = Hid c s1 σ := funext fun b => propext (hU b)
          refine ⟨a, m, o, x, ds, fun b => Hid c s1 σ b ∧ b ≠ a, z, m', by rw [List.append_nil], hl, ⟨fun b q => i1.hiddenU q.1, i1.tab⟩, fun q => q.2 rfl, hH, by rw [eU]; exact hr, by rw [eU]; exact r1, e, fun u H2 o' fr tb he hr2 ru => ?_⟩
          rw [eU] at hr2 ru
          obtain ⟨s2, l2, l3⟩ := i1.putG g1 hσ fr tb he hr2
          exact h1 u H2 s2 (ru.le l3) l2
      · simp only [hl, if_false] at h1
        exact h1.elim⟩
end
/-- the slots at a def's entry -/
def iniP (N : Nat) (ds : List D) : List S := ds.map S.v ++ List.replicate (N - ds.length) S.no
def runP (N : Nat) (m : SM) : List D -> Option D := fun ds => match m (iniP N ds) with
  | .rt d _ => some d
  | .nx _ => some .non
  | _ => none
def runB (N : Nat) (m : SM) : MO -> List D -> Option (D × MO) := fun mo ds => match m (S.o mo :: iniP (N - 1) ds) with
  | .rt d s => (match gS s 0 with
    | .o m' => some (d, m')
    | _ => none)
  | .nx s => (match gS s 0 with
    | .o m' => some (.non, m')
    | _ => none)
  | _ => none
abbrev W0 : WX := fun _ _ _ _ => False
theorem get_map_v {ds : List D} {N : Nat} {i : Nat} {x : S} (h : (iniP N ds)[i]? = some x) : (∃ d, x = .v d ∧ ds[i]? = some d) ∨ x = .no := by
  unfold iniP at h
  by_cases hi : i < ds.length
  · rw [List.getElem?_append_left (by simpa using hi), List.getElem?_map] at h
    cases e : ds[i]? with
    | none => rw [e] at h; cases h
    | some d => rw [e] at h; cases h; exact .inl ⟨d, rfl, rfl⟩
  · rw [List.getElem?_append_right (by simpa using hi), List.getElem?_replicate] at h
    split at h
    · cases h; exact .inr rfl
    · cases h
theorem start_at {N : List Str} {vs : List V} {i : Nat} {v : V} (h : vs[i]? = some v) : (L2.start N vs)[i]? = some (some v) := by
  have hi := (List.getElem?_eq_some_iff.mp h).1
  unfold L2.start
  rw [List.getElem?_append_left (by simpa using hi), List.getElem?_map, h] <;> rfl
theorem start_len {N : List Str} {vs : List V} (h : vs.length ≤ N.length) : (L2.start N vs).length = N.length := by
  unfold L2.start
  rw [List.length_append, List.length_map, List.length_replicate]
  omega
section
variable {K : PySem.W.Frag} {N : List Str} {H : Hp} {U : Addr -> Prop}
theorem sim_ini {ds : List D} {vs : List V} (r : Reps K (Hm H U) ds vs) (u : UOk K H U) (hl : vs.length ≤ N.length) : Sim K ⟨H, none, U, none⟩ (iniP N.length ds) (L2.start N vs) H ∧ Le (Hm H U) (fz ⟨H, none, U, none⟩ (iniP N.length ds) (L2.start N vs) H) := by
  have no : ∀ (i : Nat) (m : MO), (iniP N.length ds)[i]? = some (.o m) -> False := fun i m e => by
    rcases get_map_v e with ⟨d, q, _⟩ | q <;> cases q
  have le : Le (Hm H U) (fz ⟨H, none, U, none⟩ (iniP N.length ds) (L2.start N vs) H) := Hm_sub fun b hb => hb.elim id fun ⟨i, m, h1, _⟩ => (no i m h1).elim
  refine ⟨⟨?_, fun i d e => ?_, fun i m e => (no i m e).elim, fun i j m m' a h1 _ _ _ => (no i m h1).elim, fun a m q _ => (by cases q), fun b o e n p _ => e, fun b h => ⟨fun q => (by cases q), u.at_ b h⟩, fun b q => (by cases q), u.tab, NSt.none fun j n e => (by rcases get_map_v e with ⟨d, q, _⟩ | q <;> cases q)⟩, le⟩
  · rw [start_len hl]
    unfold iniP
    rw [List.length_append, List.length_map, List.length_replicate]
    have := r.length
    omega
  · rcases get_map_v e with ⟨d', q, e2⟩ | q
    · cases q
      obtain ⟨v, h1, h2⟩ := r.get e2
      exact ⟨v, start_at h1, h2.le le⟩
    · cases q
theorem sim_iniB {ds : List D} {ws : List V} {a : Addr} {m : MO} {o : HO} (hm : HORep K (Hm H fun b => U b ∨ b = a) m o) (ha : H a = some o) (nU : ¬ U a) (r : Reps K (Hm H fun b => U b ∨ b = a) ds ws) (u : UOk K H U) (hl : ws.length + 1 ≤ N.length) :
    Sim K ⟨H, some a, U, none⟩ (.o m :: iniP (N.length - 1) ds) (L2.start N (.ref a :: ws)) H := by
  have s0 : (L2.start N (.ref a :: ws))[0]? = some (some (.ref a)) := start_at rfl
  have no : ∀ (i : Nat) (m' : MO), (S.o m :: iniP (N.length - 1) ds)[i]? = some (.o m') -> i = 0 ∧ m' = m := fun i m' e => by
    cases i with
    | zero => cases e; exact ⟨rfl, rfl⟩
    | succ i =>
      rw [List.getElem?_cons_succ] at e
      rcases get_map_v e with ⟨d, q, _⟩ | q <;> cases q
  have le : Le (Hm H fun b => U b ∨ b = a) (fz ⟨H, some a, U, none⟩ (.o m :: iniP (N.length - 1) ds) (L2.start N (.ref a :: ws)) H) := Hm_sub fun b hb => hb.elim .inl fun ⟨i, m', h1, h2⟩ => by
    obtain ⟨rfl, _⟩ := no i m' h1
    rw [s0] at h2
    cases h2
    exact .inr rfl
  refine ⟨?_, fun i d e => ?_, fun i m' e => ?_, fun i j m1 m2 b h1 h2 _ _ => ?_, fun b m' q _ => ?_, fun b o e n p _ => e, fun b h => ⟨fun q => ?_, u.at_ b h⟩, fun b q => ?_, u.tab, NSt.none fun j n e => ?_⟩
  · rw [start_len (by simpa using hl)]
    unfold iniP
    rw [List.length_cons, List.length_append, List.length_map, List.length_replicate]
    have := r.length
    omega
  · cases i with
    | zero => cases e
    | succ i =>
      rw [List.getElem?_cons_succ] at e
      rcases get_map_v e with ⟨d', q, e2⟩ | q
      · cases q
        obtain ⟨v, h1, h2⟩ := r.get e2
        exact ⟨v, start_at (by rw [List.getElem?_cons_succ]; exact h1), h2.le le⟩
      · cases q
  · obtain ⟨rfl, rfl⟩ := no i m' e
    exact ⟨a, o, s0, nU, .inl rfl, ha, hm.le le⟩
  · rw [(no i m1 h1).1, (no j m2 h2).1]
  · cases q
    exact s0
  · cases q
    exact nU h
  · cases q
    exact ⟨o, ha, hm.nt⟩
  · cases j with
    | zero => cases e
    | succ j =>
      rw [List.getElem?_cons_succ] at e
      rcases get_map_v e with ⟨d, q, _⟩ | q <;> cases q
end
section
variable {P : Program} {w : World} {K : PySem.W.Frag} {mg : Str → Option Value} {base : Heap} {x qual : Str} {params : Arguments} {body : List Stmt} {scope : Scope} {f : Addr} {fd : FuncData} {N ps : List Str} {k n : Nat} {m : SM}
theorem fnP (F : FunD K x qual params body scope [] [] f fd) (sc : FnScope N ps scope) (hn : ps.length = n)
    (hb : ∀ (cdv : Value) (A : Around) (outer : List Env) (s : Shared) (H : Hp) (E : XK), Room k (A.deeper (PyProof.Rows.envOfC qual scope s.heap.objs.size f cdv)) → ∃ t, PSs (cxOf CX0 P w K mg base N qual scope f cdv A outer s H E).nox body t ∧ SX K W0 t m) :
    FnOk P w K mg base CX0 (k + 1) f fd ps (spP K n (runP N.length m)) := by
  have hpl : ps.length ≤ N.length := by have := congrArg List.length sc.pre; rw [List.length_take] at this; omega
  refine F.ok sc (fun vs H Q E h => ?_) (fun cdv A outer s H vs Q E hr h => ?_)
  · obtain ⟨ds, U, z, h1, h2, h3, _⟩ := h
    rw [← h3.length, h1, hn]
  · obtain ⟨ds, U, z, h1, h2, h3, h4, h5⟩ := h
    obtain ⟨t, ht, hm⟩ := hb cdv A outer s H E hr
    refine ⟨t, ht.nox, ?_⟩
    have hl : vs.length ≤ N.length := by rw [← h3.length, h1, ← hn]; exact hpl
    obtain ⟨s0, l0⟩ := sim_ini (N := N) h3 h2 hl
    refine hm.ok _ _ _ _ _ s0 ?_
    unfold runP at h4
    have fin : ∀ {d : D} {s' : List S} {v : V} {σ' : L2.St} {H' : Hp}, Sim K ⟨H, none, U, none⟩ s' σ' H' → Rep K (fz ⟨H, none, U, none⟩ s' σ' H') d v → Rep K (Hm H' U) d v ∧ LeT K H H' := fun {d s' v σ' H'} i r =>
      ⟨r.le (Hm_sub fun b q => .inl q), ⟨fun b o e n => i.frm b o e n (fun q => by cases q) Ct.xs_none, i.tab⟩⟩
    cases e : m (iniP N.length ds) with
    | rt d s' =>
      rw [e] at h4
      cases h4
      exact fun v σ' H' i1 r1 _ => h5 v H' (fin i1 r1).2 (fin i1 r1).1
    | nx s' =>
      rw [e] at h4
      cases h4
      exact fun σ' H' i1 _ => h5 .non H' (fin i1 .non).2 .non
    | _ => rw [e] at h4; cases h4
theorem fnB (F : FunD K x qual params body scope [] [] f fd) (sc : FnScope N ps scope) (hn : ps.length = n + 1)
    (hb : ∀ (cdv : Value) (A : Around) (outer : List Env) (s : Shared) (H : Hp) (E : XK), Room k (A.deeper (PyProof.Rows.envOfC qual scope s.heap.objs.size f cdv)) → ∃ t, PSs (cxOf CX0 P w K mg base N qual scope f cdv A outer s H E).nox body t ∧ SX K W0 t m) :
    FnOk P w K mg base CX0 (k + 1) f fd ps (spB K n (runB N.length m)) := by
  have hpl : ps.length ≤ N.length := by have := congrArg List.length sc.pre; rw [List.length_take] at this; omega
  refine F.ok sc (fun vs H Q E h => ?_) (fun cdv A outer s H vs Q E hr h => ?_)
  · obtain ⟨a, mo, o, ws, ds, U, z, m', rfl, h1, h2, h3, h4, h5, h6, _⟩ := h
    rw [List.length_cons, ← h6.length, h1, hn]
  · obtain ⟨a, mo, o, ws, ds, U, z, m', rfl, h1, h2, h3, h4, h5, h6, h7, h8⟩ := h
    obtain ⟨t, ht, hm⟩ := hb cdv A outer s H E hr
    refine ⟨t, ht.nox, ?_⟩
    have hl : ws.length + 1 ≤ N.length := by rw [← h6.length, h1, ← hn]; exact hpl
    have s0 := sim_iniB (N := N) h5 h4 h3 h6 h2 hl
    refine hm.ok _ _ _ _ _ s0 ?_
    unfold runB at h7
    have fin : ∀ {d : D} {s' : List S} {v : V} {σ' : L2.St} {H' : Hp} {mz : MO}, gS s' 0 = .o mz → Sim K ⟨H, some a, U, none⟩ s' σ' H' → Rep K (fz ⟨H, some a, U, none⟩ s' σ' H') d v →
        (∀ b ob, b ≠ a → H b = some ob → NT ob → H' b = some ob) ∧ ∃ o', H' a = some o' ∧ HORep K (Hm H' fun b => U b ∨ b = a) mz o' ∧ Rep K (Hm H' fun b => U b ∨ b = a) d v := fun {d s' v σ' H' mz} g i r => by
      have hi := gS_some g (fun q => nomatch q)
      have hp := i.par a mz rfl hi
      obtain ⟨a', o', e1, _, _, e4, e5⟩ := i.own 0 mz hi
      rw [hp] at e1
      cases e1
      have sub : ∀ b, U b ∨ b = a → Hid ⟨H, some a, U, none⟩ s' σ' b := fun b q => q.elim .inl fun w => .inr ⟨0, mz, hi, by rw [w]; exact hp⟩
      exact ⟨fun b ob nb e nt => i.frm b ob e nt (fun q => nb (Option.some.inj q).symm) Ct.xs_none, o', e4, e5.le (Hm_sub sub), r.le (Hm_sub sub)⟩
    cases e : m (S.o mo :: iniP (N.length - 1) ds) with
    | rt d s' =>
      rw [e] at h7
      cases g : gS s' 0 with
      | o mz =>
        simp only [g] at h7
        cases h7
        intro v σ' H' i1 r1 _
        obtain ⟨f1, o', f2, f3, f4⟩ := fin g i1 r1
        exact h8 v H' o' f1 i1.tab f2 f3 f4
      | _ => simp only [g] at h7; cases h7
    | nx s' =>
      rw [e] at h7
      cases g : gS s' 0 with
      | o mz =>
        simp only [g] at h7
        cases h7
        intro σ' H' i1 _
        obtain ⟨f1, o', f2, f3, f4⟩ := fin g i1 .non
        exact h8 .non H' o' f1 i1.tab f2 f3 f4
      | _ => simp only [g] at h7; cases h7
    | _ => rw [e] at h7; cases h7
end
end DL
set_option linter.all false
set_option autoImplicit false
set_option maxRecDepth 100000
/-! DlE: operations by values. -/
namespace DL
open PySem PySem.Spec L2

/-! ### arithmetic -/
def addD : D -> D -> Option D
  | .int i, .int j => some (.int (i + j))
  | .str a, .str b => if a.length + b.length ≤ sizeLine then some (.str (a ++ b)) else none
  | .lst xs, .lst ys => if xs.length + ys.length ≤ sizeLine then some (.lst (xs ++ ys)) else none
  | .tup xs, .tup ys => if xs.length + ys.length ≤ sizeLine then some (.tup (xs ++ ys)) else none
  | _, _ => none
def subD : D -> D -> Option D
  | .int i, .int j => some (.int (i - j))
  | _, _ => none
def mulOk (i j : Int) : Bool := (decide (-(2 ^ 64) < i) && decide (i < 2 ^ 64)) || (decide (-(2 ^ 64) < j) && decide (j < 2 ^ 64))
def mulD : D -> D -> Option D
  | .int i, .int j => if mulOk i j = true then some (.int (i * j)) else none
  | .lst xs, .int k => if decide (-(2 ^ 63) ≤ k) && decide (k < 2 ^ 63) && decide (xs.length * k.toNat ≤ sizeLine) then some (.lst (List.replicate k.toNat xs).flatten) else none
  | _, _ => none
def fdivD : D -> D -> Option D
  | .int i, .int j => if j ≠ 0 ∧ j.natAbs < 1073741824 then some (.int (i.fdiv j)) else none
  | _, _ => none
def modD : D -> D -> Option D
  | .int i, .int j => if j ≠ 0 then some (.int (i.fmod j)) else none
  | _, _ => none
def powD : D -> D -> Option D
  | .int i, .int j => if 0 ≤ j ∧ j ≤ 1000000 ∧ i.natAbs < 2 ^ 64 then some (.int (i ^ j.toNat)) else none
  | _, _ => none
def negD : D -> Option D
  | .int i => some (.int (-i))
  | _ => none
def rAddA (K : PySem.W.Frag) : R2 := fun x y H Q => rI0 (fun i j => .int (i + j)) x y H Q ∨ (∃ i j, x = .str i ∧ y = .str j ∧ i.length + j.length ≤ sizeLine ∧ Q (.str (i ++ j)) H) ∨ rCat x y H Q ∨ rCatA K x y H Q
theorem op_addA {X : Cx} : OpR X (binaryOp .Add) (rAddA X.K) := fun pins s σ H x y v u Q I rx ry h => by
  rcases h with h | h | h | h
  · exact op_add pins s σ H x y v u Q I rx ry h
  · exact op_add_str pins s σ H x y v u Q I rx ry h
  · exact op_cat pins s σ H x y v u Q I rx ry h
  · exact op_catA pins s σ H x y v u Q I rx ry h
theorem rep_at {H : Hp} {U : Addr -> Prop} {p : Addr} {o : HO} (u : HidOk H U) (n : H p = none) : (Hm (upd H p o) U) p = some o := Hm_some.mpr ⟨u p (.inl n), upd_same⟩
theorem le_upd {H : Hp} {U : Addr -> Prop} {p : Addr} {o : HO} (n : H p = none) : Le (Hm H U) (Hm (upd H p o) U) := Hm_same (Le.of_same (same_upd n))
instance (K : PySem.W.Frag) : Op2 K (rAddA K) addD := ⟨fun H U x y a b z Q hu ra rb e h => by
  cases ra with
  | int i =>
    cases rb with
    | int j => cases e; exact .inl ⟨i, j, rfl, rfl, h _ H (Same.refl H) (.int _)⟩
    | _ => cases e
  | str i =>
    cases rb with
    | str j =>
      unfold addD at e
      by_cases q : i.length + j.length ≤ sizeLine
      · simp only [if_pos q, Option.some.injEq] at e; subst e; exact .inr (.inl ⟨i, j, rfl, rfl, q, h _ H (Same.refl H) (.str _)⟩)
      · simp [q] at e
    | _ => cases e
  | @lst p xs ds hp rp =>
    cases rb with
    | @lst q ys es hq rq =>
      unfold addD at e
      by_cases w : ds.length + es.length ≤ sizeLine
      · simp only [if_pos w, Option.some.injEq] at e
        subst e
        refine .inr (.inr (.inl ⟨p, q, xs, ys, rfl, rfl, (Hm_some.mp hp).2, (Hm_some.mp hq).2, by rw [← rp.length, ← rq.length]; exact w, fun r n => ?_⟩))
        exact h _ _ (same_upd n) (.lst (rep_at hu n) ((rp.append rq).le (le_upd n)))
      · simp [w] at e
    | _ => cases e
  | @tup p xs ds hp rp =>
    cases rb with
    | @tup q ys es hq rq =>
      unfold addD at e
      by_cases w : ds.length + es.length ≤ sizeLine
      · simp only [if_pos w, Option.some.injEq] at e
        subst e
        refine .inr (.inr (.inr ⟨p, q, xs, ys, rfl, rfl, SqT.of (Hm_some.mp hp).2, SqT.of (Hm_some.mp hq).2, by rw [← rp.length, ← rq.length]; exact w, fun ex => ?_, fun ex ey => ?_, fun ex ey r n => ?_⟩))
        · subst ex
          cases rp
          exact h _ H (Same.refl H) (.tup hq rq)
        · subst ey
          cases rq
          rw [List.append_nil] at h
          exact h _ H (Same.refl H) (.tup hp rp)
        · exact h _ _ (same_upd n) (.tup (rep_at hu n) ((rp.append rq).le (le_upd n)))
      · simp [w] at e
    | _ => cases e
  | _ => cases b <;> cases e⟩
/-- list + list, the sum owned -/
def addN : D -> D -> Option MO
  | .lst xs, .lst ys => if xs.length + ys.length ≤ sizeLine then some (.lst (xs ++ ys)) else none
  | _, _ => none
instance (K : PySem.W.Frag) : Op2N K (rAddA K) addN := ⟨fun H U x y a b z Q hu ra rb e h => by
  cases ra with
  | @lst p xs ds hp rp =>
    cases rb with
    | @lst q ys es hq rq =>
      unfold addN at e
      by_cases w : ds.length + es.length ≤ sizeLine
      · simp only [if_pos w, Option.some.injEq] at e
        subst e
        exact .inr (.inr (.inl ⟨p, q, xs, ys, rfl, rfl, (Hm_some.mp hp).2, (Hm_some.mp hq).2, by rw [← rp.length, ← rq.length]; exact w, fun r n => h r _ n ⟨_, rfl, rp.append rq⟩⟩))
      · simp [w] at e
    | _ => cases e
  | _ => cases b <;> cases e⟩
instance (K : PySem.W.Frag) : Op2 K (rI0 fun i j => .int (i - j)) subD := ⟨fun H U x y a b z Q hu ra rb e h => by
  cases ra with
  | int i =>
    cases rb with
    | int j => cases e; exact ⟨i, j, rfl, rfl, h _ H (Same.refl H) (.int _)⟩
    | _ => cases e
  | _ => cases b <;> cases e⟩
def rMulA : R2 := fun x y H Q => rI CMul (fun i j => .int (i * j)) x y H Q ∨ rRep x y H Q
theorem op_mulA {X : Cx} : OpR X (binaryOp .Mult) rMulA := fun pins s σ H x y v u Q I rx ry h => by
  rcases h with h | h
  · exact op_mul pins s σ H x y v u Q I rx ry h
  · exact op_rep pins s σ H x y v u Q I rx ry h
theorem Reps.rep {K : PySem.W.Frag} {A : Hp} {ds : List D} {vs : List V} (r : Reps K A ds vs) : ∀ k : Nat, Reps K A (List.replicate k ds).flatten (List.replicate k vs).flatten
  | 0 => .nil
  | k + 1 => by
    rw [List.replicate_succ, List.replicate_succ, List.flatten_cons, List.flatten_cons]
    exact r.append (Reps.rep r k)
instance (K : PySem.W.Frag) : Op2 K rMulA mulD := ⟨fun H U x y a b z Q hu ra rb e h => by
  cases ra with
  | int i =>
    cases rb with
    | int j =>
      unfold mulD at e
      by_cases q : mulOk i j = true
      · simp only [if_pos q, Option.some.injEq] at e
        subst e
        unfold mulOk at q
        simp only [Bool.or_eq_true, Bool.and_eq_true, decide_eq_true_eq] at q
        exact .inl ⟨i, j, rfl, rfl, q, h _ H (Same.refl H) (.int _)⟩
      · simp [q] at e
    | _ => cases e
  | @lst p xs ds hp rp =>
    cases rb with
    | int k =>
      unfold mulD at e
      by_cases q : (decide (-(2 ^ 63) ≤ k) && decide (k < 2 ^ 63) && decide (ds.length * k.toNat ≤ sizeLine)) = true
      · simp only [if_pos q, Option.some.injEq] at e
        subst e
        simp only [Bool.and_eq_true, decide_eq_true_eq] at q
        refine .inr ⟨p, k, xs, rfl, rfl, (Hm_some.mp hp).2, q.1.1, q.1.2, by rw [← rp.length]; exact q.2, fun r n => ?_⟩
        exact h _ _ (same_upd n) (.lst (rep_at hu n) ((rp.rep _).le (le_upd n)))
      · simp only [if_neg q] at e
        try cases e
    | _ => cases e
  | _ => cases b <;> cases e⟩
instance (K : PySem.W.Frag) : Op2 K (rI CDivN fun i j => .int (i.fdiv j)) fdivD := ⟨fun H U x y a b z Q hu ra rb e h => by
  cases ra with
  | int i =>
    cases rb with
    | int j =>
      unfold fdivD at e
      by_cases q : j ≠ 0 ∧ j.natAbs < 1073741824
      · simp only [if_pos q, Option.some.injEq] at e; subst e; exact ⟨i, j, rfl, rfl, q, h _ H (Same.refl H) (.int _)⟩
      · simp [q] at e
    | _ => cases e
  | _ => cases b <;> cases e⟩
instance (K : PySem.W.Frag) : Op2 K (rI (fun _ j => j ≠ 0) fun i j => .int (i.fmod j)) modD := ⟨fun H U x y a b z Q hu ra rb e h => by
  cases ra with
  | int i =>
    cases rb with
    | int j =>
      unfold modD at e
      by_cases q : j ≠ 0
      · simp only [if_pos q, Option.some.injEq] at e; subst e; exact ⟨i, j, rfl, rfl, q, h _ H (Same.refl H) (.int _)⟩
      · simp [q] at e
    | _ => cases e
  | _ => cases b <;> cases e⟩
instance (K : PySem.W.Frag) : Op2 K (rI CPow fun i j => .int (i ^ j.toNat)) powD := ⟨fun H U x y a b z Q hu ra rb e h => by
  cases ra with
  | int i =>
    cases rb with
    | int j =>
      unfold powD at e
      by_cases q : 0 ≤ j ∧ j ≤ 1000000 ∧ i.natAbs < 2 ^ 64
      · simp only [if_pos q, Option.some.injEq] at e; subst e; exact ⟨i, j, rfl, rfl, q, h _ H (Same.refl H) (.int _)⟩
      · simp [q] at e
    | _ => cases e
  | _ => cases b <;> cases e⟩
instance (K : PySem.W.Frag) : Op1 K (rU fun i => .int (-i)) negD := ⟨fun H U x a z Q hu ra e h => by
  cases ra with
  | int i => cases e; exact ⟨i, rfl, h _ H (Same.refl H) (.int _)⟩
  | _ => cases e⟩

/-! ### order -/
def cmpD (p : Int -> Int -> Bool) : D -> D -> Option D
  | .int i, .int j => some (.bl (p i j))
  | _, _ => none
instance (K : PySem.W.Frag) (p : Int -> Int -> Bool) : Op2 K (rI0 fun i j => .bl (p i j)) (cmpD p) := ⟨fun H U x y a b z Q hu ra rb e h => by
  cases ra with
  | int i =>
    cases rb with
    | int j => cases e; exact ⟨i, j, rfl, rfl, h _ H (Same.refl H) (.bl _)⟩
    | _ => cases e
  | _ => cases b <;> cases e⟩

/-! ### == -/
mutual
def toPy : D -> Option PyData
  | .non => some .none
  | .bl b => some (.bool b)
  | .int i => some (.int i)
  | .str x => some (.str x)
  | .tup xs => (toPys xs).map .tuple
  | .lst xs => (toPys xs).map .list
  | _ => none
def toPys : List D -> Option (List PyData)
  | [] => some []
  | d :: r => match toPy d, toPys r with
    | some p, some q => some (p :: q)
    | _, _ => none
end
theorem toPys_cons {d : D} {r : List D} {ps : List PyData} (h : toPys (d :: r) = some ps) : ∃ p q, ps = p :: q ∧ toPy d = some p ∧ toPys r = some q := by
  unfold toPys at h
  cases e1 : toPy d with
  | none => rw [e1] at h; cases h
  | some p =>
    cases e2 : toPys r with
    | none => rw [e1, e2] at h; cases h
    | some q => rw [e1, e2] at h; cases h; exact ⟨p, q, rfl, rfl, rfl⟩
mutual
theorem Rep.dp {K : PySem.W.Frag} {A H : Hp} (l : Le A H) : ∀ {d : D} {v : V} {p : PyData}, Rep K A d v -> toPy d = some p -> Dp K H v p
  | _, _, _, .non, e => by unfold toPy at e; cases e; exact .non
  | _, _, _, .bl b, e => by unfold toPy at e; cases e; exact .bl b
  | _, _, _, .int i, e => by unfold toPy at e; cases e; exact .int i
  | _, _, _, .str x, e => by unfold toPy at e; cases e; exact .str x
  | _, _, _, @Rep.tup _ _ a vs ds s r, e => by
    unfold toPy at e
    cases q : toPys ds with
    | none => rw [q] at e; cases e
    | some ps => rw [q] at e; cases e; exact .tup (SqT.of (l _ _ s nt_tup)) (Reps.dp l r q)
  | _, _, _, @Rep.lst _ _ a vs ds s r, e => by
    unfold toPy at e
    cases q : toPys ds with
    | none => rw [q] at e; cases e
    | some ps => rw [q] at e; cases e; exact .lst (SqL.of (l _ _ s nt_lst)) (Reps.dp l r q)
  | _, _, _, .dK _ _ _, e => by unfold toPy at e; cases e
  | _, _, _, .dT _ _ _, e => by unfold toPy at e; cases e
  | _, _, _, .ins _ _ _, e => by unfold toPy at e; cases e
  | _, _, _, .ext _, e => by unfold toPy at e; cases e
theorem Reps.dp {K : PySem.W.Frag} {A H : Hp} (l : Le A H) : ∀ {ds : List D} {vs : List V} {ps : List PyData}, Reps K A ds vs -> toPys ds = some ps -> DpAll K H vs ps
  | _, _, _, .nil, e => by unfold toPys at e; cases e; exact .nil
  | _, _, _, .cons a b, e => by
    obtain ⟨p, q, rfl, e1, e2⟩ := toPys_cons e
    exact .cons (Rep.dp l a e1) (Reps.dp l b e2)
end
def eqD (a b : D) : Option Bool := match toPy a, toPy b with
  | some p, some q => if (SeqAt.shaped p && SeqAt.shaped q) = true then some (PyData.eqv p q) else none
  | _, _ => none
def eqO (a b : D) : Option D := (eqD a b).map D.bl
def neO (a b : D) : Option D := (eqD a b).map fun k => D.bl (!k)
theorem eqD_some {a b : D} {k : Bool} (h : eqD a b = some k) : ∃ p q, toPy a = some p ∧ toPy b = some q ∧ SeqAt.shaped p = true ∧ SeqAt.shaped q = true ∧ PyData.eqv p q = k := by
  unfold eqD at h
  cases e1 : toPy a with
  | none => rw [e1] at h; cases h
  | some p =>
    cases e2 : toPy b with
    | none => rw [e1, e2] at h; cases h
    | some q =>
      rw [e1, e2] at h
      by_cases w : (SeqAt.shaped p && SeqAt.shaped q) = true
      · simp only [if_pos w, Option.some.injEq] at h
        subst h
        rw [Bool.and_eq_true] at w
        exact ⟨p, q, rfl, rfl, w.1, w.2, rfl⟩
      · simp [w] at h
instance (K : PySem.W.Frag) : Op2 K (rEqD K) eqO := ⟨fun H U x y a b z Q hu ra rb e h => by
  unfold eqO at e
  cases w : eqD a b with
  | none => rw [w] at e; cases e
  | some k =>
    rw [w] at e
    cases e
    obtain ⟨p, q, e1, e2, e3, e4, e5⟩ := eqD_some w
    exact ⟨p, q, ra.dp Hm_le e1, rb.dp Hm_le e2, e3, e4, by rw [e5]; exact h _ H (Same.refl H) (.bl _)⟩⟩
instance (K : PySem.W.Frag) : Op2 K (rNeD K) neO := ⟨fun H U x y a b z Q hu ra rb e h => by
  unfold neO at e
  cases w : eqD a b with
  | none => rw [w] at e; cases e
  | some k =>
    rw [w] at e
    cases e
    obtain ⟨p, q, e1, e2, e3, e4, e5⟩ := eqD_some w
    exact ⟨p, q, ra.dp Hm_le e1, rb.dp Hm_le e2, e3, e4, by rw [e5]; exact h _ H (Same.refl H) (.bl _)⟩⟩

/-! ### is -/
def isND : D -> D -> Option D
  | .non, .non => some (.bl true)
  | _, .non => some (.bl false)
  | .bl a, .bl b => some (.bl (decide (a = b)))
  | _, _ => none
def notND (a b : D) : Option D := match isND a b with
  | some (.bl k) => some (.bl (!k))
  | _ => none
def rIsA : R2 := fun x y H Q => (y = .non ∧ Q (.bl (decide (x = .non))) H) ∨ rIsB x y H Q
def rNotA : R2 := fun x y H Q => (y = .non ∧ Q (.bl (!decide (x = .non))) H) ∨ rNotB x y H Q
theorem op_isA {X : Cx} : OpR X (compareOp .Is) rIsA := fun pins s σ H x y v u Q I rx ry h => by
  rcases h with h | h
  · exact op_isN pins s σ H x y v u Q I rx ry h
  · exact op_isBl pins s σ H x y v u Q I rx ry h
theorem op_notA {X : Cx} : OpR X (compareOp .IsNot) rNotA := fun pins s σ H x y v u Q I rx ry h => by
  rcases h with h | h
  · exact op_notN pins s σ H x y v u Q I rx ry h
  · exact op_notBl pins s σ H x y v u Q I rx ry h
theorem rep_non {K : PySem.W.Frag} {H : Hp} {d : D} {v : V} (r : Rep K H d v) : decide (v = V.non) = (match d with | .non => true | _ => false) := by
  cases r <;> simp
instance (K : PySem.W.Frag) : Op2 K rIsA isND := ⟨fun H U x y a b z Q hu ra rb e h => by
  have hn := rep_non ra
  cases rb with
  | non =>
    refine .inl ⟨rfl, ?_⟩
    rw [hn]
    cases ra <;> (unfold isND at e; cases e; exact h _ H (Same.refl H) (.bl _))
  | bl k =>
    cases ra with
    | bl j => unfold isND at e; cases e; exact .inr ⟨j, k, rfl, rfl, h _ H (Same.refl H) (.bl _)⟩
    | _ => unfold isND at e; cases e
  | _ => cases ra <;> (unfold isND at e; cases e)⟩
instance (K : PySem.W.Frag) : Op2 K rNotA notND := ⟨fun H U x y a b z Q hu ra rb e h => by
  have hn := rep_non ra
  cases rb with
  | non =>
    refine .inl ⟨rfl, ?_⟩
    rw [hn]
    cases ra <;> (unfold notND isND at e; cases e; exact h _ H (Same.refl H) (.bl _))
  | bl k =>
    cases ra with
    | bl j => unfold notND isND at e; cases e; exact .inr ⟨j, k, rfl, rfl, h _ H (Same.refl H) (.bl _)⟩
    | _ => unfold notND isND at e; cases e
  | _ => cases ra <;> (unfold notND isND at e; cases e)⟩

/-! ### in -/
def keyOf : D -> Option Key
  | .int i => some (.inl i)
  | .str x => some (.inr x)
  | _ => none
def keysOf : List D -> Option (List Key)
  | [] => some []
  | d :: r => match keyOf d, keysOf r with
    | some k, some q => some (k :: q)
    | _, _ => none
def tkeyOf : D -> Option (List Key)
  | .tup xs => keysOf xs
  | _ => none
theorem rep_key {K : PySem.W.Frag} {H : Hp} {d : D} {v : V} {k : Key} (r : Rep K H d v) (e : keyOf d = some k) : v = kV k := by
  cases r <;> unfold keyOf at e <;> cases e <;> rfl
theorem reps_keys {K : PySem.W.Frag} {H : Hp} : ∀ {ds : List D} {vs : List V} {ks : List Key}, Reps K H ds vs -> keysOf ds = some ks -> vs = ks.map kV
  | _, _, _, .nil, e => by unfold keysOf at e; cases e; rfl
  | d :: ds, _, _, .cons a b, e => by
    unfold keysOf at e
    cases e1 : keyOf d with
    | none => rw [e1] at e; cases e
    | some k =>
      cases e2 : keysOf ds with
      | none => rw [e1, e2] at e; cases e
      | some q => rw [e1, e2] at e; cases e; rw [List.map_cons, rep_key a e1, reps_keys b e2]
/-- x in y, y a list or a tuple of data, a text of which x is one sign, a dict -/
def seqPy : D -> Option (List PyData)
  | .lst xs => toPys xs
  | .tup xs => toPys xs
  | _ => none
def hasK {κ : Type} [DecidableEq κ] (ks : List κ) (k : κ) : Bool := ks.any fun j => decide (j = k)
def inD (a b : D) : Option Bool := match b with
  | .str z => (match a with
    | .str x => (match x.cps.toList with
      | [c] => some (decide (c ∈ z.cps.toList))
      | _ => none)
    | _ => none)
  | .dK ks _ => (keyOf a).map fun k => hasK ks k
  | .dT ks _ => (tkeyOf a).map fun k => hasK ks k
  | b => match toPy a, seqPy b with
    | some p, some qs => if (SeqAt.shaped p && SeqAt.shaped (.list qs)) = true then some (qs.any fun z => PyData.eqv z p) else none
    | _, _ => none
def inO (a b : D) : Option D := (inD a b).map D.bl
def ninO (a b : D) : Option D := (inD a b).map fun k => D.bl (!k)
end DL
set_option linter.all false
set_option autoImplicit false
set_option maxRecDepth 100000
/-! DlF: in, subscripts, slices, isinstance, built-in calls. -/
namespace DL
open PySem PySem.Spec L2

/-! ### in -/
def rInT (K : PySem.W.Frag) : R2 := fun x y H Q => ∃ d ds, Dp K H x d ∧ Dp K H y (.tuple ds) ∧ SeqAt.shaped d = true ∧ SeqAt.shaped (.tuple ds) = true ∧ Q (.bl (ds.any fun z => PyData.eqv z d)) H
def rNinT (K : PySem.W.Frag) : R2 := fun x y H Q => ∃ d ds, Dp K H x d ∧ Dp K H y (.tuple ds) ∧ SeqAt.shaped d = true ∧ SeqAt.shaped (.tuple ds) = true ∧ Q (.bl (!ds.any fun z => PyData.eqv z d)) H
def rInDi : R2 := fun x y H Q => ∃ a o, y = .ref a ∧ DGet H a x o ∧ Q (.bl o.isSome) H
def rNinDi : R2 := fun x y H Q => ∃ a o, y = .ref a ∧ DGet H a x o ∧ Q (.bl (!o.isSome)) H
def rInS : R2 := fun x y H Q => ∃ (c : Nat) (z : Str), x = .str ⟨#[c]⟩ ∧ y = .str z ∧ Q (.bl (decide (c ∈ z.cps.toList))) H
def rNinS : R2 := fun x y H Q => ∃ (c : Nat) (z : Str), x = .str ⟨#[c]⟩ ∧ y = .str z ∧ Q (.bl (!decide (c ∈ z.cps.toList))) H
def rInA (K : PySem.W.Frag) : R2 := fun x y H Q => rInD K x y H Q ∨ rInT K x y H Q ∨ rInDi x y H Q ∨ rInS x y H Q
def rNinA (K : PySem.W.Frag) : R2 := fun x y H Q => rNotInD K x y H Q ∨ rNinT K x y H Q ∨ rNinDi x y H Q ∨ rNinS x y H Q
theorem op_inA {X : Cx} (hu : X.A.units + 65 < cLine) : OpR X (compareOp .In) (rInA X.K) := fun pins s σ H x y v u Q I rx ry h => by
  rcases h with h | h | h | h
  · exact op_inD hu pins s σ H x y v u Q I rx ry h
  · obtain ⟨d, ds, hd, he, sd, se, q⟩ := h
    obtain ⟨as, r1⟩ := Dp.reads I d x v hd rx
    obtain ⟨bs, r2⟩ := Dp.reads I (.tuple ds) y u he ry
    exact SeqAt.in_tuple_reads r2 r1 (SeqAt.canLay_of_shaped se) (SeqAt.canLay_of_shaped sd) (PyProof.Rows.room_in_shaped sd hu) ⟨.bl _, H, I, rfl, q⟩
  · obtain ⟨a, o, rfl, g, q⟩ := h
    cases ry
    exact d_in (by omega) I g rx fun s' I' => ⟨.bl _, H, I', rfl, q⟩
  · exact op_in_sign pins s σ H x y v u Q I rx ry h
theorem op_ninA {X : Cx} (hu : X.A.units + 65 < cLine) : OpR X (compareOp .NotIn) (rNinA X.K) := fun pins s σ H x y v u Q I rx ry h => by
  rcases h with h | h | h | h
  · exact op_notInD hu pins s σ H x y v u Q I rx ry h
  · obtain ⟨d, ds, hd, he, sd, se, q⟩ := h
    obtain ⟨as, r1⟩ := Dp.reads I d x v hd rx
    obtain ⟨bs, r2⟩ := Dp.reads I (.tuple ds) y u he ry
    exact SeqAt.notIn_tuple_reads r2 r1 (SeqAt.canLay_of_shaped se) (SeqAt.canLay_of_shaped sd) (PyProof.Rows.room_in_shaped sd hu) ⟨.bl _, H, I, rfl, q⟩
  · obtain ⟨a, o, rfl, g, q⟩ := h
    cases ry
    exact d_notIn (by omega) I g rx fun s' I' => ⟨.bl _, H, I', rfl, q⟩
  · exact op_notIn_sign pins s σ H x y v u Q I rx ry h
theorem shaped_tup {ps : List PyData} (h : SeqAt.shaped (.list ps) = true) : SeqAt.shaped (.tuple ps) = true := h
theorem hasK_isSome {κ : Type} [DecidableEq κ] {k : κ} : ∀ {ks : List κ} {vs : List V}, ks.length = vs.length -> (valV (ks.zip vs) k).isSome = hasK ks k := fun {ks vs} h => by
  rw [← valV_any]
  unfold hasK
  induction ks generalizing vs with
  | nil => rfl
  | cons j ks ih =>
    cases vs with
    | nil => simp at h
    | cons v vs =>
      rw [List.zip_cons_cons, List.any_cons, List.any_cons, ih (by simpa using h)]
theorem tkey_rep {K : PySem.W.Frag} {A H : Hp} (l : Le A H) {d : D} {v : V} {k : List Key} (r : Rep K A d v) (e : tkeyOf d = some k) : ∃ b, v = .ref b ∧ H b = some (.tup (k.map kV)) := by
  cases r with
  | @tup a vs ds s r => exact ⟨a, rfl, by rw [← reps_keys r e]; exact l _ _ s nt_tup⟩
  | _ => cases e
theorem in_core {K : PySem.W.Frag} {H : Hp} {U : Addr -> Prop} {x y : V} {a b : D} {k : Bool} (ra : Rep K (Hm H U) a x) (rb : Rep K (Hm H U) b y) (e : inD a b = some k) :
    (∃ d ds, Dp K H x d ∧ Dp K H y (.list ds) ∧ SeqAt.shaped d = true ∧ SeqAt.shaped (.list ds) = true ∧ (ds.any fun z => PyData.eqv z d) = k) ∨
    (∃ d ds, Dp K H x d ∧ Dp K H y (.tuple ds) ∧ SeqAt.shaped d = true ∧ SeqAt.shaped (.tuple ds) = true ∧ (ds.any fun z => PyData.eqv z d) = k) ∨
    (∃ p o, y = .ref p ∧ DGet H p x o ∧ o.isSome = k) ∨ ∃ (c : Nat) (z : Str), x = .str ⟨#[c]⟩ ∧ y = .str z ∧ decide (c ∈ z.cps.toList) = k := by
  have sq : ∀ {b : D}, (match toPy a, seqPy b with
    | some p, some qs => if (SeqAt.shaped p && SeqAt.shaped (.list qs)) = true then some (qs.any fun z => PyData.eqv z p) else none
    | _, _ => none) = some k → ∃ p qs, toPy a = some p ∧ seqPy b = some qs ∧ SeqAt.shaped p = true ∧ SeqAt.shaped (.list qs) = true ∧ (qs.any fun z => PyData.eqv z p) = k := fun {b} e => by
    cases e1 : toPy a with
    | none => rw [e1] at e; cases e
    | some p =>
      cases e2 : seqPy b with
      | none => rw [e1, e2] at e; cases e
      | some qs =>
        rw [e1, e2] at e
        by_cases w : (SeqAt.shaped p && SeqAt.shaped (.list qs)) = true
        · simp only [if_pos w, Option.some.injEq] at e
          rw [Bool.and_eq_true] at w
          exact ⟨p, qs, rfl, rfl, w.1, w.2, e⟩
        · simp only [if_neg w] at e
          cases e
  cases rb with
  | @lst p vs ds s r =>
    obtain ⟨q, qs, e1, e2, e3, e4, e5⟩ := sq (b := .lst ds) e
    exact .inl ⟨q, qs, ra.dp Hm_le e1, .lst (SqL.of (Hm_some.mp s).2) (r.dp Hm_le e2), e3, e4, e5⟩
  | @tup p vs ds s r =>
    obtain ⟨q, qs, e1, e2, e3, e4, e5⟩ := sq (b := .tup ds) e
    exact .inr (.inl ⟨q, qs, ra.dp Hm_le e1, .tup (SqT.of (Hm_some.mp s).2) (r.dp Hm_le e2), e3, shaped_tup e4, e5⟩)
  | @dK p ks vs ds s l r =>
    unfold inD at e
    cases e1 : keyOf a with
    | none => simp only [e1, Option.map] at e; cases e
    | some j =>
      simp only [e1, Option.map, Option.some.injEq] at e
      refine .inr (.inr (.inl ⟨p, _, rfl, ?_, (hasK_isSome l).trans e⟩))
      rw [rep_key ra e1]
      exact DGet.k (Hm_some.mp s).2
  | @dT p ks vs ds s l r =>
    unfold inD at e
    cases e1 : tkeyOf a with
    | none => simp only [e1, Option.map] at e; cases e
    | some j =>
      simp only [e1, Option.map, Option.some.injEq] at e
      obtain ⟨q, rfl, hq⟩ := tkey_rep Hm_le ra e1
      exact .inr (.inr (.inl ⟨p, _, rfl, DGet.t (Hm_some.mp s).2 hq, (hasK_isSome l).trans e⟩))
  | str z =>
    cases ra with
    | str w =>
      obtain ⟨⟨cs⟩⟩ := w
      unfold inD at e
      cases cs with
      | nil => simp at e
      | cons c r =>
        cases r with
        | nil =>
          simp only [Option.some.injEq] at e
          exact .inr (.inr (.inr ⟨c, z, rfl, rfl, e⟩))
        | cons _ _ => simp at e
    | _ => unfold inD at e; cases e
  | _ =>
    unfold inD at e
    cases q : toPy a <;> rw [q] at e <;> cases e
instance (K : PySem.W.Frag) : Op2 K (rInA K) inO := ⟨fun H U x y a b z Q hu ra rb e h => by
  unfold inO at e
  cases w : inD a b with
  | none => rw [w] at e; cases e
  | some k =>
    rw [w] at e
    cases e
    have fin := h _ H (Same.refl H) (.bl k)
    rcases in_core ra rb w with ⟨d, ds, h1, h2, h3, h4, h5⟩ | ⟨d, ds, h1, h2, h3, h4, h5⟩ | ⟨p, o, h1, h2, h3⟩ | ⟨c, z, h1, h2, h3⟩
    · exact .inl ⟨d, ds, h1, h2, h3, h4, by rw [h5]; exact fin⟩
    · exact .inr (.inl ⟨d, ds, h1, h2, h3, h4, by rw [h5]; exact fin⟩)
    · exact .inr (.inr (.inl ⟨p, o, h1, h2, by rw [h3]; exact fin⟩))
    · exact .inr (.inr (.inr ⟨c, z, h1, h2, by rw [h3]; exact fin⟩))⟩
instance (K : PySem.W.Frag) : Op2 K (rNinA K) ninO := ⟨fun H U x y a b z Q hu ra rb e h => by
  unfold ninO at e
  cases w : inD a b with
  | none => rw [w] at e; cases e
  | some k =>
    rw [w] at e
    cases e
    have fin := h _ H (Same.refl H) (.bl (!k))
    rcases in_core ra rb w with ⟨d, ds, h1, h2, h3, h4, h5⟩ | ⟨d, ds, h1, h2, h3, h4, h5⟩ | ⟨p, o, h1, h2, h3⟩ | ⟨c, z, h1, h2, h3⟩
    · exact .inl ⟨d, ds, h1, h2, h3, h4, by rw [h5]; exact fin⟩
    · exact .inr (.inl ⟨d, ds, h1, h2, h3, h4, by rw [h5]; exact fin⟩)
    · exact .inr (.inr (.inl ⟨p, o, h1, h2, by rw [h3]; exact fin⟩))
    · exact .inr (.inr (.inr ⟨c, z, h1, h2, by rw [h3]; exact fin⟩))⟩

/-! ### subscripts -/
def idxD : D -> D -> Option D
  | .lst xs, .int i => atI xs i
  | .tup xs, .int i => atI xs i
  | .str z, .int i => if z.length ≤ sizeLine then (atI z.cps.toList i).map fun c => .str ⟨#[c]⟩ else none
  | _, _ => none
theorem reps_atI {K : PySem.W.Frag} {H : Hp} {ds : List D} {vs : List V} {i : Int} {d : D} (r : Reps K H ds vs) (e : atI ds i = some d) : ∃ v, atI vs i = some v ∧ Rep K H d v := by
  unfold atI at e ⊢
  rw [← r.length]
  cases q : ixN ds.length i with
  | none => rw [q] at e; cases e
  | some j => rw [q] at e; exact r.get e
theorem idx_core {K : PySem.W.Frag} {H A : Hp} {x y : V} {a b d : D} {Q : VK} (l : Le A H) (ra : Rep K A a x) (rb : Rep K A b y) (e : idxD a b = some d) (h : ∀ v, Rep K A d v -> Q v H) : rIx K x y H Q := by
  cases rb with
  | int i =>
    cases ra with
    | @lst p vs ds s r =>
      obtain ⟨v, h1, h2⟩ := reps_atI r e
      exact .inl ⟨p, vs, i, v, rfl, rfl, SqL.of (l _ _ s nt_lst), h1, h v h2⟩
    | @tup p vs ds s r =>
      obtain ⟨v, h1, h2⟩ := reps_atI r e
      exact .inr (.inl ⟨p, vs, i, v, rfl, rfl, SqT.of (l _ _ s nt_tup), h1, h v h2⟩)
    | str z =>
      unfold idxD at e
      by_cases w : z.length ≤ sizeLine
      · simp only [if_pos w] at e
        cases q : atI z.cps.toList i with
        | none => rw [q] at e; cases e
        | some c =>
          rw [q] at e
          cases e
          exact .inr (.inr ⟨z, i, c, rfl, rfl, w, q, h _ (.str _)⟩)
      · simp only [if_neg w] at e; cases e
    | _ => cases e
  | _ => cases ra <;> cases e
instance (K : PySem.W.Frag) : Op2 K (rIx K) idxD := ⟨fun H U x y a b z Q hu ra rb e h => idx_core Hm_le ra rb e fun v r => h v H (Same.refl H) r⟩

/-! ### slices -/
def cutD (xs : List D) (lo hi : Option Int) : List D := (xs.drop (HT.sIx xs.length 0 lo)).take (HT.sIx xs.length xs.length hi - HT.sIx xs.length 0 lo)
theorem Reps.cut {K : PySem.W.Frag} {H : Hp} {ds : List D} {vs : List V} (r : Reps K H ds vs) (lo hi : Option Int) : Reps K H (cutD ds lo hi) (cutV vs lo hi) := by
  unfold cutD cutV
  rw [r.length]
  exact (r.drop _).take _
def slD (d : D) (lo hi : Option Int) : Option D := match d with
  | .lst xs => some (.lst (cutD xs lo hi))
  | .tup xs => some (.tup (cutD xs lo hi))
  | .str z => if z.length ≤ sizeLine then some (.str (Txt.slice z lo hi)) else none
  | .ext ns => some (.lst (cutD (ns.map .int) lo hi))
  | _ => none
def rSlU (K : PySem.W.Frag) : V → Option Int → Option Int → Hp → VK → Prop := fun x lo hi H Q => rSlL K x lo hi H Q ∨ rSlA K x lo hi H Q ∨ C8.rSlX x lo hi H Q
theorem sl_U {X : Cx} : SlR X (rSlU X.K) := sl_list.or (sl_tupA.or C8.sl_txt)
class OX (K : PySem.W.Frag) (W : WX) (t : TO) (m : outParam (List S -> ER (Option Int))) : Prop where
  ok : ∀ (c : Ct) (σ : L2.St) (H : Hp) (sl : List S) (Q : Option Int -> Hp -> Prop), Sim K c sl σ H -> POk K W c σ (fun _ a b => a = b) H sl (m sl) Q -> t σ H Q
def cNoP : List S -> ER (Option Int) := fun sl => .ok none sl
def asI : D -> Option Int
  | .int i => some i
  | _ => none
def cP (m : EM) : List S -> ER (Option Int) := fun sl => (m sl).bind fun d s => match asI d with
  | some i => .ok (some i) s
  | none => .bad
def cSl (m : EM) (ml mh : List S -> ER (Option Int)) : EM := fun sl => (m sl).bind fun d s => (ml s).bind fun l s1 => (mh s1).bind fun h s2 => ofO (slD d l h) s2
section
variable {K : PySem.W.Frag} {W : WX} {te ta : TE} {me ma : EM} {tl th : TO} {ml mh : List S -> ER (Option Int)}
instance : OX K W tNoPart cNoP := ⟨fun c σ H sl Q s h => h _ H s rfl Le.rfl⟩
instance [he : EX K W te me] : OX K W (tPart te) (cP me) := ⟨fun c σ H sl Q s h => by
  refine he.ok c σ H sl _ s (h.split.imp fun x H1 ⟨d, s1, _, i1, r1, l1, h1⟩ => ?_)
  cases r1 with
  | int i => exact ⟨i, rfl, h1 _ H1 i1 rfl Le.rfl⟩
  | _ => exact h1.elim⟩
instance [he : EX K W te me] [hl : OX K W tl ml] [hh : OX K W th mh] : EX K W (tSl (rSlU K) te tl th) (cSl me ml mh) := ⟨fun c σ H sl Q s h => by
  refine he.ok c σ H sl _ s (h.split.imp fun x H1 ⟨d, s1, _, i1, r1, l1, h1⟩ => ?_)
  refine hl.ok c σ H1 s1 _ i1 (h1.split.imp fun lo H2 ⟨lo', s2, _, i2, r2, l2, h2⟩ => ?_)
  cases r2
  refine hh.ok c σ H2 s2 _ i2 (h2.split.imp fun hi H3 ⟨hi', s3, _, i3, r3, l3, h3⟩ => ?_)
  cases r3
  have rd := (r1.le l2).le l3
  have new : ∀ {p : Addr} {o : HO}, H3 p = none → Sim K c s3 σ (upd H3 p o) ∧ Le (fz c s3 σ H3) (fz c s3 σ (upd H3 p o)) := fun n => ⟨i3.same (same_upd n), fz_same (Le.of_same (same_upd n))⟩
  cases rd with
  | @lst a vs ds q r =>
    refine .inl ⟨a, vs, rfl, SqL.of (Hm_some.mp q).2, fun p n => ?_⟩
    obtain ⟨n1, n2⟩ := new n
    exact h3 _ _ n1 (.lst (rep_at i3.hid n) ((r.cut lo hi).le n2)) n2
  | @ext a ns q =>
    refine .inl ⟨a, ns.map V.int, rfl, DL.SqL.le Hm_le q, fun p n => ?_⟩
    obtain ⟨n1, n2⟩ := new n
    exact h3 _ _ n1 (.lst (rep_at i3.hid n) (((Reps.map_int ns).cut lo hi).le n2)) n2
  | @tup a vs ds q r =>
    refine .inr (.inl ⟨a, vs, rfl, SqT.of (Hm_some.mp q).2, fun w => ?_, fun w p n => ?_⟩)
    · have e : cutD ds lo hi = ds := by
        unfold cutD
        rw [r.length, w.1, w.2, List.drop_zero, Nat.sub_zero, ← r.length, List.take_length]
      have h3 : POk K W c σ (Rep K) H3 s3 (.ok (.tup (cutD ds lo hi)) s3) Q := h3
      rw [e] at h3
      exact h3 _ H3 i3 (.tup q r) Le.rfl
    · obtain ⟨n1, n2⟩ := new n
      exact h3 _ _ n1 (.tup (rep_at i3.hid n) ((r.cut lo hi).le n2)) n2
  | str z =>
    by_cases w : z.length ≤ sizeLine
    · simp only [slD, if_pos w] at h3
      exact .inr (.inr ⟨z, rfl, w, h3 _ H3 i3 (.str _) Le.rfl⟩)
    · simp only [slD, if_neg w] at h3; exact h3.elim
  | _ => exact h3.elim⟩
/-- *xs in a display -/
def cStar (m : EM) (mr : AM) : AM := fun sl => (m sl).bind fun d s => (ofO (seqD d) s).bind fun xs s1 => (mr s1).bind fun ys s2 => .ok (xs ++ ys) s2
instance {tr : TA} {mr : AM} [he : EX K W te me] [hr : AX K W tr mr] : AX K W (StX.tStar K te tr) (cStar me mr) := ⟨fun c σ H sl Q s h => by
  refine he.ok c σ H sl _ s (h.split.imp fun x H1 ⟨d, s1, _, i1, r1, l1, h1⟩ => ?_)
  cases r1 with
  | @lst a vs ds q r =>
    have h1 : POk K W c σ (Reps K) H1 s1 ((mr s1).bind fun ys s2 => .ok (ds ++ ys) s2) Q := h1
    refine ⟨a, vs, rfl, .inr (SqL.of (Hm_some.mp q).2), hr.ok c σ H1 s1 _ i1 (h1.split.imp fun ys H2 ⟨es, s2, _, i2, r2, l2, h2⟩ => ?_)⟩
    exact h2 _ H2 i2 ((r.le l2).append r2) Le.rfl
  | @tup a vs ds q r =>
    have h1 : POk K W c σ (Reps K) H1 s1 ((mr s1).bind fun ys s2 => .ok (ds ++ ys) s2) Q := h1
    refine ⟨a, vs, rfl, .inl (SqT.of (Hm_some.mp q).2), hr.ok c σ H1 s1 _ i1 (h1.split.imp fun ys H2 ⟨es, s2, _, i2, r2, l2, h2⟩ => ?_)⟩
    exact h2 _ H2 i2 ((r.le l2).append r2) Le.rfl
  | _ => exact h1.elim⟩
end

/-! ### isinstance -/
def tyB (d : D) (l : List String) : Option Bool := match d with
  | .non => some false
  | .bl _ => some (l.contains "int" || l.contains "bool")
  | .int _ => some (l.contains "int")
  | .str _ => some (l.contains "str")
  | .tup _ => some (l.contains "tuple")
  | .lst _ => some (l.contains "list")
  | .dK _ _ => some false
  | .dT _ _ => some false
  | .ins _ _ _ => none
  | .ext _ => none
  | .exv _ _ _ => none
/-- the types that are asked for -/
def tyN : D -> String
  | .non => "NoneType" | .bl _ => "bool" | .int _ => "int" | .str _ => "str" | .tup _ => "tuple" | .lst _ => "list" | _ => "dict"
class TyName (n : String) : Prop where
  ok : ∀ (d : D) (b : Bool), tyB d [n] = some b -> kitB (tyN d) n = some b
theorem rep_ty {K : PySem.W.Frag} {H : Hp} {d : D} {v : V} {l : List String} {b : Bool} (r : Rep K H d v) (e : tyB d l = some b) : TyX K H v (.type (tyN d)) := by
  cases r with
  | non => exact .base .non
  | bl b => exact .base (.bl b)
  | int i => exact .base (.int i)
  | str x => exact .base (.str x)
  | tup s r => exact .base (.tup s)
  | lst s r => exact .base (.lst s)
  | dK s l r => exact .base (.dK s)
  | dT s l r => exact .base (.dT s)
  | ins s l r => cases e
  | ext s => cases e
  | ex0 e1 => cases e
  | ex1 e1 e2 l r => cases e
theorem tyName {n : String} (h1 : kitB "NoneType" n = some false) (h2 : kitB "bool" n = some (["int", "bool"].contains n)) (h3 : kitB "int" n = some (n == "int")) (h4 : kitB "str" n = some (n == "str")) (h5 : kitB "tuple" n = some (n == "tuple"))
    (h6 : kitB "list" n = some (n == "list")) (h7 : kitB "dict" n = some false) : TyName n := ⟨fun d b e => by
  have one : ∀ s : String, [n].contains s = (n == s) := fun s => by
    rw [List.contains_cons, List.contains_nil, Bool.or_false]
    exact BEq.comm
  have two : ["int", "bool"].contains n = (n == "int" || n == "bool") := by
    rw [List.contains_cons, List.contains_cons, List.contains_nil, Bool.or_false]
  cases d with
  | ins _ _ _ => cases e
  | ext _ => cases e
  | exv _ _ _ => cases e
  | bl k =>
    unfold tyB at e
    simp only [Option.some.injEq, one] at e
    subst e
    rw [← two]
    exact h2
  | non => cases e; exact h1
  | dK _ _ => cases e; exact h7
  | dT _ _ => cases e; exact h7
  | int _ => unfold tyB at e; simp only [Option.some.injEq, one] at e; subst e; exact h3
  | str _ => unfold tyB at e; simp only [Option.some.injEq, one] at e; subst e; exact h4
  | tup _ => unfold tyB at e; simp only [Option.some.injEq, one] at e; subst e; exact h5
  | lst _ => unfold tyB at e; simp only [Option.some.injEq, one] at e; subst e; exact h6⟩
instance : TyName "int" := tyName (by decide +kernel) (by decide +kernel) (by decide +kernel) (by decide +kernel) (by decide +kernel) (by decide +kernel) (by decide +kernel)
instance : TyName "bool" := tyName (by decide +kernel) (by decide +kernel) (by decide +kernel) (by decide +kernel) (by decide +kernel) (by decide +kernel) (by decide +kernel)
instance : TyName "str" := tyName (by decide +kernel) (by decide +kernel) (by decide +kernel) (by decide +kernel) (by decide +kernel) (by decide +kernel) (by decide +kernel)
instance : TyName "tuple" := tyName (by decide +kernel) (by decide +kernel) (by decide +kernel) (by decide +kernel) (by decide +kernel) (by decide +kernel) (by decide +kernel)
instance : TyName "list" := tyName (by decide +kernel) (by decide +kernel) (by decide +kernel) (by decide +kernel) (by decide +kernel) (by decide +kernel) (by decide +kernel)
def cIs1 (n : String) (m : EM) : EM := fun sl => (m sl).bind fun d s => ofO ((tyB d [n]).map D.bl) s
def cIs2 (n1 n2 : String) (m : EM) : EM := fun sl => (m sl).bind fun d s => ofO ((tyB d [n1, n2]).map D.bl) s
theorem tyB2 {d : D} {n1 n2 : String} {b : Bool} (e : tyB d [n1, n2] = some b) : ∃ b1 b2, tyB d [n1] = some b1 ∧ tyB d [n2] = some b2 ∧ b = (b1 || b2) := by
  have two : ∀ s : String, [n1, n2].contains s = ([n1].contains s || [n2].contains s) := fun s => by
    simp only [List.contains_cons, List.contains_nil, Bool.or_false]
  cases d with
  | bl k =>
    unfold tyB at e ⊢
    simp only [Option.some.injEq] at e
    refine ⟨_, _, rfl, rfl, ?_⟩
    rw [← e, two, two]
    cases [n1].contains "int" <;> cases [n2].contains "int" <;> cases [n1].contains "bool" <;> rfl
  | ins _ _ _ => cases e
  | ext _ => cases e
  | exv _ _ _ => cases e
  | _ =>
    unfold tyB at e ⊢
    simp only [Option.some.injEq] at e
    exact ⟨_, _, rfl, rfl, by rw [← e]; first | rfl | exact two _⟩
section
variable {K : PySem.W.Frag} {W : WX} {ta : TE} {ma : EM}
instance {n : String} [ha : EX K W ta ma] [hn : TyName n] : EX K W (tCB (rIsi K) (tCons ta (tCons (tC (.ty n)) tNil))) (cIs1 n ma) := ⟨fun c σ H sl Q s h => by
  refine ha.ok c σ H sl _ s (h.split.imp fun x H1 ⟨d, s1, _, i1, r1, l1, h1⟩ => ?_)
  cases e : tyB d [n] with
  | none => rw [e] at h1; exact h1.elim
  | some b =>
    rw [e] at h1
    exact ⟨x, .ty n, .type (tyN d), .type n, b, rfl, .ty n, rep_ty (r1.le Hm_le) e, kit_ty (hn.ok d b e), h1 _ H1 i1 (.bl b) Le.rfl⟩⟩
instance {n1 n2 : String} [ha : EX K W ta ma] [hn : TyName n1] [hn' : TyName n2] : EX K W (tCB (rIsiT K) (tCons ta (tCons (tTup (tCons (tC (.ty n1)) (tCons (tC (.ty n2)) tNil))) tNil))) (cIs2 n1 n2 ma) := ⟨fun c σ H sl Q s h => by
  refine ha.ok c σ H sl _ s (h.split.imp fun x H1 ⟨d, s1, _, i1, r1, l1, h1⟩ => ?_)
  refine ⟨by show 2 ≤ sizeLine; decide, fun p n => ?_⟩
  cases e : tyB d [n1, n2] with
  | none => rw [e] at h1; exact h1.elim
  | some b =>
    rw [e] at h1
    obtain ⟨b1, b2, e1, e2, e3⟩ := tyB2 e
    have i2 := i1.same (same_upd (o := .tup [.ty n1, .ty n2]) n)
    have l2 : Le (fz c s1 σ H1) (fz c s1 σ (upd H1 p (.tup [.ty n1, .ty n2]))) := fz_same (Le.of_same (same_upd n))
    have rr := (r1.le l2).le Hm_le
    refine ⟨x, p, [.ty n1, .ty n2], .type (tyN d), [.type n1, .type n2], b, rfl, upd_same, .cons (.ty n1) (.cons (.ty n2) .nil), rep_ty rr e, ?_, h1 _ _ i2 (.bl b) l2⟩
    refine kitAny_cons (kit_ty (hn.ok d b1 e1)) (fun hb => ?_) (fun hb => by rw [e3, hb, Bool.true_or])
    refine kitAny_cons (kit_ty (hn'.ok d b2 e2)) (fun hb2 => ?_) (fun hb2 => by rw [e3, hb2, Bool.or_true])
    rw [e3, hb, hb2]
    exact kitAny_nil⟩
end
end DL
set_option linter.all false
set_option autoImplicit false
set_option maxRecDepth 100000
set_option maxHeartbeats 4000000
/-! DlG: sorted. -/
namespace DL
open PySem PySem.Spec L2

/-! ### a plain sort -/
def insS {α : Type} (lt : α -> α -> Bool) (x : α) : List α -> List α
  | [] => [x]
  | y :: r => if lt y x = true then y :: insS lt x r else x :: y :: r
def srtS {α : Type} (lt : α -> α -> Bool) : List α -> List α
  | [] => []
  | x :: r => insS lt x (srtS lt r)
/-- a total order -/
structure Tot {α : Type} (lt : α -> α -> Bool) : Prop where
  asym : ∀ a b, lt a b = true -> lt b a = false
  tot : ∀ a b, lt a b = false -> lt b a = false -> a = b
  tr : ∀ a b c, lt a b = true -> lt b c = true -> lt a c = true
section
variable {α : Type} {lt : α -> α -> Bool}
theorem insS_perm (x : α) : ∀ l : List α, (insS lt x l).Perm (x :: l)
  | [] => List.Perm.refl _
  | y :: r => by
    unfold insS
    by_cases h : lt y x = true
    · rw [if_pos h]
      exact ((insS_perm x r).cons y).trans (List.Perm.swap x y r)
    · rw [if_neg h]
theorem srtS_perm : ∀ l : List α, (srtS lt l).Perm l
  | [] => List.Perm.refl _
  | x :: r => (insS_perm x (srtS lt r)).trans ((srtS_perm r).cons x)
abbrev SortedS (lt : α -> α -> Bool) (l : List α) : Prop := l.Pairwise fun a b => lt b a = false
theorem Tot.le_tr (T : Tot lt) {a b c : α} (h1 : lt b a = false) (h2 : lt c b = false) : lt c a = false := by
  cases q : lt c a with
  | false => rfl
  | true =>
    cases p : lt b c with
    | true => have := T.tr b c a p q; rw [h1] at this; cases this
    | false => have e := T.tot c b h2 p; subst e; rw [h1] at q; cases q
theorem insS_sorted (T : Tot lt) (x : α) : ∀ {l : List α}, SortedS lt l -> SortedS lt (insS lt x l)
  | [], _ => List.pairwise_singleton _ _
  | y :: r, h => by
    unfold insS
    obtain ⟨h1, h2⟩ := List.pairwise_cons.mp h
    by_cases q : lt y x = true
    · rw [if_pos q]
      refine List.pairwise_cons.mpr ⟨fun z hz => ?_, insS_sorted T x h2⟩
      rcases List.mem_cons.mp ((insS_perm x r).mem_iff.mp hz) with e | hz
      · rw [e]; exact T.asym _ _ q
      · exact h1 z hz
    · rw [if_neg q]
      have q : lt y x = false := by simpa using q
      refine List.pairwise_cons.mpr ⟨fun z hz => ?_, h⟩
      rcases List.mem_cons.mp hz with e | hz
      · rw [e]; exact q
      · exact T.le_tr q (h1 z hz)
theorem srtS_sorted (T : Tot lt) : ∀ l : List α, SortedS lt (srtS lt l)
  | [] => List.Pairwise.nil
  | x :: r => insS_sorted T x (srtS_sorted T r)
theorem sorted_one (T : Tot lt) : ∀ {l m : List α}, SortedS lt l -> SortedS lt m -> l.Perm m -> l = m
  | [], m, _, _, h => (List.Perm.eq_nil h.symm).symm
  | x :: l, [], _, _, h => absurd h.length_eq (by simp)
  | x :: l, y :: m, hl, hm, h => by
    obtain ⟨a1, a2⟩ := List.pairwise_cons.mp hl
    obtain ⟨b1, b2⟩ := List.pairwise_cons.mp hm
    have irr : ∀ a, lt a a = false := fun a => by
      cases q : lt a a with
      | false => rfl
      | true => have := T.asym a a q; rw [q] at this; exact this
    have h1 : lt x y = false := by
      rcases List.mem_cons.mp (h.mem_iff.mp (List.mem_cons_self (a := x) (l := l))) with e | hx
      · rw [e]; exact irr y
      · exact b1 x hx
    have h2 : lt y x = false := by
      rcases List.mem_cons.mp (h.mem_iff.mpr (List.mem_cons_self (a := y) (l := m))) with e | hy
      · rw [e]; exact irr x
      · exact a1 y hy
    have e := T.tot x y h1 h2
    subst e
    rw [sorted_one T a2 b2 h.cons_inv]
end
def ltI (a b : Int) : Bool := decide (a < b)
theorem tot_I : Tot ltI := ⟨fun a b h => by simp only [ltI, decide_eq_true_eq, decide_eq_false_iff_not] at h ⊢; omega, fun a b h1 h2 => by simp only [ltI, decide_eq_false_iff_not] at h1 h2; omega,
  fun a b c h1 h2 => by simp only [ltI, decide_eq_true_eq] at h1 h2 ⊢; omega⟩
theorem lex_asym : ∀ a b : List Int, HT.lexLt a b = true -> HT.lexLt b a = false
  | [], [], h => by cases h
  | [], _ :: _, _ => rfl
  | _ :: _, [], h => by cases h
  | x :: xs, y :: ys, h => by
    rw [HT.lexLt_cons] at h ⊢
    by_cases e : x = y
    · rw [if_pos e] at h; rw [if_pos e.symm]; exact lex_asym xs ys h
    · rw [if_neg e] at h; rw [if_neg (Ne.symm e)]; simp only [decide_eq_true_eq, decide_eq_false_iff_not] at h ⊢; omega
theorem lex_tot : ∀ a b : List Int, HT.lexLt a b = false -> HT.lexLt b a = false -> a = b
  | [], [], _, _ => rfl
  | [], _ :: _, h, _ => by cases h
  | _ :: _, [], _, h => by cases h
  | x :: xs, y :: ys, h1, h2 => by
    rw [HT.lexLt_cons] at h1 h2
    by_cases e : x = y
    · rw [if_pos e] at h1; rw [if_pos e.symm] at h2; rw [e, lex_tot xs ys h1 h2]
    · rw [if_neg e] at h1; rw [if_neg (Ne.symm e)] at h2; simp only [decide_eq_false_iff_not] at h1 h2; omega
theorem lex_tr : ∀ a b c : List Int, HT.lexLt a b = true -> HT.lexLt b c = true -> HT.lexLt a c = true
  | [], _, [], _, h => by cases ‹List Int› <;> cases h
  | [], _, _ :: _, _, _ => rfl
  | _ :: _, [], _, h, _ => by cases h
  | _ :: _, _ :: _, [], _, h => by cases h
  | x :: xs, y :: ys, z :: zs, h1, h2 => by
    rw [HT.lexLt_cons] at h1 h2 ⊢
    by_cases e : x = y
    · rw [if_pos e] at h1
      by_cases e2 : y = z
      · rw [if_pos e2] at h2; rw [if_pos (e.trans e2)]; exact lex_tr xs ys zs h1 h2
      · rw [if_neg e2] at h2; rw [if_neg (by omega)]; simp only [decide_eq_true_eq] at h2 ⊢; omega
    · rw [if_neg e] at h1
      by_cases e2 : y = z
      · rw [if_neg (by omega)]; simp only [decide_eq_true_eq] at h1 ⊢; omega
      · rw [if_neg e2] at h2
        simp only [decide_eq_true_eq] at h1 h2
        rw [if_neg (by omega)]; simp only [decide_eq_true_eq]; omega
theorem tot_L : Tot HT.lexLt := ⟨lex_asym, lex_tot, lex_tr⟩
end DL

/-! ### the library's sort over tuples of ints -/
namespace DlSort
open PySem PyProof.Rows Srt SrtO
section
variable {prog : Program} {w : World} {A : Around} {E : Value → Shared → Prop} {s : Shared}
def IsIT (h : Heap) (v : Value) (ns : List Int) : Prop := ∃ a o its n, v = .ref a ∧ h.get? a = some o ∧ o.cls = .type "tuple" ∧ o.data = .seq its n ∧ IntsAre its.toList ns
theorem IsIT.keeps {h h' : Heap} {v : Value} {ns : List Int} (q : IsIT h v ns) (k : ∀ b o, h.get? b = some o → o.cls = .type "tuple" → h'.get? b = some o) : IsIT h' v ns := by
  obtain ⟨a, o, its, n, e, ho, hc, hd, hi⟩ := q
  exact ⟨a, o, its, n, e, k a o ho hc, hc, hd, hi⟩
theorem lex_ints {Q : Bool → Shared → Prop} : ∀ {us ws : List Value} {ns ms : List Int} {i : Nat} {fin : Bool}, IntsAre us ns → IntsAre ws ms → fin = decide (ns.length < ms.length) → Q (HT.lexLt ns ms) s →
    PySem.W.KatLex prog w A true fin Q (us.zip ws) i s
  | _, _, [], [], i, fin, .nil, .nil, ef, h => by
    rw [List.zip_nil_left]
    refine PySem.W.kat_nil ?_
    rw [ef]
    exact h
  | _, _, [], b :: ms, i, fin, .nil, .cons _ u hw, ef, h => by
    rw [List.zip_nil_left]
    refine PySem.W.kat_nil ?_
    have e : fin = true := by rw [ef]; simp
    rw [e]
    exact h
  | _, _, a :: ns, [], i, fin, .cons _ t hu, .nil, ef, h => by
    rw [List.zip_nil_right]
    refine PySem.W.kat_nil ?_
    have e : fin = false := by rw [ef]; simp
    rw [e]
    exact h
  | _, _, a :: ns, b :: ms, i, fin, .cons _ t hu, .cons _ u hw, ef, h => by
    rw [List.zip_cons_cons]
    refine PySem.W.kat_cons (SeqAt.EqAt.int_int a t b u prog w _ _ ?_)
    rw [HT.lexLt_cons] at h
    refine PySem.W.kat_go (fun e1 => ?_) (fun e1 => ?_)
    · have ex : a = b := by simpa using e1
      rw [if_pos ex] at h
      exact PySem.W.kat_yes (lex_ints hu hw (by rw [ef]; simp) h)
    · have ex : ¬ a = b := by simpa using e1
      rw [if_neg ex] at h
      refine PySem.W.kat_no ?_
      cases (i == 0) with
      | true => exact oneLt_int h
      | false => exact PySem.W.kat_one _ _ (PyProof.Rows.lt_int h)
theorem tup_cmp {vs : List Value} {k : Value → List Int} (hp : ∀ v ∈ vs, IsIT s.heap v (k v)) : Cmp prog w A s (tuples' true) (fun p => p.1 ∈ vs) (lt2 fun v u => HT.lexLt (k v) (k u)) := by
  intro p q hm hm'
  have h1 := hp _ hm
  have h2 := hp _ hm'
  show wpAny (model prog w) A (keyLt' (tuples' true) p.1 q.1) (fun r s' => s' = s ∧ r = HT.lexLt (k p.1) (k q.1)) (fun _ _ => False) s
  generalize k p.1 = x at h1 ⊢
  generalize k q.1 = y at h2 ⊢
  obtain ⟨a, o, its, n, e, ho, hc, hd, hi⟩ := h1
  obtain ⟨a', o', its', n', e', ho', hc', hd', hi'⟩ := h2
  rw [e, e']
  refine PySem.W.kat_lt ho hd ho' hd' (lex_ints hi hi' ?_ ⟨rfl, rfl⟩)
  rw [← hi.length, ← hi'.length, Array.length_toList, Array.length_toList]
theorem firsts_of {h : Heap} {k : Value → List Int} : ∀ {vs : List Value}, (∀ v ∈ vs, IsIT h v (k v) ∧ k v ≠ []) → ∃ fs, PySem.W.KatTups h vs fs ∧ fs.length = vs.length ∧ ∀ f ∈ fs, ∃ x t, f = Value.int x t
  | [], _ => ⟨[], PySem.W.KatTups.nil, rfl, fun f hf => by cases hf⟩
  | v :: vs, hp => by
    obtain ⟨fs, h1, h2, h3⟩ := firsts_of (vs := vs) fun u hu => hp u (List.mem_cons_of_mem _ hu)
    obtain ⟨⟨a, o, its, n, e, ho, hc, hd, hi⟩, hne⟩ := hp v List.mem_cons_self
    generalize k v = ks at hi hne
    subst e
    have q : ∃ x t, its[0]? = some (Value.int x t) := by
      obtain ⟨l⟩ := its
      cases hi with
      | nil => exact absurd rfl hne
      | cons x t r => exact ⟨x, t, rfl⟩
    obtain ⟨x, t, q⟩ := q
    refine ⟨.int x t :: fs, PySem.W.KatTups.cons ho hc hd q h1, by rw [List.length_cons, List.length_cons, h2], fun f hf => ?_⟩
    rcases List.mem_cons.mp hf with z | z
    · exact ⟨x, t, z⟩
    · exact h3 f z
theorem tups_sortable {a : Addr} {vs : List Value} {k : Value → List Int} (h0 : 0 < vs.length) (hp : ∀ v ∈ vs, IsIT s.heap v (k v) ∧ k v ≠ []) (ha : ∀ o, s.heap.get? a = some o → o.cls ≠ .type "tuple") : SortableO prog w A s a vs fun v u => HT.lexLt (k v) (k u) := by
  intro h' keep
  have hp' : ∀ v ∈ vs, IsIT h' v (k v) ∧ k v ≠ [] := fun v hm => ⟨(hp v hm).1.keeps fun b o e c => keep b o (fun z => by subst z; exact ha o e c) e, (hp v hm).2⟩
  obtain ⟨fs, h1, h2, h3⟩ := firsts_of hp'
  refine ⟨tuples' true, fun Q E hq => ?_, tup_cmp fun v hv => (hp' v hv).1⟩
  refine PySem.W.kat_kind (T := .type "int") h1 (by omega) (fun f hm => ?_) (by rfl) ?_
  · obtain ⟨x, t, rfl⟩ := h3 f hm
    exact PySem.W.Looks.now
  · have e : (Value.type "int" != Value.type "tuple") = true := by first | decide +kernel | rfl | decide
    rw [e]
    exact hq
theorem swo_tup (k : Value → List Int) : Swo fun v u => HT.lexLt (k v) (k u) := ⟨fun x y h => DL.lex_asym _ _ h, fun x y z h1 h2 => DL.tot_L.le_tr h1 h2⟩
/-- sorted(l) of tuples of ints, none empty, of any number -/
theorem sorted_tups {l : Addr} {vs : List Value} {k : Value → List Int} {Q : Value → Shared → Prop} (hl : s.heap.IsList l vs.toArray) (hz : vs.length ≤ sizeLine) (hp : ∀ v ∈ vs, IsIT s.heap v (k v) ∧ k v ≠ [])
    (h : ∀ (h' : Heap) (d : Addr) (out : List Value), Srtd (fun v u => HT.lexLt (k v) (k u)) out → out.Perm vs → (∀ b o, s.heap.get? b = some o → h'.get? b = some o) → s.heap.objs.size ≤ d → (∃ n, h'.get? d = some (seqObj "list" out.toArray n)) → Q (.ref d) { s with heap := h' }) :
    wpAny (model prog w) A (call (.builtin "sorted") [.ref l]) Q E s := by
  refine sorted_ord (swo_tup k) hl hz (fun h2 h₁ a ha kk => ?_) fun out hs hb => ?_
  · refine tups_sortable (s := { s with heap := h₁ }) (by omega) (fun v hm => ⟨(hp v hm).1.keeps fun b o e _ => (kk b o e).2, (hp v hm).2⟩) fun o e => ?_
    have e' : some o = some (seqObj "list" vs.toArray 0) := e.symm.trans ha
    cases e'
    intro c
    exact absurd (Value.type.inj c) (by decide)
  · exact h _ _ out hs hb.perm (fun b o e => sortedAll_old e) (Nat.le_succ _) (sortedAll_at s.heap vs out.toArray)
end
end DlSort

namespace DL
open PySem PySem.Spec L2
/-- the ints of a tuple that lies at x -/
def intsV : List V -> List Int
  | [] => []
  | .int i :: r => i :: intsV r
  | _ :: r => intsV r
def kH (H : Hp) : V -> List Int
  | .ref t => (match H t with
    | some (.tup vs) => intsV vs
    | _ => [])
  | _ => []
theorem intsV_map : ∀ ns : List Int, intsV (ns.map V.int) = ns
  | [] => rfl
  | n :: r => congrArg (n :: ·) (intsV_map r)
theorem kH_at {H : Hp} {t : Addr} {ns : List Int} (h : H t = some (.tup (ns.map V.int))) : kH H (.ref t) = ns := by
  simp only [kH, h]
  exact intsV_map ns
def rSortedTI (K : PySem.W.Frag) : List V → Hp → VK → Prop := fun vs H Q => ∃ (a : Addr) (xs : List V), vs = [V.ref a] ∧ SqL K H a xs ∧ (∀ x ∈ xs, ∃ (t : Addr) (ns : List Int), x = V.ref t ∧ ns ≠ [] ∧ H t = some (.tup (ns.map V.int))) ∧
  ∀ ys p, SortedS (fun x y => HT.lexLt (kH H x) (kH H y)) ys → ys.Perm xs → H p = none → Q (.ref p) (upd H p (.lst ys))
theorem cr_sortedTI {X : Cx} : CallR X (.builtin "sorted") (rSortedTI X.K) := by
  intro pins s σ H vs us Q I r h
  obtain ⟨a, xs, rfl, hs, hx, q⟩ := h
  obtain ⟨its, rv, hl, hz⟩ := I.list hs
  obtain ⟨u, rfl, ru⟩ := vals1 r
  obtain rfl : u = Value.ref a := ru
  obtain ⟨e1, e2⟩ := refs_back rv fun x m => by
    obtain ⟨t, _, e, _⟩ := hx x m
    exact ⟨t, e⟩
  refine DlSort.sorted_tups (k := fun u => kH H (backV u)) hl.isList (by rw [← rv.length]; exact hz) (fun v hv => ?_) fun h' d out h1 h2 kp hd hn => ?_
  · obtain ⟨t, rfl⟩ := e2 v hv
    have hm : V.ref t ∈ xs := by rw [e1]; exact List.mem_map.mpr ⟨_, hv, rfl⟩
    obtain ⟨t', ns, e, hne, ht⟩ := hx _ hm
    cases e
    have hk : kH H (V.ref t) = ns := kH_at ht
    obtain ⟨_, its2, r2, o, ho, hc, n, hd⟩ := I.hok _ _ ht
    refine ⟨⟨t, o, its2.toArray, n, rfl, ho, hc, hd, ?_⟩, ?_⟩
    · show PyProof.Rows.IntsAre _ (kH H (V.ref t))
      rw [hk]
      exact intsAre_of r2
    · show kH H (V.ref t) ≠ []
      rw [hk]
      exact hne
  · have h3 : ∀ u ∈ out, ∃ a, u = Value.ref a := fun u hu => e2 u (h2.mem_iff.mp hu)
    obtain ⟨n, hn⟩ := hn
    have hb : (out.map backV).Perm xs := by
      rw [e1]
      exact h2.map backV
    refine ⟨.ref d, upd H d (.lst (out.map backV)), I.laid (t' := s.toks) kp hd ⟨?_, out, n, vals_back h3, hn⟩, rfl, q _ d (List.pairwise_map.mpr h1) hb (I.hok.fresh hd)⟩
    rw [hb.length_eq]
    exact hz
def intsD : List D -> Option (List Int)
  | [] => some []
  | .int i :: r => (intsD r).map (i :: ·)
  | _ => none
def tupI : D -> Option (List Int)
  | .tup xs => intsD xs
  | _ => none
def tupsI : List D -> Option (List (List Int))
  | [] => some []
  | d :: r => match tupI d, tupsI r with
    | some (i :: k), some q => some ((i :: k) :: q)
    | _, _ => none
def tD (ns : List Int) : D := .tup (ns.map .int)
def sortD : List D -> Option MO
  | [.lst xs] => (match intsD xs with
    | some ns => some (.lst ((srtS ltI ns).map .int))
    | none => (match tupsI xs with
      | some ks => some (.lst ((srtS HT.lexLt ks).map tD))
      | none => none))
  | _ => none
theorem intsD_eq : ∀ {xs : List D} {ns : List Int}, intsD xs = some ns -> xs = ns.map D.int
  | [], ns, h => by cases h; rfl
  | d :: r, ns, h => by
    cases d with
    | int i =>
      unfold intsD at h
      cases e : intsD r with
      | none => rw [e] at h; cases h
      | some q => rw [e] at h; cases h; rw [List.map_cons, ← intsD_eq e]
    | _ => cases h
theorem intsD_map : ∀ ns : List Int, intsD (ns.map D.int) = some ns
  | [] => rfl
  | n :: r => by
    show (intsD (r.map D.int)).map (n :: ·) = some (n :: r)
    rw [intsD_map r] <;> rfl
theorem tupsI_eq : ∀ {xs : List D} {ks : List (List Int)}, tupsI xs = some ks -> xs = ks.map tD ∧ ∀ k ∈ ks, k ≠ []
  | [], ks, h => by cases h; exact ⟨rfl, fun k hk => by cases hk⟩
  | d :: r, ks, h => by
    unfold tupsI at h
    cases e : tupI d with
    | none => rw [e] at h; cases h
    | some k =>
      cases e2 : tupsI r with
      | none => rw [e, e2] at h; cases k <;> cases h
      | some q =>
        rw [e, e2] at h
        cases k with
        | nil => cases h
        | cons i k =>
          cases h
          obtain ⟨h1, h2⟩ := tupsI_eq e2
          have hd : d = tD (i :: k) := by
            cases d with
            | tup xs => unfold tD; rw [← intsD_eq (show intsD xs = some (i :: k) from e)]
            | _ => cases e
          refine ⟨by rw [List.map_cons, ← h1, ← hd], fun j hj => ?_⟩
          rcases List.mem_cons.mp hj with z | z
          · rw [z]; exact List.cons_ne_nil _ _
          · exact h2 j z
theorem reps_ints {K : PySem.W.Frag} {H : Hp} : ∀ {ns : List Int} {vs : List V}, Reps K H (ns.map D.int) vs -> vs = ns.map V.int
  | [], _, h => by cases h; rfl
  | n :: r, _, h => by
    cases h with
    | cons a b => cases a; rw [List.map_cons, reps_ints b]
theorem reps_tups {K : PySem.W.Frag} {A H : Hp} (l : Le A H) : ∀ {ks : List (List Int)} {vs : List V}, Reps K A (ks.map tD) vs -> ks = vs.map (kH H) ∧ ∀ v ∈ vs, ∃ (t : Addr) (ns : List Int), v = V.ref t ∧ H t = some (.tup (ns.map V.int)) ∧ A t = some (.tup (ns.map V.int))
  | [], _, h => by cases h; exact ⟨rfl, fun v hv => by cases hv⟩
  | k :: r, _, h => by
    cases h with
    | @cons _ _ v vs a b =>
      obtain ⟨h1, h2⟩ := reps_tups l b
      cases a with
      | @tup p ws _ s q =>
        have e := reps_ints q
        subst e
        have s' := l _ _ s nt_tup
        refine ⟨by rw [List.map_cons, kH_at s', ← h1], fun u hu => ?_⟩
        rcases List.mem_cons.mp hu with z | z
        · exact ⟨p, k, z, s', s⟩
        · exact h2 u z
theorem reps_back {K : PySem.W.Frag} {A H : Hp} (l : Le A H) : ∀ {vs : List V}, (∀ v ∈ vs, ∃ (t : Addr) (ns : List Int), v = V.ref t ∧ H t = some (.tup (ns.map V.int)) ∧ A t = some (.tup (ns.map V.int))) -> Reps K A ((vs.map (kH H)).map tD) vs
  | [], _ => .nil
  | v :: r, h => by
    obtain ⟨t, ns, rfl, h1, h2⟩ := h v List.mem_cons_self
    rw [List.map_cons, List.map_cons, kH_at h1]
    exact .cons (.tup h2 (Reps.map_int ns)) (reps_back l fun u hu => h u (List.mem_cons_of_mem _ hu))
def rSortA (K : PySem.W.Frag) : List V → Hp → VK → Prop := fun vs H Q => rSortedI K vs H Q ∨ rSortedTI K vs H Q
theorem cr_sortA {X : Cx} : CallR X (.builtin "sorted") (rSortA X.K) := fun pins s σ H xs us Q I r h => h.elim (cr_sortedI pins s σ H xs us Q I r) (cr_sortedTI pins s σ H xs us Q I r)
instance sort_nx (K : PySem.W.Frag) : OpLN K (rSortA K) sortD := ⟨fun H U vs as z Q hu r e h => by
  cases r with
  | nil => cases e
  | cons ra rr =>
    cases rr with
    | cons _ _ => cases ra <;> cases e
    | nil =>
      cases ra with
      | @lst a ws xs s q =>
        unfold sortD at e
        have s' := (Hm_some.mp s).2
        cases e1 : intsD xs with
        | some ns =>
          simp only [e1, Option.some.injEq] at e
          subst e
          have ex := intsD_eq e1
          subst ex
          have ew := reps_ints q
          subst ew
          refine .inl ⟨a, ns, rfl, SqL.of s', fun ns' p p1 p2 n => ?_⟩
          have e2 : ns' = srtS ltI ns := sorted_one tot_I (p2.imp fun {x y} hxy => by simp only [ltI, decide_eq_false_iff_not]; omega) (srtS_sorted tot_I ns) (p1.trans (srtS_perm ns).symm)
          rw [e2]
          exact h p _ n ⟨_, rfl, Reps.map_int _⟩
        | none =>
          simp only [e1] at e
          cases e2 : tupsI xs with
          | none => simp only [e2] at e; cases e
          | some ks =>
            simp only [e2, Option.some.injEq] at e
            subst e
            obtain ⟨ex, hne⟩ := tupsI_eq e2
            subst ex
            obtain ⟨h1, h2⟩ := reps_tups Hm_le q
            refine .inr ⟨a, ws, rfl, SqL.of s', fun x hx => ?_, fun ys p p1 p2 n => ?_⟩
            · obtain ⟨t, ns, e3, e4, _⟩ := h2 x hx
              refine ⟨t, ns, e3, fun z => ?_, e4⟩
              have hk : kH H x ∈ ks := by rw [h1]; exact List.mem_map.mpr ⟨x, hx, rfl⟩
              rw [e3, kH_at e4] at hk
              exact hne ns hk z
            · have e3 : ys.map (kH H) = srtS HT.lexLt ks := sorted_one tot_L (List.pairwise_map.mpr p1) (srtS_sorted tot_L ks) (by rw [h1]; exact (p2.map _).trans (srtS_perm _).symm)
              refine h p _ n ⟨ys, rfl, ?_⟩
              rw [← e3]
              exact reps_back Hm_le fun v hv => h2 v (p2.mem_iff.mp hv)
      | _ => cases e⟩
instance sort_ex {K : PySem.W.Frag} {W : WX} {tr : TA} {mr : AM} [ha : AX K W tr mr] : EX K W (tCB (rSortA K) tr) (cFz (cCBN sortD mr)) := (cb_nx).ex
end DL
set_option linter.all false
set_option autoImplicit false
set_option maxRecDepth 100000
/-! DlH: comprehensions. -/
namespace DL
open PySem PySem.Spec L2

/-! ### slots forgotten -/
def wipeS (sl : List S) : List Nat -> List S
  | [] => sl
  | v :: vs => sS (wipeS sl vs) v .no
section
variable {K : PySem.W.Frag} {c : Ct} {σ : L2.St} {H : Hp} {sl : List S}
theorem Sim.no1 (i : Nat) (s : Sim K c sl σ H) : Sim K c (sS sl i .no) (σ.set i none) H ∧ Le (fz c sl σ H) (fz c (sS sl i .no) (σ.set i none) H) := by
  rw [sS_set]
  have key : ∀ (j : Nat) (x : S), (sl.set i .no)[j]? = some x -> x ≠ .no -> j ≠ i ∧ sl[j]? = some x := fun j x e n => by
    by_cases q : j = i
    · subst q
      have hl : j < sl.length := by
        have := (List.getElem?_eq_some_iff.mp e).1
        rw [List.length_set] at this
        exact this
      rw [List.getElem?_set_self hl] at e
      exact absurd (Option.some.inj e).symm n
    · rw [List.getElem?_set_ne (Ne.symm q)] at e
      exact ⟨q, e⟩
  have oσ : ∀ (j : Nat), j ≠ i -> (σ.set i none)[j]? = σ[j]? := fun j q => List.getElem?_set_ne (Ne.symm q)
  have sub : ∀ b, Hid c (sl.set i .no) (σ.set i none) b -> Hid c sl σ b := fun b hb => hb.elim .inl fun ⟨j, m', h1, h2⟩ => by
    obtain ⟨q, h1⟩ := key j _ h1 (fun q => nomatch q)
    rw [oσ j q] at h2
    exact .inr ⟨j, m', h1, h2⟩
  have le : Le (fz c sl σ H) (fz c (sl.set i .no) (σ.set i none) H) := Hm_sub sub
  refine ⟨⟨by rw [List.length_set, List.length_set]; exact s.len, fun j d' e => ?_, fun j m' e => ?_, fun j k m1 m2 b h1 h2 h3 h4 => ?_, fun b m' p e => ?_, s.frm, s.uh, s.pex, s.tab, s.ne.mv rfl (fun _ q => q) (fun _ _ _ _ e _ => e) le fun j n e => (fun ⟨q, e⟩ => ⟨e, fun w hw => by rw [oσ j q]; exact hw⟩) (set_q e fun _ h => nomatch h)⟩, le⟩
  · obtain ⟨q, e⟩ := key j _ e (fun q => nomatch q)
    obtain ⟨w, h1, h2⟩ := s.val j d' e
    exact ⟨w, by rw [oσ j q]; exact h1, h2.le le⟩
  · obtain ⟨q, e⟩ := key j _ e (fun q => nomatch q)
    obtain ⟨b, o', h1, h2, h3, h4, h5⟩ := s.own j m' e
    exact ⟨b, o', by rw [oσ j q]; exact h1, h2, h3, h4, h5.le le⟩
  · obtain ⟨q1, h1⟩ := key j _ h1 (fun q => nomatch q)
    obtain ⟨q2, h2⟩ := key k _ h2 (fun q => nomatch q)
    rw [oσ j q1] at h3
    rw [oσ k q2] at h4
    exact s.dis j k m1 m2 b h1 h2 h3 h4
  · obtain ⟨q, e⟩ := key 0 _ e (fun q => nomatch q)
    rw [oσ 0 q]
    exact s.par b m' p e
theorem Sim.wipe (s : Sim K c sl σ H) : ∀ vs : List Nat, Sim K c (wipeS sl vs) (L2.wipe σ vs) H ∧ Le (fz c sl σ H) (fz c (wipeS sl vs) (L2.wipe σ vs) H)
  | [] => ⟨s, Le.rfl⟩
  | v :: vs => by
    obtain ⟨s1, l1⟩ := Sim.wipe s vs
    obtain ⟨s2, l2⟩ := s1.no1 v
    exact ⟨s2, l1.trans l2⟩
/-- back to slots that knew more -/
theorem Sim.back {vs : List Nat} (s : Sim K c sl (L2.wipe σ vs) H) : Sim K c sl σ H ∧ fz c sl σ H = fz c sl (L2.wipe σ vs) H := by
  have up : ∀ {i : Nat} {x : V}, (L2.wipe σ vs)[i]? = some (some x) -> σ[i]? = some (some x) := fun e => (wipe_some e).1
  have ow : ∀ a, Hid c sl σ a ↔ Hid c sl (L2.wipe σ vs) a := fun a => by
    constructor
    · rintro (h | ⟨i, m, h1, h2⟩)
      · exact .inl h
      · obtain ⟨a', o, e, _⟩ := s.own i m h1
        rw [up e] at h2
        cases h2
        exact .inr ⟨i, m, h1, e⟩
    · rintro (h | ⟨i, m, h1, h2⟩)
      · exact .inl h
      · exact .inr ⟨i, m, h1, up h2⟩
  have ef : fz c sl σ H = fz c sl (L2.wipe σ vs) H := by
    unfold fz
    rw [show Hid c sl σ = Hid c sl (L2.wipe σ vs) from funext fun a => propext (ow a)]
  refine ⟨⟨by rw [s.len, wipe_length], fun j d' e => ?_, fun j m' e => ?_, fun j k m1 m2 b h1 h2 h3 h4 => ?_, fun b m' p e => up (s.par b m' p e), s.frm, s.uh, s.pex, s.tab, s.ne.mv rfl (fun _ q => q) (fun _ _ _ _ e _ => e) (by rw [ef]; exact Le.rfl) fun j n e => ⟨e, fun w hw => up hw⟩⟩, ef⟩
  · obtain ⟨w, h1, h2⟩ := s.val j d' e
    exact ⟨w, up h1, by rw [ef]; exact h2⟩
  · obtain ⟨b, o', h1, h2, h3, h4, h5⟩ := s.own j m' e
    exact ⟨b, o', up h1, h2, h3, h4, by rw [ef]; exact h5⟩
  · obtain ⟨b1, _, e1, _⟩ := s.own j m1 h1
    obtain ⟨b2, _, e2, _⟩ := s.own k m2 h2
    have z1 := up e1
    rw [h3] at z1
    cases z1
    have z2 := up e2
    rw [h4] at z2
    cases z2
    exact s.dis j k m1 m2 b h1 h2 e1 e2

/-! ### an object that is being made -/
def Ct.hide (c : Ct) (D : Addr) (o : HO) : Ct := ⟨upd c.H0 D o, c.P, fun b => c.U b ∨ b = D, c.X⟩
structure New (c : Ct) (D : Addr) : Prop where
  h0 : ∀ u, c.H0 D = some u -> ¬ NT u
  p : c.P ≠ some D
  u : ¬ c.U D
  x : ¬ c.Xs D
  uh : ∀ b, c.U b -> c.P ≠ some b ∧ ∃ o, c.H0 b = some o ∧ NU o
theorem Sim.new {D : Addr} (s : Sim K c sl σ H) (n : H D = none) : New c D := by
  have p : c.P ≠ some D := fun q => by
    obtain ⟨o, e, _⟩ := s.pex D q
    rw [n] at e
    cases e
  have x : ¬ c.Xs D := fun x => (by obtain ⟨_, o, h, _⟩ := s.ne.xk D x; rw [n] at h; cases h)
  exact ⟨fun u e nt => (by have z := s.frm D u e nt p x; rw [n] at z; cases z), p, fun q => s.fresh n (.inl q), x, s.uh⟩
def del (H : Hp) (D : Addr) : Hp := fun b => if b = D then none else H b
theorem del_self {H : Hp} {D : Addr} : del H D D = none := if_pos rfl
theorem del_ne {H : Hp} {D b : Addr} (h : b ≠ D) : del H D b = H b := if_neg h
theorem del_upd {H : Hp} {D : Addr} {o : HO} (h : H D = some o) : upd (del H D) D o = H := funext fun b => by
  by_cases q : b = D
  · rw [q, upd_same, h]
  · rw [upd_ne q, del_ne q]
theorem Sim.hide {D : Addr} {o : HO} (s : Sim K c sl σ H) (n : H D = none) (nt : NU o) : Sim K (c.hide D o) sl σ (upd H D o) ∧ Le (fz c sl σ H) (fz (c.hide D o) sl σ (upd H D o)) := by
  have w := s.new n
  have sm : Same H (upd H D o) := same_upd n
  have le : Le (fz c sl σ H) (fz (c.hide D o) sl σ (upd H D o)) := fun b u e nt => by
    obtain ⟨h1, h2⟩ := Hm_some.mp e
    have nb : b ≠ D := ne_of_none h2 n
    exact Hm_some.mpr ⟨fun q => h1 (q.elim (fun q => q.elim .inl fun q => absurd q nb) .inr), sm b u h2⟩
  refine ⟨⟨s.len, fun j d' e => ?_, fun j m' e => ?_, s.dis, s.par, fun b u e nt q x => ?_, fun b q => ?_, fun a q => ?_, s.tab.ext sm, s.ne.mv rfl (fun _ q => .inl q) (fun b o _ _ e _ => sm b o e) le fun j n e => ⟨e, fun _ q => q⟩⟩, le⟩
  · obtain ⟨w, h1, h2⟩ := s.val j d' e
    exact ⟨w, h1, h2.le le⟩
  · obtain ⟨b, o', h1, h2, h3, h4, h5⟩ := s.own j m' e
    have nb : b ≠ D := ne_of_none h4 n
    refine ⟨b, o', h1, fun q => q.elim h2 nb, h3.imp id fun h3 u e => h3 u ?_, sm b o' h4, h5.le le⟩
    have e : upd c.H0 D o b = some u := e
    rw [upd_ne nb] at e
    exact e
  · have e : upd c.H0 D o b = some u := e
    by_cases z : b = D
    · rw [z, upd_same] at e ⊢
      exact e
    · rw [upd_ne z] at e ⊢
      exact s.frm b u e nt q x
  · show c.P ≠ some b ∧ ∃ u, upd c.H0 D o b = some u ∧ NU u
    by_cases z : b = D
    · rw [z, upd_same]
      exact ⟨w.p, o, rfl, nt⟩
    · rw [upd_ne z]
      exact s.uh b (q.elim id fun q => absurd q z)
  · obtain ⟨u, e, nt⟩ := s.pex a q
    exact ⟨u, sm a u e, nt⟩
theorem Sim.hid_at {D : Addr} {o : HO} (s : Sim K (c.hide D o) sl σ H) (w : New c D) (nt : NT o) : H D = some o := s.frm D o upd_same nt w.p w.x
/-- the object comes out -/
theorem tabs_del {T : List (Addr × Str)} {H : Hp} {a : Addr} {o : HO} (t : LamX.Tabs T H) (h : H a = some o) (nt : NT o) (nc : NC o) : LamX.Tabs T (del H a) := fun p hp => by
  obtain ⟨ps, h1, h2, h3⟩ := t p hp
  have n1 : p.1 ≠ a := fun q => by
    rw [q, h] at h1
    exact nt ps (Option.some.inj h1)
  refine ⟨ps, by rw [del_ne n1]; exact h1, h2, fun pos cv hc => ?_⟩
  obtain ⟨c, e1, e2⟩ := h3 pos cv hc
  have n2 : c ≠ a := fun q => by
    rw [q, h] at e2
    exact nc _ _ (Option.some.inj e2)
  exact ⟨c, e1, by rw [del_ne n2]; exact e2⟩
theorem Sim.unhide {D : Addr} {o : HO} (s : Sim K (c.hide D o) sl σ H) (w : New c D) (nt : NT o) (nc : NC o) : Sim K c sl σ (del H D) ∧ fz c sl σ (del H D) = fz (c.hide D o) sl σ H := by
  have ef : fz c sl σ (del H D) = fz (c.hide D o) sl σ H := funext fun b => by
    unfold fz Hm
    by_cases z : b = D
    · rw [z, if_pos (show Hid (c.hide D o) sl σ D from .inl (.inr rfl)), del_self]
      split <;> rfl
    · by_cases q : Hid c sl σ b
      · rw [if_pos q, if_pos (show Hid (c.hide D o) sl σ b from q.elim (fun q => .inl (.inl q)) .inr)]
      · rw [if_neg q, if_neg (show ¬ Hid (c.hide D o) sl σ b from fun y => q (y.elim (fun y => y.elim .inl fun y => absurd y z) .inr)), del_ne z]
  refine ⟨⟨s.len, fun j d' e => ?_, fun j m' e => ?_, s.dis, s.par, fun b u e nt' q x => ?_, w.uh, fun a q => ?_, tabs_del s.tab (s.hid_at w nt) nt nc, ?_⟩, ef⟩
  · obtain ⟨w, h1, h2⟩ := s.val j d' e
    exact ⟨w, h1, by rw [ef]; exact h2⟩
  · obtain ⟨b, o', h1, h2, h3, h4, h5⟩ := s.own j m' e
    have nb : b ≠ D := fun q => h2 (.inr q)
    refine ⟨b, o', h1, fun q => h2 (.inl q), h3.imp id fun h3 u e => h3 u ?_, by rw [del_ne nb]; exact h4, by rw [ef]; exact h5⟩
    show upd c.H0 D o b = some u
    rw [upd_ne nb]
    exact e
  · by_cases z : b = D
    · rw [z] at e
      exact absurd nt' (w.h0 u e)
    · rw [del_ne z]
      refine s.frm b u ?_ nt' q x
      show upd c.H0 D o b = some u
      rw [upd_ne z]
      exact e
  · obtain ⟨u, e, nt⟩ := s.pex a q
    have z : a ≠ D := fun y => w.p (by rw [← y]; exact q)
    exact ⟨u, by rw [del_ne z]; exact e, nt⟩
  · refine ⟨fun b x => ?_, s.ne.qx, fun j r as n e1 e2 => ?_⟩
    · obtain ⟨u, o2, h, nu2, nc2⟩ := s.ne.xk b x
      have z : b ≠ D := fun y => w.x (by rw [← y]; exact x)
      exact ⟨u.elim id fun y => absurd y z, o2, by rw [del_ne z]; exact h, nu2, nc2⟩
    · obtain ⟨h1, h2, h3⟩ := s.ne.nst j r as n e1 e2
      refine ⟨h1, h2, h3.mv (by rw [ef]; exact Le.rfl) fun b o2 hb hH _ => ?_⟩
      have z : b ≠ D := fun y => w.x (by rw [← y]; exact ⟨j, r, as, e1, hb⟩)
      rw [del_ne z]
      exact hH
/-- .. is another one -/
theorem Sim.rehide {D : Addr} {o o' : HO} (s : Sim K (c.hide D o) sl σ H) (w : New c D) (nt : NT o) (nt' : NU o') (nc : NC o) (nc' : NC o') : Sim K (c.hide D o') sl σ (upd H D o') ∧ fz (c.hide D o') sl σ (upd H D o') = fz (c.hide D o) sl σ H := by
  obtain ⟨s1, e1⟩ := s.unhide w nt nc
  obtain ⟨s2, _⟩ := s1.hide (o := o') del_self nt'
  have eu : upd (del H D) D o' = upd H D o' := funext fun b => by
    by_cases q : b = D
    · rw [q, upd_same, upd_same]
    · rw [upd_ne q, upd_ne q, del_ne q]
  rw [eu] at s2
  obtain ⟨_, e3⟩ := s2.unhide w nt'.1 nc'
  refine ⟨s2, ?_⟩
  rw [← e3, ← e1]
  congr 1
  funext b
  by_cases q : b = D
  · rw [q, del_self, del_self]
  · rw [del_ne q, del_ne q, upd_ne q]
end
theorem POk.nox {K : PySem.W.Frag} {W : WX} {c : Ct} {σ : L2.St} {H : Hp} {sl : List S} {α β : Type} {R : Hp -> α -> β -> Prop} {r : ER α} {Q : β -> Hp -> Prop} (hn : ∀ x s, r ≠ .exn x s) (h : POk K W c σ R H sl r Q) : POk K W0 c σ R H sl r Q := by
  cases r with
  | ok a s => exact h
  | exn x s => exact absurd rfl (hn x s)
  | bad => exact h

/-! ### a block's target -/
class GW (g : TG) (vs : List Nat) : Prop where
  ok : ∀ (v : V) (σ : L2.St) (w : L2.St) (H : Hp) (Q Q' : L2.St -> Hp -> Prop), L2.wipe σ vs = w -> (∀ σ2 H2, L2.wipe σ2 vs = w -> Q σ2 H2 -> Q' σ2 H2) -> g v σ H Q -> g v σ H Q'
class GsW (g : TGs) (vs : List Nat) : Prop where
  ok : ∀ (v : List V) (σ : L2.St) (w : L2.St) (H : Hp) (Q Q' : L2.St -> Hp -> Prop), L2.wipe σ vs = w -> (∀ σ2 H2, L2.wipe σ2 vs = w -> Q σ2 H2 -> Q' σ2 H2) -> g v σ H Q -> g v σ H Q'
theorem wipe_set {σ : L2.St} {i : Nat} {x : Option V} : ∀ {vs : List Nat}, i ∈ vs -> L2.wipe (σ.set i x) vs = L2.wipe σ vs
  | v :: vs, h => by
    unfold L2.wipe
    rcases List.mem_cons.mp h with e | h
    · subst e
      have z : ∀ (ws : List Nat), (L2.wipe (σ.set i x) ws).set i none = (L2.wipe σ ws).set i none := fun ws => by
        induction ws with
        | nil => unfold L2.wipe; rw [List.set_set]
        | cons w ws ih =>
          unfold L2.wipe
          by_cases q : w = i
          · rw [q, List.set_set, List.set_set, ih]
          · rw [List.set_comm _ _ q, List.set_comm _ _ q, ih]
      exact z vs
    · rw [wipe_set h]
theorem wipe_none {σ : L2.St} {i : Nat} : ∀ {vs : List Nat}, i ∈ vs -> (L2.wipe σ vs).set i none = L2.wipe σ vs
  | v :: vs, h => by
    unfold L2.wipe
    rcases List.mem_cons.mp h with e | h
    · subst e
      rw [List.set_set]
    · by_cases q : v = i
      · rw [q, List.set_set]
      · rw [List.set_comm _ _ q, wipe_none h]
theorem wipe_wipe (σ : L2.St) (vs : List Nat) : L2.wipe (L2.wipe σ vs) vs = L2.wipe σ vs := by
  have z : ∀ ws : List Nat, (∀ v ∈ ws, v ∈ vs) -> L2.wipe (L2.wipe σ vs) ws = L2.wipe σ vs := fun ws => by
    induction ws with
    | nil => intro _; rfl
    | cons v ws ih =>
      intro hm
      show (L2.wipe (L2.wipe σ vs) ws).set v none = L2.wipe σ vs
      rw [ih fun v hv => hm v (List.mem_cons_of_mem _ hv)]
      exact wipe_none (hm v List.mem_cons_self)
  exact z vs fun v hv => hv
class InN (i : Nat) (vs : List Nat) : Prop where
  ok : i ∈ vs
instance inn_here (i : Nat) (vs : List Nat) : InN i (i :: vs) := ⟨List.mem_cons_self⟩
instance inn_there (i j : Nat) (vs : List Nat) [h : InN i vs] : InN i (j :: vs) := ⟨List.mem_cons_of_mem _ h.ok⟩
instance (i : Nat) (vs : List Nat) [hi : InN i vs] : GW (gName i) vs := ⟨fun v σ w H Q Q' e k h => k _ _ ((wipe_set hi.ok).trans e) h⟩
instance (vs : List Nat) : GsW gNil vs := ⟨fun v σ w H Q Q' e k h => ⟨h.1, k _ _ e h.2⟩⟩
instance {g : TG} {gs : TGs} {vs : List Nat} [h1 : GW g vs] [h2 : GsW gs vs] : GsW (gCons g gs) vs := ⟨fun v σ w H Q Q' e k h => by
  obtain ⟨x, xs, q, h⟩ := h
  exact ⟨x, xs, q, h1.ok x σ w H _ _ e (fun σ2 H2 e2 z => h2.ok xs σ2 w H2 Q Q' e2 k z) h⟩⟩
instance {K : PySem.W.Frag} {n : Nat} {gs : TGs} {vs : List Nat} [h2 : GsW gs vs] : GW (gTup K n gs) vs := ⟨fun v σ w H Q Q' e k h => by
  obtain ⟨a, xs, q1, q2, q3, h⟩ := h
  exact ⟨a, xs, q1, q2, q3, h2.ok xs σ w H Q Q' e k h⟩⟩

/-! ### list comprehensions -/
def noxR {α : Type} (r : ER α) : ER α := match r with
  | .exn _ _ => .bad
  | r => r
theorem POk.noxR {K : PySem.W.Frag} {W W' : WX} {c : Ct} {σ : L2.St} {H : Hp} {sl : List S} {α β : Type} {R : Hp -> α -> β -> Prop} {r : ER α} {Q : β -> Hp -> Prop} (h : POk K W c σ R H sl (noxR r) Q) : POk K W' c σ R H sl r Q := by
  cases r with
  | ok a s => exact h
  | exn x s => exact h.elim
  | bad => exact h
theorem noxR_ne {α : Type} (r : ER α) (x : Ex) (s : List S) : noxR r ≠ .exn x s := fun h => by cases r <;> cases h
def lcR (vs : List Nat) (g : D -> List S -> Option (List S)) (t : BM) (e : EM) : List D -> List D -> List S -> ER MO
  | [], acc, sl => .ok (.lst acc) sl
  | d :: r, acc, sl => match g d sl with
    | none => .bad
    | some s => (noxR (t s)).bind fun k s1 => if k = true then (noxR (e s1)).bind fun y s2 => (if acc.length < sizeLine then lcR vs g t e r (acc ++ [y]) (wipeS s2 vs) else .bad) else lcR vs g t e r acc (wipeS s1 vs)
def cLc (vs : List Nat) (mi : AM) (g : D -> List S -> Option (List S)) (t : BM) (e : EM) : NM := fun sl => (mi sl).bind fun ds s => lcR vs g t e ds [] (wipeS s vs)
section
variable {K : PySem.W.Frag} {W : WX} {wi : TI} {mi : AM} {g : TG} {mg : D -> List S -> Option (List S)} {tt : TT} {mt : BM} {te : TE} {me : EM} {vs : List Nat}
instance lc_nx [hi : IX K W wi mi] [hg : GX K g mg] [hw : GW g vs] [ht : TX K W0 tt mt] [he : EX K W0 te me] : NX K W (tLc wi g tt te vs) (cLc vs mi mg mt me) := ⟨fun c σ H sl Q s h => by
  refine hi.ok c σ H sl _ s (h.split.imp fun J H1 ⟨ds, s1, _, i1, r1, l1, h1⟩ L hD => ?_)
  have w := i1.new hD
  refine ⟨fun i m H' => m = ds.length - i ∧ i ≤ ds.length ∧ ∃ (si : List S) (acc : List D) (va : List V), Sim K (c.hide L (.lst va)) si (L2.wipe σ vs) H' ∧ Reps K (fz (c.hide L (.lst va)) si (L2.wipe σ vs) H') acc va ∧ Le (fz c s1 σ H1) (fz (c.hide L (.lst va)) si (L2.wipe σ vs) H') ∧
    NOk K W c σ H1 s1 (lcR vs mg mt me (ds.drop i) acc si) Q, ⟨ds.length, by simp, Nat.zero_le _, ?_⟩, ?_⟩
  · obtain ⟨s2, l2⟩ := i1.wipe vs
    obtain ⟨s3, l3⟩ := s2.hide (o := .lst []) hD nu_lst
    exact ⟨_, [], [], s3, .nil, l2.trans l3, h1⟩
  rintro i m H2 ⟨rfl, hle, si, acc, va, i2, ra, l2, h2⟩
  obtain ⟨st, go⟩ := r1 i H2 _ l2 i2.hid
  by_cases hlt : i < ds.length
  · have hd : ds[i]? = some ds[i] := by simp [hlt]
    obtain ⟨g1, g2⟩ := go _ hd
    refine .inr ⟨g1, fun H' => ∃ (si : List S) (acc : List D) (va : List V), Sim K (c.hide L (.lst va)) si (L2.wipe σ vs) H' ∧ Reps K (fz (c.hide L (.lst va)) si (L2.wipe σ vs) H') acc va ∧ Le (fz c s1 σ H1) (fz (c.hide L (.lst va)) si (L2.wipe σ vs) H') ∧
      NOk K W c σ H1 s1 (lcR vs mg mt me (ds.drop (i + 1)) acc si) Q, fun H' z => ⟨ds.length - (i + 1), by omega, rfl, hlt, z⟩, fun x H3 y => ?_⟩
    obtain ⟨sm, rx⟩ := g2 x H3 y
    have i3 := i2.same sm
    have l3 : Le (fz (c.hide L (.lst va)) si (L2.wipe σ vs) H2) (fz (c.hide L (.lst va)) si (L2.wipe σ vs) H3) := fz_same (Le.of_same sm)
    rw [List.drop_eq_getElem_cons hlt] at h2
    unfold lcR at h2
    cases e : mg ds[i] si with
    | none => rw [e] at h2; exact h2.elim
    | some s4 =>
      simp only [e] at h2
      refine hw.ok x _ (L2.wipe σ vs) H3 (fun σ2 H2 => H2 = H3 ∧ Sim K (c.hide L (.lst va)) s4 σ2 H3 ∧ Le (fz (c.hide L (.lst va)) si (L2.wipe σ vs) H3) (fz (c.hide L (.lst va)) s4 σ2 H3)) _ ?_ (fun σ4 H4 ew h4 => ⟨ew, ?_⟩) (hg.ok _ _ _ _ _ _ _ _ i3 rx e fun σ' i4 l4 => ⟨rfl, i4, l4⟩)
      · have z : ∀ ws : List Nat, (∀ v ∈ ws, v ∈ vs) -> L2.wipe (L2.wipe σ vs) ws = L2.wipe σ vs := fun ws => by
          induction ws with
          | nil => intro _; rfl
          | cons v ws ih =>
            intro hm
            show (L2.wipe (L2.wipe σ vs) ws).set v none = L2.wipe σ vs
            rw [ih fun v hv => hm v (List.mem_cons_of_mem _ hv)]
            exact wipe_none (hm v List.mem_cons_self)
        exact z vs fun v hv => hv
      obtain ⟨rfl, i4, l4⟩ := h4
      have lz := (l2.trans l3).trans l4
      -- what the end of a turn asks
      have fin : ∀ {s5 : List S} {σ5 : L2.St} {H5 : Hp} {acc' : List D} {va' : List V}, L2.wipe σ5 vs = L2.wipe σ vs -> Sim K (c.hide L (.lst va')) s5 σ5 H5 -> Reps K (fz (c.hide L (.lst va')) s5 σ5 H5) acc' va' ->
          Le (fz c s1 σ H1) (fz (c.hide L (.lst va')) s5 σ5 H5) -> NOk K W c σ H1 s1 (lcR vs mg mt me (ds.drop (i + 1)) acc' (wipeS s5 vs)) Q ->
          ∃ (si : List S) (acc : List D) (va : List V), Sim K (c.hide L (.lst va)) si (L2.wipe σ vs) H5 ∧ Reps K (fz (c.hide L (.lst va)) si (L2.wipe σ vs) H5) acc va ∧ Le (fz c s1 σ H1) (fz (c.hide L (.lst va)) si (L2.wipe σ vs) H5) ∧
            NOk K W c σ H1 s1 (lcR vs mg mt me (ds.drop (i + 1)) acc si) Q := fun {s5 σ5 H5 acc' va'} e5 i5 r5 l5 h5 => by
        obtain ⟨i6, l6⟩ := i5.wipe vs
        rw [e5] at i6 l6
        exact ⟨_, acc', va', i6, r5.le l6, l5.trans l6, h5⟩
      cases et : noxR (mt s4) with
      | bad => rw [et] at h2; exact h2.elim
      | exn x s => exact absurd et (noxR_ne _ _ _)
      | ok k s5 =>
        rw [et] at h2
        refine ht.ok _ _ _ _ _ i4 (POk.noxR (W := W0) ?_)
        rw [et]
        intro k' H5 i5 ek l5
        cases (show k = k' from ek)
        simp only [ER.bind] at h2
        cases k with
        | false =>
          rw [if_neg Bool.false_ne_true] at h2 ⊢
          exact fin ew i5 (ra.le ((l3.trans l4).trans l5)) (lz.trans l5) h2
        | true =>
          rw [if_pos rfl] at h2 ⊢
          cases ee : noxR (me s5) with
          | bad => rw [ee] at h2; exact h2.elim
          | exn x s => exact absurd ee (noxR_ne _ _ _)
          | ok y s6 =>
            rw [ee] at h2
            refine he.ok _ _ _ _ _ i5 (POk.noxR (W := W0) ?_)
            rw [ee]
            intro yv H6 i6 ry l6
            simp only at h2
            by_cases hz : acc.length < sizeLine
            · rw [if_pos hz] at h2
              have ra6 := ra.le (((l3.trans l4).trans l5).trans l6)
              refine ⟨va, i6.hid_at w nt_lst, by rw [← ra.length]; exact hz, ?_⟩
              obtain ⟨i7, e7⟩ := i6.rehide (o' := .lst (va ++ [yv])) w nt_lst nu_lst nc_lst nc_lst
              exact fin ew i7 (by rw [e7]; exact ra6.append (.cons ry .nil)) (by rw [e7]; exact (lz.trans l5).trans l6) h2
            · rw [if_neg hz] at h2
              exact h2.elim
  · have e : i = ds.length := by omega
    subst e
    refine .inl ⟨st (Nat.le_refl _), ?_⟩
    rw [List.drop_length] at h2
    obtain ⟨i3, e3⟩ := i2.unhide w nt_lst nc_lst
    obtain ⟨i4, e4⟩ := i3.back
    have z := h2 L (.lst va) _ i4 del_self ⟨va, rfl, by rw [e4, e3]; exact ra⟩ (by rw [e4, e3]; exact l2)
    rw [del_upd (i2.hid_at w nt_lst)] at z
    exact z⟩
instance lc_ex [hi : IX K W wi mi] [hg : GX K g mg] [hw : GW g vs] [ht : TX K W0 tt mt] [he : EX K W0 te me] : EX K W (tLc wi g tt te vs) (cFz (cLc vs mi mg mt me)) := (lc_nx).ex
end
end DL
set_option linter.all false
set_option autoImplicit false
set_option maxRecDepth 100000
/-! DlI: dict comprehensions, keys ints, texts or tuples of them. -/
namespace DL
open PySem PySem.Spec L2

/-- a dict that is made by a comprehension takes one more pair -/
theorem dput_ok {X : Cx} {pins : List (Addr × Obj)} {σ : L2.St} {H H' : Hp} {s : Shared} {E : Value → Shared → Prop} {d : Addr} {y z : V} {u r : Value} {Q : Unit → Shared → Prop} {A : Around} (hu : A.units + 1 < cLine)
    (I : Inv X pins σ H s) (p : DPut H d y z H') (ry : RelV y u) (rz : RelV z r) (h : ∀ s', Inv X pins σ H' s' → Q () s') : wpAny (model X.prog X.w) A (dictSet d u r) Q E s := by
  rcases p with ⟨ks, k, e1, rfl, e3, rfl⟩ | ⟨ks, k, b, e1, rfl, e2, e3, rfl⟩
  · obtain ⟨n1, n2, us, rel, dd⟩ := dk_of I.hok e1
    have n3 := length_putK ks k z
    refine wpAny_dictSet_pairs (hsz := by rw [← rel.length]; exact n1) (kV_is ry) dd fun h2 d2 sb => h _ ?_
    obtain ⟨o2, es, ep, g, more⟩ := d2
    exact d_write I (by rw [e1]; trivial) sb ⟨o2, g⟩ (dk_new (by omega) n2 (rel.put k rz) ⟨o2, es, ep, g, more⟩)
  · obtain rfl : u = Value.ref b := ry
    obtain ⟨n1, n2, us, rel, dd⟩ := dt_of I.hok e1
    have n3 := length_putK ks k z
    refine wpAny_dictSet_heap (hsz := by rw [← Paired.length rel]; exact n1) (show A.units < cLine by omega) (key_of I.hok e2) dd fun h2 d2 sb => h _ ?_
    obtain ⟨o2, es, ep, g, m1, m2, m3, _, m4⟩ := d2
    refine d_write I (by rw [e1]; trivial) sb ⟨o2, g⟩ ⟨by omega, n2, _, (rel.put k e2 rz).keeps fun c ys ec => ?_, o2, es, ep, g, m1, m2, m3, m4⟩
    have nc : c ≠ d := ne_of ec e1 (fun q => nomatch q)
    rw [upd_ne nc, ec]

abbrev inB (X : Cx) (scope : Scope) (s : Shared) (H : Hp) (C : Addr) (cl : List (Str × Addr)) (fp : List Addr) : Cx := X.blk s H scope (compEnvC scope cl C X.env) fp
/-- {y: z for target in iter if ..}: L the new dict, o0 how it looks at first -/
def tDcG (o0 : HO) (wi : TI) (g : TG) (tt : TT) (tk tv : TE) (vs : List Nat) : TE := fun σ H Q => wi σ H fun J H1 => ∀ L, H1 L = none → ∃ W : Nat → Nat → Hp → Prop,
  (∃ m, W 0 m (upd H1 L o0)) ∧
  ∀ i m H2, W i m H2 → (J.stop i H2 ∧ Q (.ref L) H2) ∨
    (J.go i H2 ∧ ∃ Nx : Hp → Prop, (∀ Hn, Nx Hn → ∃ m1, m1 < m ∧ W (i + 1) m1 Hn) ∧
      ∀ x H3, J.yld i H2 x H3 → g x (L2.wipe σ vs) H3 fun σ4 H4 => L2.wipe σ4 vs = L2.wipe σ vs ∧
        tt σ4 H4 fun b H5 => if b = true then tk σ4 H5 fun y H6 => tv σ4 H6 fun z H7 => ∃ H8, DPut H7 L y z H8 ∧ Nx H8 else Nx H5)
structure DcIn (X : Cx) (scope : Scope) (tg : Expr) (ifs : List Expr) (kx vx : Expr) (g : TG) (tt : TT) (tk tv : TE) : Prop where
  tgt : ∀ s H C cl fp, PG (inB X scope s H C cl fp) tg g
  tst : ∀ s H C cl fp, PTs (inB X scope s H C cl fp) ifs tt
  key : ∀ s H C cl fp, PE (inB X scope s H C cl fp) kx tk
  val : ∀ s H C cl fp, PE (inB X scope s H C cl fp) vx tv
/-- an empty dict, whatever its keys are to be -/
def Empty0 (o0 : HO) : Prop := o0 = .dK [] ∨ o0 = .dT []
theorem Empty0.lies {o0 : HO} (e : Empty0 o0) {P : Program} {w : World} {H : Hp} (h : Heap) (hb : sysModules < h.objs.size) : ObjOk P w H (h.push { cls := .type "dict", data := .dict #[] }) h.objs.size o0 := by
  rcases e with rfl | rfl
  · exact dk_empty h hb
  · exact dt_empty h hb
section
variable {X : Cx} {kx vx tg iter : Expr} {ifs : List Expr} {scope : Scope} {own : List (Str × Nat)} {wi : TI} {g : TG} {tt : TT} {tk tv : TE} {o0 : HO}
theorem dict_comp {pins : List (Addr × Obj)} {s : Shared} {σ : L2.St} {H : Hp} {Q : VK} {pos pos1 : Pos} {use : Option (Value → Sem Unit)} {Qf : Value → Shared → Prop} (hc : X.calm = true) (hN : X.N.Nodup) (hu : X.A.units + 1 < cLine)
    (I : Inv X pins σ H s) (hi : PI X tg iter wi) (ok : BlkOk X.N X.env.scope scope own) (b : DcIn X scope tg ifs kx vx g tt tk tv) (e0 : Empty0 o0) (hs : ∀ x, foldedSetIterable iter X.env x = pure x)
    (h : tDcG o0 wi g tt tk tv (own.map (·.2)) σ H Q)
    (fin : ∀ L C s1 m H1, Inv X pins σ H1 s1 → Q (.ref L) H1 → s1.heap.Ns C m → FpOk X pins H1 C → compPost (model X.prog X.w) X.A X.xe use Qf (.ref L) C (.ok .next) s1) :
    wpAny (model X.prog X.w) X.A (comprehension (.DictComp kx vx [⟨tg, iter, ifs, 0⟩] scope pos) scope X.env pos1 newDict false (eval iter X.env) use) Qf X.xe s := by
  generalize hvs : own.map (·.2) = vs at h
  have cap : ∀ p ∈ scope.names, p.2 = .free → ∃ a, X.env.cells.lookup p.1 = some a := fun p hp e => (ok.free p hp e).elim (fun q => I.ok.has _ (.inl q)) fun q => I.ok.has _ (.inr q)
  refine wpAny_comprehension_free (use := use) rfl hs (closure_ok cap) ok.kind (fun p hp e => e ▸ ok.uniq p hp) (thn (hi.run pins s σ H _ I h) fun v0 t1 q1 => thn q1 fun v1 t2 q2 => ?_)
  clear h
  obtain ⟨it, fp, tn, J, K2, rfl, I2, T, z2, f2, q⟩ := q2
  refine wpAny_newObj_type (newEnv_comp ?_)
  -- the new dict's place
  have nL := I2.hok.fresh (Nat.le_refl t2.heap.objs.size)
  obtain ⟨W, ⟨m0, w0⟩, turn⟩ := q _ nL
  have up1 : ∀ a o, t2.heap.get? a = some o → (t2.heap.push { cls := .type "dict", data := .dict #[] }).get? a = some o := fun a o e => Heap.get?_push_of_some _ e
  have I3 : Inv X pins σ (upd K2 t2.heap.objs.size o0) { t2 with heap := t2.heap.push { cls := .type "dict", data := .dict #[] } } := I2.laid (t' := t2.toks) up1 (Nat.le_refl _) (e0.lies t2.heap I2.big)
  have below : ∀ a ∈ fp, a < t2.heap.objs.size := fun a ha => let ⟨o, e, _⟩ := T.obj _ _ z2 a ha; Heap.lt_size e
  have f3 : ∀ a ∈ fp, FpOk X pins (upd K2 t2.heap.objs.size o0) a ∧ a < (t2.heap.push { cls := .type "dict", data := .dict #[] }).objs.size := fun a ha =>
    ⟨⟨(upd_ne (Nat.ne_of_lt (below a ha))).trans (f2 a ha).1, (f2 a ha).2⟩, by rw [Heap.size_push]; exact Nat.lt_succ_of_lt (below a ha)⟩
  have z3 := T.keep _ _ _ z2 fun a _ o e => up1 a o e
  generalize hL : t2.heap.objs.size = L at nL w0 turn I3 f3
  generalize hK : upd K2 L o0 = K3 at I3 w0 f3
  generalize ht : ({ t2 with heap := t2.heap.push { cls := .type "dict", data := .dict #[] } } : Shared) = t3 at I3
  have eh : t3.heap = t2.heap.push { cls := .type "dict", data := .dict #[] } := by rw [← ht]
  rw [← eh] at f3 z3
  have I4 := block_start I3 ok hN f3
  have bg := b.tgt t3 K3 t3.heap.objs.size (cellsFrom (t3.heap.objs.size + 1) scope.names (cloFrom X.env.cells scope.names [])) fp
  have bt := b.tst t3 K3 t3.heap.objs.size (cellsFrom (t3.heap.objs.size + 1) scope.names (cloFrom X.env.cells scope.names [])) fp
  have bk := b.key t3 K3 t3.heap.objs.size (cellsFrom (t3.heap.objs.size + 1) scope.names (cloFrom X.env.cells scope.names [])) fp
  have bv := b.val t3 K3 t3.heap.objs.size (cellsFrom (t3.heap.objs.size + 1) scope.names (cloFrom X.env.cells scope.names [])) fp
  have goal : ∀ (ce : Env) (t4 : Shared), ce = compEnvC scope (cellsFrom (t3.heap.objs.size + 1) scope.names (cloFrom X.env.cells scope.names [])) t3.heap.objs.size X.env → t4 = { t3 with heap := pushCells (t3.heap.push { cls := .type "dict", data := .dict #[] }) scope.names } →
      codeAny (model X.prog X.w) X.A (.compStart (.DictComp kx vx [⟨tg, iter, ifs, 0⟩] scope pos) 0 (.ref it) (.ref L) ce) (compPost (model X.prog X.w) X.A X.xe use Qf (.ref L) t3.heap.objs.size) t4 := by
    intro ce t4 ece et4
    unfold inB at bg bt bk bv
    rw [← ece, ← et4] at I4
    rw [← ece] at bg bt bk bv
    rw [hvs] at I4
    have z4 : tn 0 t4.heap := T.keep _ _ _ z3 fun a _ o e => by rw [et4]; exact pushCells_keeps _ _ _ _ (Heap.get?_push_of_some _ e)
    have n3 : ∀ a ∈ fp, K3 a = none := fun a ha => (f3 a ha).1.1
    -- the iterator's objects, in the block
    have own1 : ∀ {σ' : L2.St} {H' : Hp} {s' : Shared}, Inv (X.blk t3 K3 scope ce fp) [] σ' H' s' → (∀ a ∈ fp, H' a = none) → ∀ a ∈ fp, FpOk (X.blk t3 K3 scope ce fp) [] H' a := fun {σ' H' s'} i n a ha => by
      obtain ⟨y1, y2⟩ := i.ok.exf a ha
      exact ⟨n a ha, y1, i.ok.exfs a ha, .inl ha, fun x c e => y2 x c e, fun p hp => absurd hp List.not_mem_nil⟩
    let Inv0 : Nat → Shared → Prop := fun n s' => ∃ i H', Inv (X.blk t3 K3 scope ce fp) [] (L2.wipe σ vs) H' s' ∧ tn i s'.heap ∧ (∀ a ∈ fp, H' a = none) ∧ W i n H'
    have loop : codeAny (model X.prog X.w) X.A (.compLoop (.DictComp kx vx [⟨tg, iter, ifs, 0⟩] scope pos) 0 (.ref it) (.ref L) ce) (compPost (model X.prog X.w) X.A X.xe use Qf (.ref L) t3.heap.objs.size) t4 := by
      refine compLoop_anyD Inv0 (fun n t5 q5 => ?_) m0 ⟨0, K3, I4, z4, n3, w0⟩
      obtain ⟨i, H5, I5, z5, n5, w5⟩ := q5
      rcases turn i n H5 w5 with ⟨st, qe⟩ | ⟨go, Nx, hNx, step⟩
      · refine thnF (T.done (X.blk t3 K3 scope ce fp) rfl rfl rfl hc i [] t5 _ H5 (fun _ _ => False) I5 (own1 I5 n5) z5 st) fun r t6 q6 => ?_
        obtain ⟨rfl, I6⟩ := q6
        have free : H5 t3.heap.objs.size = none := by
          have y : H5 ce.locals = none := I6.free
          rwa [ece] at y
        obtain ⟨m, lm, _⟩ := I6.loc
        have lm : t6.heap.Ns ce.locals m := lm
        rw [ece] at lm
        refine fin L t3.heap.objs.size t6 m H5 (I3.call' (ch := fp) I6.os I6.base I6.hok I6.bare fun a ha => ?_) qe lm (I3.fpOk (Nat.le_refl _) free)
        obtain ⟨⟨_, y2, _, y4, y5, y6⟩, _⟩ := f3 a ha
        exact ⟨y4, y2, y5, y6⟩
      · refine thnF (T.item (X.blk t3 K3 scope ce fp) rfl rfl rfl hc i [] t5 _ H5 (fun _ _ => False) I5 (own1 I5 n5) z5 go) fun r t6 q6 => ?_
        obtain ⟨u, rfl, q6⟩ := q6
        refine thnF q6 fun _ t7 q7 => ?_
        obtain ⟨x, H7, I7, r7, y7, z7, n7⟩ := q7
        refine thnF (bg.run _ t7 _ H7 x u _ (I7.pinned (own1 I7 n7) (T.obj _ _ z7)) r7 (step x H7 y7)) fun _ t8 q8 => ?_
        obtain ⟨σ8, H8, I8, e8, q8⟩ := q8
        refine thnF (bt.run _ t8 σ8 H8 _ I8 q8) fun k t9 q9 => ?_
        obtain ⟨H9, I9, q9⟩ := q9
        -- how a turn ends
        have next : ∀ {s' : Shared} {H' : Hp}, Inv (X.blk t3 K3 scope ce fp) ([] ++ pinsAt fp t7.heap) σ8 H' s' → Nx H' → ∃ m, m < n ∧ Inv0 m s' := fun {s' H'} i' nx => by
          obtain ⟨m1, lt, w1⟩ := hNx H' nx
          have pin : ∀ a ∈ fp, ∀ o, t7.heap.get? a = some o → s'.heap.get? a = some o ∧ H' a = none := fun a ha o e => by
            have y := i'.pin (a, o) (List.mem_append_right _ (List.mem_append_right _ (mem_pinsAt ha e)))
            exact ⟨y.1, y.2.1⟩
          refine ⟨m1, lt, i + 1, H', i'.unpinned.weak (by rw [← e8, wipe_length]) (fun j v e => ?_), T.keep _ _ _ z7 fun a ha o e => (pin a ha o e).1, fun a ha => ?_, w1⟩
          · rw [← e8] at e
            exact (wipe_some e).1
          · obtain ⟨o, e, _⟩ := T.obj _ _ z7 a ha
            exact (pin a ha o e).2
        cases k with
        | false => exact next I9 q9
        | true =>
          refine thnF (bk.run _ t9 σ8 H9 _ I9 q9) fun u1 t10 q10 => ?_
          obtain ⟨y, H10, I10, ry, q10⟩ := q10
          refine thnF (bv.run _ t10 σ8 H10 _ I10 q10) fun u2 t11 q11 => ?_
          obtain ⟨z, H11, I11, rz, H12, put, nx⟩ := q11
          exact dput_ok (X := X.blk t3 K3 scope ce fp) hu I11 put ry rz fun t12 I12 => next I12 nx
    exact codeAny_compStart_dict loop (T.self X.A 0 _ _ _ z4 loop)
  exact goal _ _ rfl rfl
/-- as a value -/
theorem pe_dcG {pos : Pos} (hc : X.calm = true) (hN : X.N.Nodup) (hu : X.A.units + 1 < cLine) (hi : PI X tg iter wi) (ok : BlkOk X.N X.env.scope scope own) (b : DcIn X scope tg ifs kx vx g tt tk tv) (e0 : Empty0 o0) (hs : ∀ x, foldedSetIterable iter X.env x = pure x := by intro _; rfl) :
    PE X (.DictComp kx vx [⟨tg, iter, ifs, 0⟩] scope pos) (tDcG o0 wi g tt tk tv (own.map (·.2))) := ⟨fun pins s σ H Q I h => by
  rw [arm_eval_DictComp]
  refine dict_comp hc hN hu I hi ok b e0 hs h fun L C s1 m H1 I1 q ns f => ⟨m, ns, fun h2 sb => ?_⟩
  obtain ⟨f1, f2, f3, f4, f5, f6⟩ := f
  exact ⟨.ref L, H1, I1.turned (t' := s1.toks) (fun a o na e => (sb.2 a na).trans e) f1 f2 f4 f5 f6, rfl, q⟩⟩
/-- as the value of a name of the def's own -/
theorem ps_setDcG {i : Nat} {y : Str} {py pos spos : Pos} (hc : X.calm = true) (hN : X.N.Nodup) (hu : X.A.units + 1 < cLine) (hy : X.N[i]? = some y) (hyl : X.env.scope.names.lookup y = some .local) (hsw : swapsWith (.DictComp kx vx [⟨tg, iter, ifs, 0⟩] scope pos) (some (.Name y py)) spos.line X.env = pure true)
    (hi : PI X tg iter wi) (ok : BlkOk X.N X.env.scope scope own) (b : DcIn X scope tg ifs kx vx g tt tk tv) (e0 : Empty0 o0) (hs : ∀ x, foldedSetIterable iter X.env x = pure x := by intro _; rfl) :
    PS X (.Assign [.Name y py] (.DictComp kx vx [⟨tg, iter, ifs, 0⟩] scope pos) spos) (tAsg (tDcG o0 wi g tt tk tv (own.map (·.2))) (gName i)) := ⟨fun pins s σ H Dn I h => by
  rw [exec_Assign_Name_used _ _ _ _ hsw]
  refine wpAny_bind (wpAny_standAt (wpAny_bind ?_))
  have h : tDcG o0 wi g tt tk tv (own.map (·.2)) σ H (fun x H1 => gName i x σ H1 Dn.nx) := h
  refine wpAny_bind (thn (dict_comp (Qf := fun _ s' => SP X pins Dn .next s') hc hN hu I hi ok b e0 hs h fun L C s1 m H1 I1 q ns f => ?_) fun _ s2 hq => wpAny_pure (wpAny_pure hq))
  obtain ⟨f1, f2, f3, f4, f5, f6⟩ := f
  refine wpAny_assign_Name (store_ok2 (v := V.ref L) I1 hN hy (.inl hyl) rfl (fun s2 I2 ⟨a, sb, ha⟩ => ?_) (.inr hyl))
  have nC : C ≠ a := ha.elim (fun z => by rw [z]; exact f2) fun z e => f5 y a z e.symm
  exact ⟨m, ns.sameBut sb nC, fun h3 sb3 => ⟨_, H1, I2.turned (t' := s2.toks) (fun b o hb e => (sb3.2 b hb).trans e) f1 f2 f4 f5 f6, q⟩⟩⟩
end
end DL
set_option linter.all false
set_option autoImplicit false
set_option maxRecDepth 100000
/-! DlJ: dicts as data. -/
namespace DL
open PySem PySem.Spec L2

def putKs {κ : Type} [DecidableEq κ] (ks : List κ) (k : κ) : List κ := if hasK ks k = true then ks else ks ++ [k]
def putDs {κ α : Type} [DecidableEq κ] (ks : List κ) (ds : List α) (k : κ) (d : α) : List α := if hasK ks k = true then List.zipWith (fun j e => if j = k then d else e) ks ds else ds ++ [d]
theorem any_zip {κ : Type} [DecidableEq κ] {k : κ} {ks : List κ} {vs : List V} (h : ks.length = vs.length) : ((ks.zip vs).any fun kv => decide (kv.1 = k)) = hasK ks k := by
  rw [valV_any, hasK_isSome h]
theorem map_zip_put {κ : Type} [DecidableEq κ] {k : κ} {v : V} : ∀ {ks : List κ} {vs : List V}, ks.length = vs.length → ((ks.zip vs).map fun kv => if kv.1 = k then (kv.1, v) else kv) = ks.zip (List.zipWith (fun j e => if j = k then v else e) ks vs)
  | [], [], _ => rfl
  | j :: ks, e :: vs, h => by
    rw [List.zip_cons_cons, List.map_cons, List.zipWith_cons_cons, List.zip_cons_cons, map_zip_put (by simpa using h)]
    by_cases q : j = k
    · simp only [q, if_true]
    · simp only [q, if_false]
theorem putK_zip {κ : Type} [DecidableEq κ] {k : κ} {v : V} {ks : List κ} {vs : List V} (h : ks.length = vs.length) : putK (ks.zip vs) k v = (putKs ks k).zip (putDs ks vs k v) ∧ (putKs ks k).length = (putDs ks vs k v).length := by
  unfold putK putKs putDs
  rw [any_zip h]
  by_cases q : hasK ks k = true
  · simp only [q, if_true]
    exact ⟨map_zip_put h, by rw [List.length_zipWith]; omega⟩
  · rw [if_neg q, if_neg q, if_neg q]
    exact ⟨by rw [List.zip_append h]; rfl, by rw [List.length_append, List.length_append, h]; rfl⟩
theorem reps_zipW {K : PySem.W.Frag} {A : Hp} {κ : Type} [DecidableEq κ] {k : κ} {d : D} {v : V} (r : Rep K A d v) : ∀ {ks : List κ} {ds : List D} {vs : List V}, Reps K A ds vs →
    Reps K A (List.zipWith (fun j e => if j = k then d else e) ks ds) (List.zipWith (fun j e => if j = k then v else e) ks vs)
  | [], _, _, q => by simp only [List.zipWith_nil_left]; exact .nil
  | j :: ks, _, _, .nil => by simp only [List.zipWith_nil_right]; exact .nil
  | j :: ks, _, _, .cons a b => by
    rw [List.zipWith_cons_cons, List.zipWith_cons_cons]
    refine .cons ?_ (reps_zipW r b)
    by_cases q : j = k
    · simp only [q, if_true]; exact r
    · simp only [q, if_false]; exact a
theorem reps_putDs {K : PySem.W.Frag} {A : Hp} {κ : Type} [DecidableEq κ] {k : κ} {d : D} {v : V} {ks : List κ} {ds : List D} {vs : List V} (r : Rep K A d v) (q : Reps K A ds vs) : Reps K A (putDs ks ds k d) (putDs ks vs k v) := by
  unfold putDs
  by_cases z : hasK ks k = true
  · rw [if_pos z, if_pos z]; exact reps_zipW r q
  · rw [if_neg z, if_neg z]; exact q.append (.cons r .nil)

/-! ### comprehensions -/
section
variable {κ : Type} [DecidableEq κ]
def dcR (kf : D → Option κ) (mo : List κ → List D → MO) (vs : List Nat) (g : D -> List S -> Option (List S)) (t : BM) (mk mv : EM) : List D -> List κ -> List D -> List S -> ER MO
  | [], ks, ds, sl => .ok (mo ks ds) sl
  | d :: r, ks, ds, sl => match g d sl with
    | none => .bad
    | some s => (noxR (t s)).bind fun b s1 => if b = true then (noxR (mk s1)).bind fun y s2 => (noxR (mv s2)).bind fun z s3 => (match kf y with
        | some k => if ks.length < sizeLine then dcR kf mo vs g t mk mv r (putKs ks k) (putDs ks ds k z) (wipeS s3 vs) else .bad
        | none => .bad) else dcR kf mo vs g t mk mv r ks ds (wipeS s1 vs)
def cDc (kf : D → Option κ) (mo : List κ → List D → MO) (vs : List Nat) (mi : AM) (g : D -> List S -> Option (List S)) (t : BM) (mk mv : EM) : NM := fun sl => (mi sl).bind fun ds s => dcR kf mo vs g t mk mv ds [] [] (wipeS s vs)
structure DKd (K : PySem.W.Frag) (kf : D → Option κ) (mo : List κ → List D → MO) (o : List (κ × V) → HO) : Prop where
  ho : ∀ (Hf : Hp) (ks : List κ) (vs : List V) (ds : List D), ks.length = vs.length → Reps K Hf ds vs → HORep K Hf (mo ks ds) (o (ks.zip vs))
  nt : ∀ l, NT (o l)
  nc : ∀ l, NC (o l)
  nu : ∀ l, NU (o l)
  put : ∀ (H A : Hp) (L : Addr) (l : List (κ × V)) (y z : V) (d : D) (k : κ), H L = some (o l) → l.length < sizeLine → Le A H → Rep K A d y → kf d = some k → DPut H L y z (upd H L (o (putK l k z)))
theorem dkd_K {K : PySem.W.Frag} : DKd K keyOf MO.dK HO.dK := ⟨fun Hf ks vs ds h r => ⟨vs, rfl, h, r⟩, fun l => nt_dK, fun l => nc_dK, fun l => nu_dK, fun H A L l y z d k e n le r q => by
  rw [rep_key r q]
  exact DPut.k e n⟩
theorem dkd_T {K : PySem.W.Frag} : DKd K tkeyOf MO.dT HO.dT := ⟨fun Hf ks vs ds h r => ⟨vs, rfl, h, r⟩, fun l => nt_dT, fun l => nc_dT, fun l => nu_dT, fun H A L l y z d k e n le r q => by
  obtain ⟨b, rfl, hb⟩ := tkey_rep le r q
  exact DPut.t e hb n⟩
variable {K : PySem.W.Frag} {W : WX} {wi : TI} {mi : AM} {g : TG} {mg : D -> List S -> Option (List S)} {tt : TT} {mt : BM} {tk tv : TE} {mk mv : EM} {vs : List Nat} {kf : D → Option κ} {mo : List κ → List D → MO} {o : List (κ × V) → HO}
theorem dc_nx (kd : DKd K kf mo o) [hi : IX K W wi mi] [hg : GX K g mg] [hw : GW g vs] [ht : TX K W0 tt mt] [hk : EX K W0 tk mk] [hv : EX K W0 tv mv] : NX K W (tDcG (o []) wi g tt tk tv vs) (cDc kf mo vs mi mg mt mk mv) := ⟨fun c σ H sl Q s h => by
  refine hi.ok c σ H sl _ s (h.split.imp fun J H1 ⟨ds, s1, _, i1, r1, l1, h1⟩ L hD => ?_)
  have w := i1.new hD
  let Inv1 : Nat → Hp → Prop := fun i H' => ∃ (si : List S) (ks : List κ) (es : List D) (va : List V), ks.length = va.length ∧ Sim K (c.hide L (o (ks.zip va))) si (L2.wipe σ vs) H' ∧ Reps K (fz (c.hide L (o (ks.zip va))) si (L2.wipe σ vs) H') es va ∧
    Le (fz c s1 σ H1) (fz (c.hide L (o (ks.zip va))) si (L2.wipe σ vs) H') ∧ NOk K W c σ H1 s1 (dcR kf mo vs mg mt mk mv (ds.drop i) ks es si) Q
  refine ⟨fun i m H' => m = ds.length - i ∧ i ≤ ds.length ∧ Inv1 i H', ⟨ds.length, by simp, Nat.zero_le _, ?_⟩, ?_⟩
  · obtain ⟨s2, l2⟩ := i1.wipe vs
    obtain ⟨s3, l3⟩ := s2.hide (o := o []) hD (kd.nu _)
    exact ⟨_, [], [], [], rfl, s3, .nil, l2.trans l3, h1⟩
  rintro i m H2 ⟨rfl, hle, si, ks, es, va, hkl, i2, ra, l2, h2⟩
  obtain ⟨st, go⟩ := r1 i H2 _ l2 i2.hid
  by_cases hlt : i < ds.length
  · have hd : ds[i]? = some ds[i] := by simp [hlt]
    obtain ⟨g1, g2⟩ := go _ hd
    refine .inr ⟨g1, Inv1 (i + 1), fun H' z => ⟨ds.length - (i + 1), by omega, rfl, hlt, z⟩, fun x H3 y => ?_⟩
    obtain ⟨sm, rx⟩ := g2 x H3 y
    have i3 := i2.same sm
    have l3 : Le (fz (c.hide L (o (ks.zip va))) si (L2.wipe σ vs) H2) (fz (c.hide L (o (ks.zip va))) si (L2.wipe σ vs) H3) := fz_same (Le.of_same sm)
    rw [List.drop_eq_getElem_cons hlt] at h2
    unfold dcR at h2
    cases e : mg ds[i] si with
    | none => rw [e] at h2; exact h2.elim
    | some s4 =>
      simp only [e] at h2
      refine hw.ok x _ (L2.wipe σ vs) H3 (fun σ2 H2 => H2 = H3 ∧ Sim K (c.hide L (o (ks.zip va))) s4 σ2 H3 ∧ Le (fz (c.hide L (o (ks.zip va))) si (L2.wipe σ vs) H3) (fz (c.hide L (o (ks.zip va))) s4 σ2 H3)) _ (wipe_wipe _ _) (fun σ4 H4 ew h4 => ⟨ew, ?_⟩)
        (hg.ok _ _ _ _ _ _ _ _ i3 rx e fun σ' i4 l4 => ⟨rfl, i4, l4⟩)
      obtain ⟨rfl, i4, l4⟩ := h4
      have lz := (l2.trans l3).trans l4
      -- what the end of a turn asks
      have fin : ∀ {s5 : List S} {σ5 : L2.St} {H5 : Hp} {ks' : List κ} {es' : List D} {va' : List V}, ks'.length = va'.length -> L2.wipe σ5 vs = L2.wipe σ vs -> Sim K (c.hide L (o (ks'.zip va'))) s5 σ5 H5 -> Reps K (fz (c.hide L (o (ks'.zip va'))) s5 σ5 H5) es' va' ->
          Le (fz c s1 σ H1) (fz (c.hide L (o (ks'.zip va'))) s5 σ5 H5) -> NOk K W c σ H1 s1 (dcR kf mo vs mg mt mk mv (ds.drop (i + 1)) ks' es' (wipeS s5 vs)) Q -> Inv1 (i + 1) H5 := fun {s5 σ5 H5 ks' es' va'} hk' e5 i5 r5 l5 h5 => by
        obtain ⟨i6, l6⟩ := i5.wipe vs
        rw [e5] at i6 l6
        exact ⟨_, ks', es', va', hk', i6, r5.le l6, l5.trans l6, h5⟩
      cases et : noxR (mt s4) with
      | bad => rw [et] at h2; exact h2.elim
      | exn x s => exact absurd et (noxR_ne _ _ _)
      | ok k s5 =>
        rw [et] at h2
        refine ht.ok _ _ _ _ _ i4 (POk.noxR (W := W0) ?_)
        rw [et]
        intro k' H5 i5 ek l5
        cases (show k = k' from ek)
        simp only [ER.bind] at h2
        cases k with
        | false =>
          rw [if_neg Bool.false_ne_true] at h2 ⊢
          exact fin hkl ew i5 (ra.le ((l3.trans l4).trans l5)) (lz.trans l5) h2
        | true =>
          rw [if_pos rfl] at h2 ⊢
          cases ee : noxR (mk s5) with
          | bad => rw [ee] at h2; exact h2.elim
          | exn x s => exact absurd ee (noxR_ne _ _ _)
          | ok y s6 =>
            rw [ee] at h2
            refine hk.ok _ _ _ _ _ i5 (POk.noxR (W := W0) ?_)
            rw [ee]
            intro yv H6 i6 ry l6
            cases ev : noxR (mv s6) with
            | bad => simp only [ev] at h2; exact h2.elim
            | exn x s => exact absurd ev (noxR_ne _ _ _)
            | ok z s7 =>
              simp only [ev] at h2
              refine hv.ok _ _ _ _ _ i6 (POk.noxR (W := W0) ?_)
              rw [ev]
              intro zv H7 i7 rz l7
              cases ek2 : kf y with
              | none => simp only [ek2] at h2; exact h2.elim
              | some kk =>
                simp only [ek2] at h2
                by_cases hz : ks.length < sizeLine
                · rw [if_pos hz] at h2
                  have ra7 := ra.le ((((l3.trans l4).trans l5).trans l6).trans l7)
                  have at7 := i7.hid_at w (kd.nt _)
                  obtain ⟨pz, pl⟩ := putK_zip (k := kk) (v := zv) hkl
                  refine ⟨upd H7 L (o (putK (ks.zip va) kk zv)), kd.put H7 _ L _ yv zv y kk at7 (by rw [List.length_zip]; omega) Hm_le (ry.le l7) ek2, ?_⟩
                  obtain ⟨i8, e8⟩ := i7.rehide (o' := o (putK (ks.zip va) kk zv)) w (kd.nt _) (kd.nu _) (kd.nc _) (kd.nc _)
                  rw [pz] at i8 e8 ⊢
                  exact fin pl ew i8 (by rw [e8]; exact reps_putDs rz ra7) (by rw [e8]; exact ((lz.trans l5).trans l6).trans l7) h2
                · rw [if_neg hz] at h2
                  exact h2.elim
  · have e : i = ds.length := by omega
    subst e
    refine .inl ⟨st (Nat.le_refl _), ?_⟩
    rw [List.drop_length] at h2
    obtain ⟨i3, e3⟩ := i2.unhide w (kd.nt _) (kd.nc _)
    obtain ⟨i4, e4⟩ := i3.back
    have z := h2 L (o (ks.zip va)) _ i4 del_self (kd.ho _ _ _ _ hkl (by rw [e4, e3]; exact ra)) (by rw [e4, e3]; exact l2)
    rw [del_upd (i2.hid_at w (kd.nt _))] at z
    exact z⟩
end
section
variable {K : PySem.W.Frag} {W : WX} {wi : TI} {mi : AM} {g : TG} {mg : D -> List S -> Option (List S)} {tt : TT} {mt : BM} {tk tv : TE} {mk mv : EM} {vs : List Nat}
abbrev tDcK := tDcG (.dK [])
abbrev tDcT := tDcG (.dT [])
/-- keys ints, texts, or tuples of them -/
def tDcA (wi : TI) (g : TG) (tt : TT) (tk tv : TE) (vs : List Nat) : TE := fun σ H Q => tDcG (.dT []) wi g tt tk tv vs σ H Q ∨ tDcG (.dK []) wi g tt tk tv vs σ H Q
instance dcT_nx [hi : IX K W wi mi] [hg : GX K g mg] [hw : GW g vs] [ht : TX K W0 tt mt] [hk : EX K W0 tk mk] [hv : EX K W0 tv mv] : NX K W (tDcG (.dT []) wi g tt tk tv vs) (cDc tkeyOf MO.dT vs mi mg mt mk mv) := dc_nx dkd_T
instance dcK_nx [hi : IX K W wi mi] [hg : GX K g mg] [hw : GW g vs] [ht : TX K W0 tt mt] [hk : EX K W0 tk mk] [hv : EX K W0 tv mv] : NX K W (tDcG (.dK []) wi g tt tk tv vs) (cDc keyOf MO.dK vs mi mg mt mk mv) := dc_nx dkd_K
def cAltN (a b : NM) : NM := fun sl => match a sl with
  | .bad => b sl
  | r => r
instance dcA_nx [hi : IX K W wi mi] [hg : GX K g mg] [hw : GW g vs] [ht : TX K W0 tt mt] [hk : EX K W0 tk mk] [hv : EX K W0 tv mv] : NX K W (tDcA wi g tt tk tv vs) (cAltN (cDc tkeyOf MO.dT vs mi mg mt mk mv) (cDc keyOf MO.dK vs mi mg mt mk mv)) := ⟨fun c σ H sl Q s h => by
  unfold cAltN at h
  cases e : cDc tkeyOf MO.dT vs mi mg mt mk mv sl with
  | bad => rw [e] at h; exact .inr (dcK_nx.ok c σ H sl Q s h)
  | ok a s' => simp only [e] at h; exact .inl (dcT_nx.ok c σ H sl Q s (by rw [e]; exact h))
  | exn a s' => simp only [e] at h; exact .inl (dcT_nx.ok c σ H sl Q s (by rw [e]; exact h))⟩
instance dcT_ex [hi : IX K W wi mi] [hg : GX K g mg] [hw : GW g vs] [ht : TX K W0 tt mt] [hk : EX K W0 tk mk] [hv : EX K W0 tv mv] : EX K W (tDcG (.dT []) wi g tt tk tv vs) (cFz (cDc tkeyOf MO.dT vs mi mg mt mk mv)) := (dcT_nx).ex
instance dcA_ex [hi : IX K W wi mi] [hg : GX K g mg] [hw : GW g vs] [ht : TX K W0 tt mt] [hk : EX K W0 tk mk] [hv : EX K W0 tv mv] : EX K W (tDcA wi g tt tk tv vs) (cFz (cAltN (cDc tkeyOf MO.dT vs mi mg mt mk mv) (cDc keyOf MO.dK vs mi mg mt mk mv))) := (dcA_nx).ex
end
end DL
set_option linter.all false
set_option autoImplicit false
set_option maxRecDepth 100000
set_option maxHeartbeats 2000000
/-! DlEn: enumerate of a tuple. -/
namespace DlEn
open PySem PySem.Spec PyProof.Rows
open Sem (wp)
open AutoSeq1 (wpAny_loadPart')
abbrev titO (t : Addr) : Obj := { cls := .type "tuple_iterator", data := .fields #[.ref t, .int 0 0] }
abbrev enuO (it : Addr) : Obj := { cls := .type "enumerate", data := .fields #[.none, .bool false, .ref it, rawInt 0, .none, .none] }
theorem new_tup (t : Addr) (ob : Obj) (xs : Array Value) (n : Nat) (hc : ob.cls = .type "tuple") (hd : ob.data = .seq xs n) :
    Meets (Builtin.«enumerate.__new__» ⟨[.type "enumerate", .ref t], []⟩) (fun _ R s => s.heap.get? t = some ob ∧
      R (.ok (.ret (.ref (s.heap.push (titO t)).objs.size))) { s with heap := (s.heap.push (titO t)).push (enuO s.heap.objs.size) }) := .of_wp fun prog w A R s hy => by
  obtain ⟨hp, g, d, tk, os⟩ := s
  obtain ⟨hl, hy⟩ := hy
  have hsub := sub_enumerate
  have ht : Heap.IsTuple (Shared.heap ⟨hp, g, d, tk, os⟩) t xs := ⟨ob, hl, hc, n, hd⟩
  wp_walk using wpAny_loadPart' hl
  refine wpAny_stack_any fun st => wpAny_pure ?_
  split
  · rename_i c _ _ _ _ _
    cases (c == Value.type "enumerate")
    · wp_walk using wpAny_loadPart' hl, wpAny_pyIter_tuple ht
      exact ⟨_, rfl, hy⟩
    · wp_walk using wpAny_loadPart' hl, wpAny_pyIter_tuple ht
      exact ⟨_, rfl, hy⟩
  · wp_walk using wpAny_loadPart' hl, wpAny_pyIter_tuple ht
    exact ⟨_, rfl, hy⟩
section
variable {prog : Program} {w : World} {A : Around} {E : Value → Shared → Prop} {s : Shared}
theorem call_tup {t : Addr} {xs : Array Value} {Q : Value → Shared → Prop} (hT : s.heap.IsTuple t xs)
    (h : ∀ hz, IsEnum hz (s.heap.objs.size + 1) s.heap.objs.size 0 .none → hz.IsTupleIter s.heap.objs.size t 0 → (∀ b o, s.heap.get? b = some o → hz.get? b = some o) → Q (.ref (s.heap.objs.size + 1)) { s with heap := hz }) :
    wpAny (model prog w) A (call (.type "enumerate") [.ref t]) Q E s := by
  obtain ⟨ob, hl, hc, n, hd⟩ := hT
  refine callType_new F.called_enumerate (by decide) (F.typeCall_enumerate_1 _) (F.newCall_enumerate_1 _) (fun x => F.args_object_init_2 x _) F.entry_enumerate_new (new_tup t ob xs n hc hd) ⟨hl, ?_⟩
  have sz : (s.heap.push (titO t)).objs.size = s.heap.objs.size + 1 := Heap.size_push ..
  have at1 := Heap.get?_push_size (s.heap.push (titO t)) (o := enuO s.heap.objs.size) rfl
  rw [sz] at at1 ⊢
  have up : ∀ b o, s.heap.get? b = some o → ((s.heap.push (titO t)).push (enuO s.heap.objs.size)).get? b = some o := fun b o e => Heap.get?_push_of_some _ (Heap.get?_push_of_some _ e)
  exact ⟨⟨_, at1, rfl⟩, h _ at1 ⟨_, Heap.get?_push_of_some _ (Heap.get?_push_size _ rfl), rfl, rfl⟩ up⟩
end
end DlEn
namespace DL
open PySem PySem.Spec L2
open PyProof.Rows (IsTup)
/-- the tuple at a, each item in a new pair with its number -/
def IteT (K : PySem.W.Frag) (a : Addr) : It :=
  ⟨fun i H => ∃ (xs : List V) (x : V), SqT K H a xs ∧ xs[i]? = some x,
   fun i H v H' => ∃ T x, v = .ref T ∧ H T = none ∧ H' = upd H T (.tup [.int (i : Nat), x]) ∧ ∀ xs, SqT K H a xs → xs[i]? = some x,
   fun i H => ∃ xs : List V, SqT K H a xs ∧ xs.length ≤ i⟩
theorem turn_enumT {P : Program} {w : World} {K : PySem.W.Frag} {elts : List Expr} {kk : Nat} {tpos : Pos} (a e it : Addr) :
    Turn P w K (.Tuple elts kk tpos) (IteT K a) [e, it] e (fun i h => (∃ old, IsEnum h e it ((i : Nat) : Int) old) ∧ h.IsTupleIter it a i ∧ e ≠ it) where
  mem := List.mem_cons_self
  obj := fun i h st b hb => by
    obtain ⟨⟨old, he⟩, ⟨o, ho, hc, hd⟩, _⟩ := st
    rcases List.mem_cons.mp hb with rfl | hb
    · exact ⟨_, he, fun v q => nomatch q⟩
    · rcases List.mem_cons.mp hb with rfl | hb
      · exact ⟨o, ho, fun v q => by rw [hd] at q; cases q⟩
      · cases hb
  keep := fun i h h' st k => by
    obtain ⟨⟨old, he⟩, hi, hne⟩ := st
    exact ⟨⟨old, k e List.mem_cons_self _ he⟩, hi.at fun o q => k it (List.mem_cons_of_mem _ List.mem_cons_self) o q, hne⟩
  item := by
    intro X hP hw hK hc i pins s σ H E I hf st hg
    subst hP hw hK
    obtain ⟨⟨old, he⟩, hit, hne⟩ := st
    obtain ⟨xs, x, hq, hx⟩ := hg
    obtain ⟨its, rv, p, hz⟩ := I.tuple hq
    obtain ⟨u, hu, ru⟩ := rv.get hx
    have sz_e : e < s.heap.objs.size := Heap.lt_size he
    have sz_it : it < s.heap.objs.size := by
      obtain ⟨_, q, _⟩ := hit
      exact Heap.lt_size q
    have ne_a : a ≠ it := fun q => by
      obtain ⟨o1, g1, c1, _⟩ := p
      obtain ⟨o2, g2, c2, _⟩ := hit
      rw [q, g2] at g1
      cases g1
      rw [c1] at c2
      exact absurd (Value.type.inj c2) (by decide)
    have ne_e : e ∉ [it, a] := fun q => by
      rcases List.mem_cons.mp q with q | q
      · exact hne q
      · rcases List.mem_cons.mp q with q | q
        · obtain ⟨o1, g1, c1, _⟩ := p
          rw [← q, he] at g1
          cases g1
          exact absurd (Value.type.inj c1) (by decide)
        · cases q
    have il : i < its.toArray.size := by rw [List.size_toArray]; exact (List.getElem?_eq_some_iff.mp hu).1
    have dr := Draws.tuple (prog := X.prog) (w := X.w) (A := X.A.in1) (I.ok.hd hc) it a ne_a its.toArray
    refine wpAny_pyNext_enum_itemD dr he ⟨hit, p⟩ il hne ne_e fun y h1 tk hy out st1 hT hsz hk => ?_
    obtain ⟨hit1, _⟩ := st1
    have ey : u = y := by
      have q : its[i]? = some y := by simpa using hy
      rw [hu] at q
      exact Option.some.inj q
    subst ey
    refine ⟨_, rfl, wpAny_letOwnedTupleGo_enum (s := { s with heap := h1, toks := tk + 1 }) out fun h2 he2 sb => ?_⟩
    have hT2 : h2.get? s.heap.objs.size = some { cls := .type "tuple", data := .seq #[.int i tk, u] } := (sb.2 _ (Nat.ne_of_gt sz_e)).trans hT
    have lies : ObjOk X.prog X.w (upd H s.heap.objs.size (.tup [.int (i : Nat), x])) h2 s.heap.objs.size (.tup [.int (i : Nat), x]) := by
      refine ⟨by show 2 ≤ sizeLine; decide, [.int i tk, u], .cons ⟨_, rfl⟩ (.cons ru .nil), _, hT2, rfl, _, rfl⟩
    have I1 : Inv X pins σ (upd H s.heap.objs.size (.tup [.int (i : Nat), x])) { s with heap := h2, toks := tk + 1 } := I.turnedNew (ch := [e, it]) (fun b ob hb q => by
      have b1 : b ≠ e := fun z => hb (z ▸ List.mem_cons_self)
      have b2 : b ≠ it := fun z => hb (z ▸ List.mem_cons_of_mem _ List.mem_cons_self)
      exact (sb.2 b b1).trans (hk b ob b1 b2 q)) hf (Nat.le_refl _) lies
    refine ⟨.ref s.heap.objs.size, _, I1, rfl, ⟨_, x, rfl, I.hok.fresh (Nat.le_refl _), rfl, fun ys hy => ?_⟩, ⟨⟨u, ?_⟩, hit1.at fun o q => (sb.2 it (Ne.symm hne)).trans q, hne⟩, fun b hb => ?_⟩
    · rw [I.tuple_inj hy hq]
      exact hx
    · rw [Int.natCast_succ]
      exact he2
    · have lt : b < s.heap.objs.size := by
        rcases List.mem_cons.mp hb with rfl | hb
        · exact sz_e
        · rcases List.mem_cons.mp hb with rfl | hb
          · exact sz_it
          · cases hb
      rw [upd_ne (Nat.ne_of_lt lt)]
      exact (hf b hb).1
  done := by
    intro X hP hw hK hc i pins s σ H E I hf st hg
    subst hP hw hK
    obtain ⟨⟨old, he⟩, hit, hne⟩ := st
    obtain ⟨xs, hq, hx⟩ := hg
    obtain ⟨its, rv, p, hz⟩ := I.tuple hq
    obtain ⟨f0, f1, f2, f3, f4, f5⟩ := hf it (List.mem_cons_of_mem _ List.mem_cons_self)
    have ne_a : a ≠ it := fun q => by
      obtain ⟨o1, g1, c1, _⟩ := p
      obtain ⟨o2, g2, c2, _⟩ := hit
      rw [q, g2] at g1
      cases g1
      rw [c1] at c2
      exact absurd (Value.type.inj c2) (by decide)
    have past : its.toArray[i]? = none := Array.getElem?_eq_none (by rw [List.size_toArray, ← rv.length]; exact hx)
    have dr : Draws X.prog X.w X.A.in1 it [it, a] i (fun _ _ => False) (fun j h => j = i ∧ h.IsTupleIter it a i ∧ h.IsTuple a its.toArray) :=
      { live := fun _ _ st => let ⟨o, ho, _⟩ := st.2.1; ⟨o, ho⟩
        frame := fun _ _ _ st hk => ⟨st.1, st.2.1.at fun o q => hk it List.mem_cons_self o q, st.2.2.at fun o q => hk a (List.mem_cons_of_mem _ List.mem_cons_self) o q⟩
        item := fun j s1 Q E1 lt st _ => absurd st.1 (Nat.ne_of_lt lt)
        done := fun s1 Q E1 st hE => wpAny_nextOf_tuple_end (I.ok.hd hc) st.2.1 st.2.2 past hE }
    exact wpAny_pyNext_enum_endD dr he ⟨rfl, hit, p⟩ fun h1 eb => ⟨rfl, I.turned (t' := s.toks) (fun b o hb q => eb b o hb q) f0 f1 f3 f4 f5⟩
  self := fun A i s Q E st h => by
    obtain ⟨⟨_, he⟩, _⟩ := st
    exact wpAny_pyIter_enum he h
def iEnumT (K : PySem.W.Frag) (ta : TA) : TI := fun σ H R => ta σ H fun vs H1 => ∃ a xs, vs = [.ref a] ∧ SqT K H1 a xs ∧ R (IteT K a) H1
theorem pi_enumT {X : Cx} {e : Expr} {ta : TA} {p pos tpos : Pos} {elts : List Expr} {kk : Nat} (hg : Gl X "enumerate") (hm : X.mg "enumerate" = none) (ha : PA X [e] ta) (hs : starEach [e] X.env = [(false, eval e X.env)] := by rfl) :
    PI X (.Tuple elts kk tpos) (.Call (.Name "enumerate" p) [e] [] pos) (iEnumT X.K ta) := ⟨fun pins s σ H R I h => by
  refine PyProof.Rows.Call_ (ld_blt I hg hm PyProof.Rows.boot_enumerate (PyProof.Rows.callWith_type1 (thn (ha.run pos pins s σ H _ I h) fun us s1 ⟨vs, H1, I1, r1, q1⟩ => ?_) hs rfl))
  obtain ⟨a, xs, rfl, hq, q⟩ := q1
  obtain ⟨u, rfl, rx⟩ := vals1 r1
  cases rx
  obtain ⟨its, rv, pt, hz⟩ := I1.tuple hq
  refine DlEn.call_tup (show s1.heap.IsTuple a its.toArray from pt) fun h1 he hit hk => wpAny_pyIter_enum he ?_
  refine ⟨s1.heap.objs.size + 1, [s1.heap.objs.size + 1, s1.heap.objs.size], _, _, H1, rfl, I1.kept (t' := s1.toks) hk, turn_enumT a (s1.heap.objs.size + 1) s1.heap.objs.size, ⟨⟨.none, he⟩, hit, Nat.succ_ne_self _⟩, fun b hb => ?_, q⟩
  have le : s1.heap.objs.size ≤ b := by
    rcases List.mem_cons.mp hb with rfl | hb
    · omega
    · rcases List.mem_cons.mp hb with rfl | hb
      · omega
      · cases hb
  exact I1.fpOk le (I1.hok.fresh le)⟩
/-- a list or a tuple -/
def iEnumA (K : PySem.W.Frag) (ta : TA) : TI := fun σ H R => iEnum K ta σ H R ∨ iEnumT K ta σ H R
theorem pi_enumA {X : Cx} {e : Expr} {ta : TA} {p pos tpos : Pos} {elts : List Expr} {kk : Nat} (hg : Gl X "enumerate") (hm : X.mg "enumerate" = none) (ha : PA X [e] ta) (hs : starEach [e] X.env = [(false, eval e X.env)] := by rfl) :
    PI X (.Tuple elts kk tpos) (.Call (.Name "enumerate" p) [e] [] pos) (iEnumA X.K ta) := ⟨fun pins s σ H R I h => h.elim ((pi_enum hg hm ha hs).run pins s σ H R I) ((pi_enumT hg hm ha hs).run pins s σ H R I)⟩
def enuD (i : Nat) : List D → List D
  | [] => []
  | d :: r => .tup [.int (i : Nat), d] :: enuD (i + 1) r
theorem enuD_len : ∀ (ds : List D) (i : Nat), (enuD i ds).length = ds.length
  | [], _ => rfl
  | d :: r, i => congrArg (· + 1) (enuD_len r (i + 1))
theorem enuD_get : ∀ (ds : List D) (k i : Nat) (d : D), (enuD k ds)[i]? = some d → ∃ x, ds[i]? = some x ∧ d = .tup [.int ((k + i : Nat) : Int), x]
  | [], _, _, _, h => by simp [enuD] at h
  | e :: r, k, 0, d, h => by
    cases h
    exact ⟨e, rfl, rfl⟩
  | e :: r, k, i + 1, d, h => by
    obtain ⟨x, h1, h2⟩ := enuD_get r (k + 1) i d h
    exact ⟨x, h1, by rw [h2, show k + 1 + i = k + (i + 1) by omega]⟩
def cEnum (m : AM) : AM := fun sl => (m sl).bind fun as s => match as with
  | [d] => ofO ((seqD d).map (enuD 0)) s
  | _ => .bad
theorem enu_yld {K : PySem.W.Frag} {H : Hp} {U : Addr → Prop} {T : Addr} {x : V} {d : D} {i : Nat} (hU : HidOk H U) (n : H T = none) (r : Rep K (Hm H U) d x) : Same H (upd H T (.tup [.int (i : Nat), x])) ∧ Rep K (Hm (upd H T (.tup [.int (i : Nat), x])) U) (.tup [.int ((0 + i : Nat) : Int), d]) (.ref T) := by
  have e : Same H (upd H T (.tup [.int (i : Nat), x])) := same_upd n
  refine ⟨e, .tup (vs := [.int (i : Nat), x]) (Hm_some.mpr ⟨hU T (.inl n), upd_same⟩) ?_⟩
  rw [Nat.zero_add]
  exact .cons (.int _) (.cons (r.le (Hm_same (Le.of_same e))) .nil)
theorem itOk_enumL {K : PySem.W.Frag} {a : Addr} {vs : List V} {ds : List D} {F0 : Hp} (h : F0 a = some (.lst vs)) (r : Reps K F0 ds vs) : ItOk K (Ite K a) (enuD 0 ds) F0 := fun i H U l hU => by
  have ha : H a = some (.lst vs) := (Hm_some.mp (l _ _ h nt_lst)).2
  refine ⟨fun q => ⟨vs, SqL.of ha, by rw [← r.length, ← enuD_len ds 0]; exact q⟩, fun d e => ?_⟩
  obtain ⟨x, e1, rfl⟩ := enuD_get _ _ _ _ e
  obtain ⟨v, e2, e3⟩ := r.get e1
  refine ⟨⟨vs, v, SqL.of ha, e2⟩, fun y H' yl => ?_⟩
  obtain ⟨T, x', rfl, n, rfl, q⟩ := yl
  have z := q vs (SqL.of ha)
  rw [e2] at z
  cases z
  exact enu_yld hU n (e3.le l)
theorem itOk_enumT {K : PySem.W.Frag} {a : Addr} {vs : List V} {ds : List D} {F0 : Hp} (h : F0 a = some (.tup vs)) (r : Reps K F0 ds vs) : ItOk K (IteT K a) (enuD 0 ds) F0 := fun i H U l hU => by
  have ha : SqT K H a vs := SqT.of (Hm_some.mp (l _ _ h nt_tup)).2
  refine ⟨fun q => ⟨vs, ha, by rw [← r.length, ← enuD_len ds 0]; exact q⟩, fun d e => ?_⟩
  obtain ⟨x, e1, rfl⟩ := enuD_get _ _ _ _ e
  obtain ⟨v, e2, e3⟩ := r.get e1
  refine ⟨⟨vs, v, ha, e2⟩, fun y H' yl => ?_⟩
  obtain ⟨T, x', rfl, n, rfl, q⟩ := yl
  have z := q vs ha
  rw [e2] at z
  cases z
  exact enu_yld hU n (e3.le l)
instance {K : PySem.W.Frag} {W : WX} {ta : TA} {ma : AM} [ha : AX K W ta ma] : IX K W (iEnumA K ta) (cEnum ma) := ⟨fun c σ H sl R s h => by
  unfold cEnum at h
  cases e : ma sl with
  | bad => rw [e] at h; exact h.elim
  | exn x s1 =>
    rw [e] at h
    refine .inl (ha.ok c σ H sl _ s ?_)
    rw [e]
    exact h
  | ok as s1 =>
    rw [e] at h
    cases as with
    | nil => exact h.elim
    | cons d as =>
      cases as with
      | cons _ _ => exact h.elim
      | nil =>
        cases d with
        | tup ds =>
          refine .inr (ha.ok c σ H sl _ s ?_)
          rw [e]
          intro x H1 i1 r1 l1
          cases r1 with
          | cons ra rr =>
            cases rr
            cases ra with
            | @tup a vs _ hs r => exact ⟨a, vs, rfl, SqT.of (Hm_some.mp hs).2, h _ H1 i1 (itOk_enumT hs r) l1⟩
        | lst ds =>
          refine .inl (ha.ok c σ H sl _ s ?_)
          rw [e]
          intro x H1 i1 r1 l1
          cases r1 with
          | cons ra rr =>
            cases rr
            cases ra with
            | @lst a vs _ hs r => exact ⟨a, vs, rfl, SqL.of (Hm_some.mp hs).2, h _ H1 i1 (itOk_enumL hs r) l1⟩
        | _ => exact h.elim⟩
end DL
set_option linter.all false
set_option autoImplicit false
set_option maxRecDepth 100000
/-! DlK: calls of built-ins. -/
namespace DL
open PySem PySem.Spec L2

theorem reps1 {K : PySem.W.Frag} {A : Hp} {a : D} {vs : List V} (r : Reps K A [a] vs) : ∃ v, vs = [v] ∧ Rep K A a v := by
  cases r with
  | cons h t => cases t; exact ⟨_, rfl, h⟩
theorem reps2 {K : PySem.W.Frag} {A : Hp} {a b : D} {vs : List V} (r : Reps K A [a, b] vs) : ∃ v w, vs = [v, w] ∧ Rep K A a v ∧ Rep K A b w := by
  cases r with
  | cons h t => obtain ⟨w, rfl, q⟩ := reps1 t; exact ⟨_, _, rfl, h, q⟩

/-! ### len -/
def rLenA (K : PySem.W.Frag) : List V → Hp → VK → Prop := fun xs H Q => (∃ x n, xs = [x] ∧ LenV K x H n ∧ Q (.int n) H) ∨ ((∃ a kvs, xs = [V.ref a] ∧ H a = some (.dK kvs) ∧ Q (.int kvs.length) H) ∨ rLenT xs H Q)
theorem cr_lenA {X : Cx} : CallR X (.builtin "len") (rLenA X.K) := CallR.or call_len (CallR.or call_lenD call_len_dT)
def lenD : List D → Option D
  | [.str x] => if x.length ≤ sizeLine then some (.int (x.length : Nat)) else none
  | [.lst xs] => some (.int (xs.length : Nat))
  | [.tup xs] => some (.int (xs.length : Nat))
  | [.dK ks _] => some (.int (ks.length : Nat))
  | [.dT ks _] => some (.int (ks.length : Nat))
  | _ => none
instance (K : PySem.W.Frag) : OpL K (rLenA K) lenD := ⟨fun H U xs as z Q hU r e h => by
  cases r with
  | nil => cases e
  | cons ra rr =>
    cases rr with
    | cons _ _ => cases ra <;> cases e
    | nil =>
      cases ra with
      | str x =>
        unfold lenD at e
        by_cases q : x.length ≤ sizeLine
        · simp only [q, if_true] at e
          cases e
          exact .inl ⟨_, _, rfl, ⟨q, rfl⟩, h _ H (Same.refl _) (.int _)⟩
        · simp only [q, if_false] at e; cases e
      | lst s r =>
        cases e
        exact .inl ⟨_, _, rfl, .inl ⟨_, SqL.of (Hm_some.mp s).2, rfl⟩, h _ H (Same.refl _) (by rw [r.length]; exact .int _)⟩
      | tup s r =>
        cases e
        exact .inl ⟨_, _, rfl, .inr ⟨_, SqT.of (Hm_some.mp s).2, rfl⟩, h _ H (Same.refl _) (by rw [r.length]; exact .int _)⟩
      | dK s l r =>
        cases e
        refine .inr (.inl ⟨_, _, rfl, (Hm_some.mp s).2, h _ H (Same.refl _) ?_⟩)
        rw [List.length_zip, ← l, Nat.min_self]
        exact .int _
      | dT s l r =>
        cases e
        refine .inr (.inr ⟨_, _, rfl, (Hm_some.mp s).2, h _ H (Same.refl _) ?_⟩)
        rw [List.length_zip, ← l, Nat.min_self]
        exact .int _
      | _ => cases e⟩

/-! ### numbers -/
def rAbs1 : List V → Hp → VK → Prop := fun xs H Q => ∃ i, xs = [.int i] ∧ Q (.int (if i < 0 then -i else i)) H
theorem cr_abs1 {X : Cx} : CallR X (.builtin "abs") rAbs1 := call_abs
def absD : List D → Option D
  | [.int i] => some (.int (if i < 0 then -i else i))
  | _ => none
instance (K : PySem.W.Frag) : OpL K rAbs1 absD := ⟨fun H U xs as z Q hU r e h => by
  cases r with
  | nil => cases e
  | cons ra rr =>
    cases rr with
    | cons _ _ => cases ra <;> cases e
    | nil =>
      cases ra with
      | int i => cases e; exact ⟨i, rfl, h _ H (Same.refl _) (.int _)⟩
      | _ => cases e⟩
def rInt1 : List V → Hp → VK → Prop := fun xs H Q => (∃ i, xs = [.int i] ∧ Q (.int i) H) ∨ ∃ k, xs = [.bl k] ∧ Q (.int (if k then 1 else 0)) H
theorem cr_int1 {X : Cx} : CallR X (.type "int") rInt1 := call_int1
def intD1 : List D → Option D
  | [.int i] => some (.int i)
  | _ => none
instance (K : PySem.W.Frag) : OpL K rInt1 intD1 := ⟨fun H U xs as z Q hU r e h => by
  cases r with
  | nil => cases e
  | cons ra rr =>
    cases rr with
    | cons _ _ => cases ra <;> cases e
    | nil =>
      cases ra with
      | int i => cases e; exact .inl ⟨i, rfl, h _ H (Same.refl _) (.int _)⟩
      | _ => cases e⟩
def rStr1 : List V → Hp → VK → Prop := fun xs H Q => (∃ i, xs = [.int i] ∧ i.natAbs.log2 < 1920 ∧ Q (.str (toString i)) H) ∨ ∃ a, xs = [.str a] ∧ Q (.str a) H
theorem cr_str1 {X : Cx} : CallR X (.type "str") rStr1 := CallR.or call_str_int SkE.call_str_str
def strOf : List D → Option D
  | [.int i] => if i.natAbs.log2 < 1920 then some (.str (toString i)) else none
  | [.str x] => some (.str x)
  | _ => none
instance (K : PySem.W.Frag) : OpL K rStr1 strOf := ⟨fun H U xs as z Q hU r e h => by
  cases r with
  | nil => cases e
  | cons ra rr =>
    cases rr with
    | cons _ _ => cases ra <;> cases e
    | nil =>
      cases ra with
      | int i =>
        unfold strOf at e
        by_cases q : i.natAbs.log2 < 1920
        · simp only [q, if_true] at e
          cases e
          exact .inl ⟨i, rfl, q, h _ H (Same.refl _) (.str _)⟩
        · simp only [q, if_false] at e; cases e
      | str x => cases e; exact .inr ⟨x, rfl, h _ H (Same.refl _) (.str _)⟩
      | _ => cases e⟩
def rMax2 : List V → Hp → VK → Prop := fun xs H Q => ∃ i j, xs = [.int i, .int j] ∧ Q (.int (if j > i then j else i)) H
theorem cr_max2 {X : Cx} (hc : X.calm = true) : CallR X (.builtin "max") rMax2 := call_max2 hc
def maxD2 : List D → Option D
  | [.int i, .int j] => some (.int (if j > i then j else i))
  | _ => none
instance (K : PySem.W.Frag) : OpL K rMax2 maxD2 := ⟨fun H U xs as z Q hU r e h => by
  cases r with
  | nil => cases e
  | cons ra rr =>
    cases rr with
    | nil => cases ra <;> cases e
    | cons rb rr =>
      cases rr with
      | cons _ _ => cases ra <;> cases rb <;> cases e
      | nil =>
        cases ra with
        | int i =>
          cases rb with
          | int j => cases e; exact ⟨i, j, rfl, h _ H (Same.refl _) (.int _)⟩
          | _ => cases e
        | _ => cases e⟩

/-! ### list, tuple -/
/-- a dict's keys as data -/
def kD : Key → D
  | .inl i => .int i
  | .inr x => .str x
def tkD (k : List Key) : D := .tup (k.map kD)
theorem rep_kD {K : PySem.W.Frag} {A : Hp} : ∀ k : Key, Rep K A (kD k) (kV k)
  | .inl i => .int i
  | .inr x => .str x
theorem reps_kD {K : PySem.W.Frag} {A : Hp} : ∀ ks : List Key, Reps K A (ks.map kD) (ks.map kV)
  | [] => .nil
  | k :: r => .cons (rep_kD k) (reps_kD r)
theorem rep_tkD {K : PySem.W.Frag} {A : Hp} {k : List Key} {q : Addr} (h : A q = some (.tup (k.map kV))) : Rep K A (tkD k) (.ref q) := .tup h (reps_kD k)
theorem reps_keysT {K : PySem.W.Frag} {H : Hp} {U : Addr → Prop} (hU : HidOk H U) {kvs : List (List Key × V)} {bs : List Addr} (p : IsKeys H kvs bs) : Reps K (Hm H U) (kvs.map fun x => tkD x.1) (bs.map V.ref) := by
  unfold IsKeys at p
  induction p with
  | nil => exact .nil
  | cons h t ih => exact .cons (rep_tkD (Hm_some.mpr ⟨hU _ (.inr ⟨_, h⟩), h⟩)) ih
theorem zip_keysT {ks : List (List Key)} {vs : List V} (l : ks.length = vs.length) : ((ks.zip vs).map fun x => tkD x.1) = ks.map tkD := by
  rw [show (fun x : List Key × V => tkD x.1) = tkD ∘ Prod.fst from rfl, ← List.map_map, List.map_fst_zip (by omega)]
theorem zip_keysK {ks : List Key} {vs : List V} (l : ks.length = vs.length) : ((ks.zip vs).map fun x => kV x.1) = ks.map kV := by
  rw [show (fun x : Key × V => kV x.1) = kV ∘ Prod.fst from rfl, ← List.map_map, List.map_fst_zip (by omega)]
def rListD : List V → Hp → VK → Prop := fun xs H Q => (∃ d kvs, xs = [V.ref d] ∧ Rd H d (.dT kvs) ∧ ∀ p bs, H p = none → IsKeys H kvs bs → Q (.ref p) (upd H p (.lst (bs.map V.ref)))) ∨
  ∃ (a : Addr) (kvs : List (Key × V)), xs = [.ref a] ∧ Rd H a (.dK kvs) ∧ ∀ p, H p = none → Q (.ref p) (upd H p (.lst (kvs.map fun kv => kV kv.1)))
def rList1 (K : PySem.W.Frag) : List V → Hp → VK → Prop := fun xs H Q => (∃ p ys, xs = [.ref p] ∧ (SqL K H p ys ∨ SqT K H p ys) ∧ ∀ l, H l = none → Q (.ref l) (upd H l (.lst ys))) ∨ rListD xs H Q
theorem cr_list1 {X : Cx} (hc : X.calm = true) : CallR X (.type "list") (rList1 X.K) := CallR.or call_list_of (CallR.or (call_list_dT hc) (call_listD hc))
def listD : List D → Option MO
  | [.lst xs] => some (.lst xs)
  | [.tup xs] => some (.lst xs)
  | [.dT ks _] => some (.lst (ks.map tkD))
  | [.dK ks _] => some (.lst (ks.map kD))
  | _ => none
instance list1_nx (K : PySem.W.Frag) : OpLN K (rList1 K) listD := ⟨fun H U xs as z Q hU r e h => by
  cases r with
  | nil => cases e
  | cons ra rr =>
    cases rr with
    | cons _ _ => cases ra <;> cases e
    | nil =>
      cases ra with
      | lst s r => cases e; exact .inl ⟨_, _, rfl, .inl (SqL.of (Hm_some.mp s).2), fun l n => h l _ n ⟨_, rfl, r⟩⟩
      | tup s r => cases e; exact .inl ⟨_, _, rfl, .inr (SqT.of (Hm_some.mp s).2), fun l n => h l _ n ⟨_, rfl, r⟩⟩
      | dT s l r =>
        cases e
        refine .inr (.inl ⟨_, _, rfl, Rd.of (Hm_some.mp s).2, fun p bs n ik => h p _ n ⟨_, rfl, ?_⟩⟩)
        have q := reps_keysT (K := K) hU ik
        rw [zip_keysT l] at q
        exact q
      | dK s l r =>
        cases e
        refine .inr (.inr ⟨_, _, rfl, Rd.of (Hm_some.mp s).2, fun p n => h p _ n ⟨_, rfl, ?_⟩⟩)
        rw [zip_keysK l]
        exact reps_kD _
      | _ => cases e⟩
def rTup1 (K : PySem.W.Frag) : List V → Hp → VK → Prop := fun xs H Q => ∃ p ys, xs = [.ref p] ∧ ((SqL K H p ys ∧ ∀ l, H l = none → Q (.ref l) (upd H l (.tup ys))) ∨ (SqT K H p ys ∧ Q (.ref p) H))
theorem cr_tup1 {X : Cx} : CallR X (.type "tuple") (rTup1 X.K) := call_tuple_of
def tupD : List D → Option D
  | [.lst xs] => some (.tup xs)
  | [.tup xs] => some (.tup xs)
  | _ => none
instance (K : PySem.W.Frag) : OpL K (rTup1 K) tupD := ⟨fun H U xs as z Q hU r e h => by
  cases r with
  | nil => cases e
  | cons ra rr =>
    cases rr with
    | cons _ _ => cases ra <;> cases e
    | nil =>
      cases ra with
      | @lst a vs ds s r =>
        cases e
        refine ⟨_, _, rfl, .inl ⟨SqL.of (Hm_some.mp s).2, fun l n => ?_⟩⟩
        have sm : Same H (upd H l (.tup vs)) := same_upd n
        exact h _ _ sm (.tup (Hm_some.mpr ⟨hU l (.inl n), upd_same⟩) (r.le (Hm_same (Le.of_same sm))))
      | @tup a vs ds s r => cases e; exact ⟨_, _, rfl, .inr ⟨SqT.of (Hm_some.mp s).2, h _ H (Same.refl _) (.tup s r)⟩⟩
      | _ => cases e⟩

/-! ### all, any -/
def blsD : List D → Option (List Bool)
  | [] => some []
  | .bl k :: r => (blsD r).map (k :: ·)
  | _ => none
theorem reps_bls {K : PySem.W.Frag} {A : Hp} : ∀ {ds : List D} {vs : List V} {bs : List Bool}, Reps K A ds vs → blsD ds = some bs → vs = bs.map V.bl
  | _, _, _, .nil, e => by cases e; rfl
  | _, _, bs, .cons a b, e => by
    cases a with
    | @bl k =>
      unfold blsD at e
      rename_i ds vs
      cases q : blsD ds with
      | none => rw [q] at e; cases e
      | some r => rw [q] at e; cases e; rw [List.map_cons, reps_bls b q]
    | _ => cases e
def allD : List D → Option D
  | [.lst xs] => (blsD xs).map fun bs => .bl (bs.all id)
  | _ => none
def anyD : List D → Option D
  | [.lst xs] => (blsD xs).map fun bs => .bl (bs.any id)
  | _ => none
instance (K : PySem.W.Frag) : OpL K (rAll K) allD := ⟨fun H U xs as z Q hU r e h => by
  cases r with
  | nil => cases e
  | cons ra rr =>
    cases rr with
    | cons _ _ => cases ra <;> cases e
    | nil =>
      cases ra with
      | @lst a vs ds s r =>
        unfold allD at e
        cases q : blsD ds with
        | none => simp only [q, Option.map] at e; cases e
        | some bs =>
          simp only [q, Option.map] at e
          cases e
          exact ⟨a, bs, rfl, by rw [← reps_bls r q]; exact SqL.of (Hm_some.mp s).2, h _ H (Same.refl _) (.bl _)⟩
      | _ => cases e⟩
instance (K : PySem.W.Frag) : OpL K (rAny K) anyD := ⟨fun H U xs as z Q hU r e h => by
  cases r with
  | nil => cases e
  | cons ra rr =>
    cases rr with
    | cons _ _ => cases ra <;> cases e
    | nil =>
      cases ra with
      | @lst a vs ds s r =>
        unfold anyD at e
        cases q : blsD ds with
        | none => simp only [q, Option.map] at e; cases e
        | some bs =>
          simp only [q, Option.map] at e
          cases e
          exact ⟨a, bs, rfl, by rw [← reps_bls r q]; exact SqL.of (Hm_some.mp s).2, h _ H (Same.refl _) (.bl _)⟩
      | _ => cases e⟩

/-! ### dict of a list of pairs -/
theorem KT.mrg {H : Hp} : ∀ {ps : List (List Key × V)} {qs : List (List Key × Addr × Value)} {kvs : List (List Key × V)} {xs : List (List Key × Addr × Value)}, KT H ps qs → KT H kvs xs →
    KT H (ps.foldl (fun acc kv => putK acc kv.1 kv.2) kvs) (storedAllH xs qs) := by
  intro ps qs kvs xs r
  induction r generalizing kvs xs with
  | nil => intro q; exact q
  | @cons p q ps qs h t ih =>
    intro r2
    obtain ⟨h1, h2, h3⟩ := h
    refine ih (kvs := putK kvs p.1 p.2) (xs := storedH xs q.1 q.2.1 q.2.2) ?_
    rw [← h1]
    exact r2.put p.1 h2 h3
theorem mrg_len {κ : Type} [DecidableEq κ] : ∀ (ps : List (κ × V)) (kvs : List (κ × V)), (ps.foldl (fun acc kv => putK acc kv.1 kv.2) kvs).length ≤ kvs.length + ps.length
  | [], kvs => Nat.le_refl _
  | p :: r, kvs => by
    have h1 := mrg_len r (putK kvs p.1 p.2)
    have h2 := length_putK kvs p.1 p.2
    rw [List.foldl_cons, List.length_cons]
    omega
/-- the keys are tuples that lie at bs -/
structure PairsT (K : PySem.W.Frag) (H : Hp) (ps bs : List Addr) (kvs : List (List Key × V)) : Prop where
  pr : Paired (fun (p : Addr) (q : Addr × List Key × V) => SqT K H p [.ref q.1, q.2.2] ∧ H q.1 = some (.tup (q.2.1.map kV))) ps (bs.zip kvs)
  len : bs.length = kvs.length
theorem pairsT_of {X : Cx} {pins : List (Addr × Obj)} {σ : L2.St} {H : Hp} {s : Shared} (I : Inv X pins σ H s) : ∀ {ps : List Addr} {qs : List (Addr × List Key × V)},
    Paired (fun (p : Addr) (q : Addr × List Key × V) => SqT X.K H p [.ref q.1, q.2.2] ∧ H q.1 = some (.tup (q.2.1.map kV))) ps qs →
    ∃ xs : List (List Key × Addr × Value), KT H (qs.map (·.2)) xs ∧ xs.length = ps.length ∧ (∀ (j : Nat) (x : List Key × Addr × Value), xs[j]? = some x → ∃ b, ps[j]? = some b ∧ s.heap.IsTuple b #[.ref x.2.1, x.2.2]) ∧ ∀ x ∈ xs, H x.2.1 = some (.tup (x.1.map kV))
  | _, _, .nil => ⟨[], .nil, rfl, fun j q e => by simp at e, fun x hx => by cases hx⟩
  | _, _, .cons (a := p) (b := q) h t => by
    obtain ⟨xs, r, hl, hp, hk⟩ := pairsT_of I t
    obtain ⟨its, rv, ht, _⟩ := I.tuple h.1
    obtain ⟨u, y, rfl, ru, ry⟩ := vals2 rv
    cases ru
    refine ⟨(q.2.1, q.1, y) :: xs, .cons ⟨rfl, h.2, ry⟩ r, by rw [List.length_cons, List.length_cons, hl], fun j x e => ?_, fun x hx => ?_⟩
    · cases j with
      | zero => cases e; exact ⟨p, rfl, ht⟩
      | succ j =>
        obtain ⟨b, e1, e2⟩ := hp j x (by simpa using e)
        exact ⟨b, by simpa using e1, e2⟩
    · rcases List.mem_cons.mp hx with rfl | hx
      · exact h.2
      · exact hk x hx
def rDictT (K : PySem.W.Frag) : List V → Hp → VK → Prop := fun xs H Q => ∃ (a : Addr) (ps bs : List Addr) (kvs : List (List Key × V)), xs = [.ref a] ∧ SqL K H a (ps.map V.ref) ∧ PairsT K H ps bs kvs ∧
  ∀ p, H p = none → Q (.ref p) (upd H p (.dT (kvs.foldl (fun acc kv => putK acc kv.1 kv.2) [])))
theorem Paired.get {α β : Type} {R : α → β → Prop} : ∀ {as : List α} {bs : List β}, Paired R as bs → as.length = bs.length
  | _, _, .nil => rfl
  | _, _, .cons h t => by rw [List.length_cons, List.length_cons, Paired.get t]
theorem cr_dictT {X : Cx} (hc : X.calm = true) (hu : X.A.units + 4 < cLine) : CallR X (.type "dict") (rDictT X.K) := by
  intro pins s σ H xs us Q I r q
  obtain ⟨a, ps, bs, kvs, rfl, hq, hp, q⟩ := q
  obtain ⟨u, rfl, rx⟩ := vals1 r
  cases rx
  obtain ⟨its, rv, pl, hz⟩ := I.list hq
  obtain rfl := refs_at rv
  rw [List.length_map] at hz
  obtain ⟨ys, rel, hl, hpr, hks⟩ := pairsT_of I hp.pr
  have hm : ((bs.zip kvs).map (·.2)) = kvs := by
    rw [List.map_snd_zip]
    exact Nat.le_of_eq hp.len.symm
  rw [hm] at rel
  have par := PairArg.list (prog := X.prog) (w := X.w) a (ps.map Value.ref).toArray (fun j => ps.getD j 0) (ys.map fun x => (Value.ref x.2.1, x.2.2))
  refine call_dict_pairsH (knd := tupleKind (mixKind X.prog X.w)) (ps := ys) par (I.ok.hd hc) ?_ ⟨pl, ?_, fun j k v e => ?_⟩ ⟨?_, fun j k v e => ?_⟩ (fun h2 keep x hx => ?_) ?_ fun h2 tk d2 keep => ?_
  · show X.A.units + 1 + 1 < cLine
    omega
  · simp [hl]
  · rw [List.getElem?_map] at e
    cases e1 : ys[j]? with
    | none => rw [e1] at e; cases e
    | some x =>
      rw [e1] at e
      cases e
      obtain ⟨b, e2, e3⟩ := hpr j x e1
      have e4 : ps.getD j 0 = b := by rw [List.getD_eq_getElem?_getD, e2] <;> rfl
      show _ ∧ PairAt s.heap (ps.getD j 0) _ _
      rw [e4]
      exact ⟨by simp [e2], .inl e3⟩
  · rw [List.length_map]
  · have e : (ys.map fun x => (Value.ref x.2.1, x.2.2))[j]? = some (k, v) := e
    rw [List.getElem?_map] at e
    cases e1 : ys[j]? with
    | none => rw [e1] at e; cases e
    | some x =>
      rw [e1] at e
      cases e
      exact ⟨x.1, x.2.1, rfl, rfl⟩
  · obtain ⟨o, is, n, g1, g2, g3, g4⟩ := key_of I.hok (hks x hx)
    exact ⟨o, is, n, keep _ o (Nat.ne_of_lt (Heap.lt_size g1)) List.not_mem_nil g1, g2, g3, g4⟩
  · rw [List.length_map, hl]
    exact hz
  · have km := KT.mrg (kvs := []) (xs := []) rel .nil
    have ln := mrg_len kvs []
    have lk : kvs.length ≤ sizeLine := by
      have := Paired.length rel
      omega
    obtain ⟨o, es, ep, g, m1, m2, m3, _, m4⟩ := d2
    refine ⟨.ref s.heap.objs.size, upd H s.heap.objs.size (.dT (kvs.foldl (fun acc kv => putK acc kv.1 kv.2) [])), I.laid (t' := tk) (fun b o e => keep b o List.not_mem_nil e) (Nat.le_refl _) ?_, rfl, q _ (I.hok.fresh (Nat.le_refl _))⟩
    refine ⟨by rw [List.length_nil] at ln; omega, beq_eq_false_iff_ne.mpr (Nat.ne_of_gt I.big), _, km.keeps fun c ws ec => ?_, o, es, ep, g, m1, m2, m3, m4⟩
    rw [upd_ne (ne_of_none ec (I.hok.fresh (Nat.le_refl _)))]
    exact ec

def rDictP (K : PySem.W.Frag) : List V → Hp → VK → Prop := fun xs H Q => ∃ (a : Addr) (ps : List Addr) (kvs : List (Key × V)), xs = [.ref a] ∧ SqL K H a (ps.map V.ref) ∧ Paired (fun p kv => SqT K H p [kV kv.1, kv.2]) ps kvs ∧ ∀ p, H p = none → Q (.ref p) (upd H p (.dK (mergeK [] kvs)))
def rDictA (K : PySem.W.Frag) : List V → Hp → VK → Prop := fun xs H Q => rDictT K xs H Q ∨ rDictP K xs H Q
theorem cr_dictA {X : Cx} (hc : X.calm = true) (hu : X.A.units + 4 < cLine) : CallR X (.type "dict") (rDictA X.K) := CallR.or (cr_dictT hc hu) (call_dictP hc)
def pairsOf {κ : Type} (kf : D → Option κ) : List D → Option (List (κ × D))
  | [] => some []
  | .tup [x, z] :: r => (match kf x, pairsOf kf r with
    | some k, some q => some ((k, z) :: q)
    | _, _ => none)
  | _ => none
def mrgD {κ : Type} [DecidableEq κ] (ks : List κ) (ds : List D) : List (κ × D) → List κ × List D
  | [] => (ks, ds)
  | p :: r => mrgD (putKs ks p.1) (putDs ks ds p.1 p.2) r
theorem mrg_rep {K : PySem.W.Frag} {A : Hp} {κ : Type} [DecidableEq κ] : ∀ {ps : List (κ × D)} {kvs : List (κ × V)} {ks : List κ} {ds : List D} {vs : List V}, Paired (fun (p : κ × D) (q : κ × V) => p.1 = q.1 ∧ Rep K A p.2 q.2) ps kvs → ks.length = vs.length → Reps K A ds vs →
    ∃ vs', kvs.foldl (fun acc kv => putK acc kv.1 kv.2) (ks.zip vs) = (mrgD ks ds ps).1.zip vs' ∧ (mrgD ks ds ps).1.length = vs'.length ∧ Reps K A (mrgD ks ds ps).2 vs'
  | _, _, ks, ds, vs, .nil, hl, r => ⟨vs, rfl, hl, r⟩
  | _, _, ks, ds, vs, .cons (a := p) (b := q) h t, hl, r => by
    obtain ⟨h1, h2⟩ := h
    obtain ⟨e1, e2⟩ := putK_zip (k := q.1) (v := q.2) hl
    rw [List.foldl_cons, e1]
    have z := mrg_rep (ks := putKs ks q.1) (ds := putDs ks ds q.1 p.2) t e2 (reps_putDs h2 r)
    unfold mrgD
    rw [h1]
    exact z
def dictD : List D → Option MO
  | [.lst xs] => (match pairsOf tkeyOf xs with
    | some ps => some (.dT (mrgD [] [] ps).1 (mrgD [] [] ps).2)
    | none => (match pairsOf keyOf xs with
      | some ps => some (.dK (mrgD [] [] ps).1 (mrgD [] [] ps).2)
      | none => none))
  | _ => none
theorem pairsOf_cons {κ : Type} {kf : D → Option κ} {d : D} {r : List D} {ps : List (κ × D)} (h : pairsOf kf (d :: r) = some ps) : ∃ x z k q, d = .tup [x, z] ∧ kf x = some k ∧ pairsOf kf r = some q ∧ ps = (k, z) :: q := by
  unfold pairsOf at h
  split at h
  · rename_i h'; cases h'
  · rename_i x z r' h'
    cases h'
    split at h
    · rename_i k q e1 e2
      cases h
      exact ⟨x, z, k, q, rfl, e1, e2, rfl⟩
    · cases h
  · cases h
theorem pairsT_reps {K : PySem.W.Frag} {A H : Hp} (l : Le A H) : ∀ {ds : List D} {vs : List V} {ps : List (List Key × D)}, Reps K A ds vs → pairsOf tkeyOf ds = some ps →
    ∃ (as bs : List Addr) (kvs : List (List Key × V)), vs = as.map V.ref ∧ PairsT K H as bs kvs ∧ Paired (fun (p : List Key × D) (q : List Key × V) => p.1 = q.1 ∧ Rep K A p.2 q.2) ps kvs
  | _, _, _, .nil, e => by cases e; exact ⟨[], [], [], rfl, ⟨.nil, rfl⟩, .nil⟩
  | _, _, _, .cons a b, e => by
    obtain ⟨x, z, k, q, rfl, e1, e2, rfl⟩ := pairsOf_cons e
    obtain ⟨as, bs, kvs, h1, ⟨h2, h3⟩, h4⟩ := pairsT_reps l b e2
    cases a with
    | @tup p ws _ s r =>
      obtain ⟨v, w, rfl, r1, r2⟩ := reps2 r
      obtain ⟨c, rfl, hc⟩ := tkey_rep l r1 e1
      exact ⟨p :: as, c :: bs, (k, w) :: kvs, by rw [h1]; rfl, ⟨.cons ⟨SqT.of (l _ _ s nt_tup), hc⟩ h2, congrArg (· + 1) h3⟩, .cons ⟨rfl, r2⟩ h4⟩
theorem pairsK_reps {K : PySem.W.Frag} {A H : Hp} (l : Le A H) : ∀ {ds : List D} {vs : List V} {ps : List (Key × D)}, Reps K A ds vs → pairsOf keyOf ds = some ps →
    ∃ (as : List Addr) (kvs : List (Key × V)), vs = as.map V.ref ∧ Paired (fun p kv => SqT K H p [kV kv.1, kv.2]) as kvs ∧ Paired (fun (p : Key × D) (q : Key × V) => p.1 = q.1 ∧ Rep K A p.2 q.2) ps kvs
  | _, _, _, .nil, e => by cases e; exact ⟨[], [], rfl, .nil, .nil⟩
  | _, _, _, .cons a b, e => by
    obtain ⟨x, z, k, q, rfl, e1, e2, rfl⟩ := pairsOf_cons e
    obtain ⟨as, kvs, h1, h2, h4⟩ := pairsK_reps l b e2
    cases a with
    | @tup p ws _ s r =>
      obtain ⟨v, w, rfl, r1, r2⟩ := reps2 r
      rw [rep_key r1 e1] at s
      exact ⟨p :: as, (k, w) :: kvs, by rw [h1]; rfl, .cons (SqT.of (l _ _ s nt_tup)) h2, .cons ⟨rfl, r2⟩ h4⟩
instance dict_nx (K : PySem.W.Frag) : OpLN K (rDictA K) dictD := ⟨fun H U xs as z Q hU r e h => by
  cases r with
  | nil => cases e
  | cons ra rr =>
    cases rr with
    | cons _ _ => cases ra <;> cases e
    | nil =>
      cases ra with
      | @lst a vs ds s r =>
        unfold dictD at e
        cases e1 : pairsOf tkeyOf ds with
        | some ps =>
          simp only [e1] at e
          cases e
          obtain ⟨as, bs, kvs, rfl, hp, hr⟩ := pairsT_reps Hm_le r e1
          obtain ⟨vs', m1, m2, m3⟩ := mrg_rep (ks := []) (ds := []) (vs := []) hr rfl .nil
          refine .inl ⟨a, as, bs, kvs, rfl, SqL.of (Hm_some.mp s).2, hp, fun p n => h p _ n ⟨vs', ?_, m2, m3⟩⟩
          rw [← m1] <;> rfl
        | none =>
          simp only [e1] at e
          cases e2 : pairsOf keyOf ds with
          | none => simp only [e2] at e; cases e
          | some ps =>
            simp only [e2] at e
            cases e
            obtain ⟨as, kvs, rfl, hp, hr⟩ := pairsK_reps (Hm_le (H := H) (U := U)) r e2
            obtain ⟨vs', m1, m2, m3⟩ := mrg_rep (ks := []) (ds := []) (vs := []) hr rfl .nil
            refine .inr ⟨a, as, kvs, rfl, SqL.of (Hm_some.mp s).2, hp, fun p n => h p _ n ⟨vs', ?_, m2, m3⟩⟩
            rw [← m1] <;> rfl
      | _ => cases e⟩
instance fzcb {K : PySem.W.Frag} {W : WX} {tr : TA} {mr : AM} [ha : AX K W tr mr] : EX K W (tCB (rDictA K) tr) (cFz (cCBN dictD mr)) := (cb_nx).ex
instance fzls {K : PySem.W.Frag} {W : WX} {tr : TA} {mr : AM} [ha : AX K W tr mr] : EX K W (tCB (rList1 K) tr) (cFz (cCBN listD mr)) := (cb_nx).ex
end DL
set_option linter.all false
set_option autoImplicit false
set_option maxRecDepth 100000
/-! DlL: objects that a slot owns, looked at and written. -/
namespace DL
open PySem PySem.Spec L2

def scal : D → Bool
  | .non => true
  | .bl _ => true
  | .int _ => true
  | .str _ => true
  | _ => false
theorem rep_scal {K : PySem.W.Frag} {A B : Hp} {d : D} {v : V} (h : scal d = true) (r : Rep K A d v) : Rep K B d v := by
  cases r with
  | non => exact .non
  | bl b => exact .bl b
  | int i => exact .int i
  | str x => exact .str x
  | _ => cases h
section
variable {K : PySem.W.Frag} {W : WX} {c : Ct} {σ : L2.St} {H : Hp} {sl : List S}
theorem hid_own {i : Nat} {m : MO} {a : Addr} (g : gS sl i = .o m) (h : σ[i]? = some (some (.ref a))) : Hid c sl σ a := .inr ⟨i, m, gS_some g (fun q => nomatch q), h⟩
/-- all that is told, and the object at a -/
abbrev But (c : Ct) (sl : List S) (σ : L2.St) (a : Addr) : Addr → Prop := fun b => Hid c sl σ b ∧ b ≠ a
theorem but_le {a : Addr} : Le (fz c sl σ H) (Hm H (But c sl σ a)) := Hm_sub fun b q => q.1
theorem but_rep {m : MO} {a : Addr} {o : HO} (h : H a = some o) (r : HORep K (fz c sl σ H) m o) : Rep K (Hm H (But c sl σ a)) m.toD (.ref a) := (r.le but_le).toD (Hm_some.mpr ⟨fun q => q.2 rfl, h⟩)
theorem but_hid {a : Addr} (s : Sim K c sl σ H) : HidOk H (But c sl σ a) := fun p n q => n.elim (fun n => s.fresh n q.1) fun ⟨_, n⟩ => s.freshT n q.1
end
/-- an operation by values on the object that slot i owns; its result is no object -/
def cPkA (i : Nat) (f : D → D → Option D) (mb : EM) : EM := fun sl => match gS sl i with
  | .o _ => (mb sl).bind fun y s => (match gS s i with
    | .o m => (match f m.toD y with
      | some z => if scal z = true then .ok z s else .bad
      | none => .bad)
    | _ => .bad)
  | _ => .bad
def cPkB (i : Nat) (f : D → D → Option D) (ma : EM) : EM := fun sl => (ma sl).bind fun x s => (match gS s i with
    | .o m => (match f x m.toD with
      | some z => if scal z = true then .ok z s else .bad
      | none => .bad)
    | _ => .bad)
def cPkL (i : Nat) (f : List D → Option D) : EM := fun sl => match gS sl i with
  | .o m => (match f [m.toD] with
      | some z => if scal z = true then .ok z sl else .bad
      | none => .bad)
  | _ => .bad
/-- xs[k] -/
def cIxO (i : Nat) (mb : EM) : EM := fun sl => match gS sl i with
  | .o _ => (mb sl).bind fun y s => (match gS s i, y with
    | .o (.lst xs), .int k => ofO (atI xs k) s
    | _, _ => .bad)
  | _ => .bad
section
variable {K : PySem.W.Frag} {W : WX} {ta tb : TE} {ma mb : EM} {i : Nat}
instance pkA_ex {r : R2} {f : D → D → Option D} [hb : EX K W tb mb] [ho : Op2 K r f] : EX K W (tOp r (tVarB i) tb) (cPkA i f mb) := ⟨fun c σ H sl Q s h => by
  unfold cPkA at h
  cases g0 : gS sl i with
  | no => rw [g0] at h; exact h.elim
  | q n => rw [g0] at h; exact h.elim
  | v d => rw [g0] at h; exact h.elim
  | o m0 =>
    simp only [g0] at h
    obtain ⟨a, o0, hσ, _⟩ := get_o s g0
    refine ⟨.ref a, hσ, hb.ok c σ H sl _ s (h.split.imp fun y H1 ⟨b, s1, _, i1, r1, l1, h1⟩ => ?_)⟩
    cases g1 : gS s1 i with
    | no => simp only [g1] at h1; exact h1.elim
    | q n => simp only [g1] at h1; exact h1.elim
    | v d => simp only [g1] at h1; exact h1.elim
    | o m =>
      simp only [g1] at h1
      obtain ⟨a', o, hσ', nU, _, hH, hr⟩ := get_o i1 g1
      rw [hσ] at hσ'
      cases hσ'
      cases e : f m.toD b with
      | none => simp only [e] at h1; exact h1.elim
      | some z =>
        simp only [e] at h1
        by_cases q : scal z = true
        · simp only [q, if_true] at h1
          exact ho.ok H1 _ (.ref a) y m.toD b z Q (but_hid i1) (but_rep hH hr) (r1.le but_le) e fun u H2 sm ru => h1 u H2 (i1.same sm) (rep_scal q ru) (fz_same (Le.of_same sm))
        · simp only [q, if_false] at h1; exact h1.elim⟩
instance pkB_ex {r : R2} {f : D → D → Option D} [ha : EX K W ta ma] [ho : Op2 K r f] : EX K W (tOp r ta (tVarB i)) (cPkB i f ma) := ⟨fun c σ H sl Q s h => by
  refine ha.ok c σ H sl _ s (h.split.imp fun x H1 ⟨b, s1, _, i1, r1, l1, h1⟩ => ?_)
  cases g1 : gS s1 i with
  | no => simp only [g1] at h1; exact h1.elim
  | q n => simp only [g1] at h1; exact h1.elim
  | v d => simp only [g1] at h1; exact h1.elim
  | o m =>
    simp only [g1] at h1
    obtain ⟨a, o, hσ, nU, _, hH, hr⟩ := get_o i1 g1
    refine ⟨.ref a, hσ, ?_⟩
    cases e : f b m.toD with
    | none => simp only [e] at h1; exact h1.elim
    | some z =>
      simp only [e] at h1
      by_cases q : scal z = true
      · simp only [q, if_true] at h1
        exact ho.ok H1 _ x (.ref a) b m.toD z Q (but_hid i1) (r1.le but_le) (but_rep hH hr) e fun u H2 sm ru => h1 u H2 (i1.same sm) (rep_scal q ru) (fz_same (Le.of_same sm))
      · simp only [q, if_false] at h1; exact h1.elim⟩
instance (priority := high) pkL_ex {r : List V → Hp → VK → Prop} {f : List D → Option D} [ho : OpL K r f] : EX K W (tCB r (tCons (tVarB i) tNil)) (cPkL i f) := ⟨fun c σ H sl Q s h => by
  unfold cPkL at h
  cases g1 : gS sl i with
  | no => simp only [g1] at h; exact h.elim
  | q n => simp only [g1] at h; exact h.elim
  | v d => simp only [g1] at h; exact h.elim
  | o m =>
    simp only [g1] at h
    obtain ⟨a, o, hσ, nU, _, hH, hr⟩ := get_o s g1
    refine ⟨.ref a, hσ, ?_⟩
    cases e : f [m.toD] with
    | none => simp only [e] at h; exact h.elim
    | some z =>
      simp only [e] at h
      by_cases q : scal z = true
      · simp only [q, if_true] at h
        exact ho.ok H _ [.ref a] [m.toD] z Q (but_hid s) (.cons (but_rep hH hr) .nil) e fun u H2 sm ru => h u H2 (s.same sm) (rep_scal q ru) (fz_same (Le.of_same sm))
      · simp only [q, if_false] at h; exact h.elim⟩
instance (priority := high) ixO_ex [hb : EX K W tb mb] : EX K W (tOp (rIx K) (tVarB i) tb) (cIxO i mb) := ⟨fun c σ H sl Q s h => by
  unfold cIxO at h
  cases g0 : gS sl i with
  | no => rw [g0] at h; exact h.elim
  | q n => rw [g0] at h; exact h.elim
  | v d => rw [g0] at h; exact h.elim
  | o m0 =>
    simp only [g0] at h
    obtain ⟨a, o0, hσ, _⟩ := get_o s g0
    refine ⟨.ref a, hσ, hb.ok c σ H sl _ s (h.split.imp fun y H1 ⟨b, s1, _, i1, r1, l1, h1⟩ => ?_)⟩
    cases g1 : gS s1 i with
    | no => simp only [g1] at h1; exact h1.elim
    | q n => simp only [g1] at h1; exact h1.elim
    | v d => simp only [g1] at h1; exact h1.elim
    | o m =>
      obtain ⟨a', o, hσ', nU, _, hH, hr⟩ := get_o i1 g1
      rw [hσ] at hσ'
      cases hσ'
      cases m with
      | lst xs =>
        obtain ⟨vs, rfl, rx⟩ := hr
        cases r1 with
        | int k =>
          simp only [g1] at h1
          cases e : atI xs k with
          | none => rw [e] at h1; exact h1.elim
          | some d =>
            rw [e] at h1
            obtain ⟨v, e1, e2⟩ := reps_atI rx e
            exact .inl ⟨a, vs, k, v, rfl, rfl, SqL.of hH, e1, h1 v H1 i1 e2 Le.rfl⟩
        | _ => simp only [g1] at h1; exact h1.elim
      | _ => simp only [g1] at h1; exact h1.elim⟩
end

/-! ### methods -/
class MX (K : PySem.W.Frag) (r : V → List V → Hp → VK → Prop) (f : outParam (MO → List D → Option (D × MO))) : Prop where
  ok : ∀ (H : Hp) (U : Addr → Prop) (a : Addr) (m m' : MO) (o : HO) (vs : List V) (ds : List D) (z : D) (Q : VK), H a = some o → HORep K (Hm H U) m o → Reps K (Hm H U) ds vs → f m ds = some (z, m') →
    (∀ u o', HORep K (Hm H U) m' o' → Rep K (Hm H U) z u → Q u (upd H a o')) → r (.ref a) vs H Q
def apF : MO → List D → Option (D × MO)
  | .lst xs, [d] => if xs.length < sizeLine then some (.non, .lst (xs ++ [d])) else none
  | _, _ => none
instance (K : PySem.W.Frag) : MX K rAppend apF := ⟨fun H U a m m' o vs ds z Q hH hr rd e h => by
  cases m with
  | lst xs =>
    obtain ⟨ws, rfl, rx⟩ := hr
    cases rd with
    | nil => cases e
    | cons r1 rr =>
      cases rr with
      | cons _ _ => cases e
      | nil =>
        unfold apF at e
        by_cases q : xs.length < sizeLine
        · simp only [q, if_true] at e
          cases e
          exact ⟨a, ws, _, rfl, rfl, hH, by rw [← rx.length]; exact q, h _ _ ⟨_, rfl, rx.append (.cons r1 .nil)⟩ .non⟩
        · simp only [q, if_false] at e; cases e
  | _ => cases e⟩
def exF : MO → List D → Option (D × MO)
  | .lst xs, [.lst ys] => if xs.length + ys.length ≤ sizeLine then some (.non, .lst (xs ++ ys)) else none
  | _, _ => none
instance (K : PySem.W.Frag) : MX K rExtend exF := ⟨fun H U a m m' o vs ds z Q hH hr rd e h => by
  cases m with
  | lst xs =>
    obtain ⟨ws, rfl, rx⟩ := hr
    cases rd with
    | nil => cases e
    | cons r1 rr =>
      cases rr with
      | cons _ _ => cases r1 <;> cases e
      | nil =>
        cases r1 with
        | @lst b us ys s ry =>
          unfold exF at e
          by_cases q : xs.length + ys.length ≤ sizeLine
          · simp only [q, if_true] at e
            cases e
            exact ⟨a, b, ws, us, rfl, rfl, hH, (Hm_some.mp s).2, by rw [← rx.length, ← ry.length]; exact q, h _ _ ⟨_, rfl, rx.append ry⟩ .non⟩
          · simp only [q, if_false] at e; cases e
        | _ => cases e
  | _ => cases e⟩
def paF : MO → List D → Option (D × MO)
  | .lst xs, [.int i] => if -(2 ^ 63) ≤ i ∧ i < 2 ^ 63 then (match ixN xs.length i with
      | some k => (match xs[k]? with
        | some d => some (d, .lst (xs.eraseIdx k))
        | none => none)
      | none => none) else none
  | _, _ => none
instance (K : PySem.W.Frag) : MX K rPopAt paF := ⟨fun H U a m m' o vs ds z Q hH hr rd e h => by
  cases m with
  | lst xs =>
    obtain ⟨ws, rfl, rx⟩ := hr
    cases rd with
    | nil => cases e
    | cons r1 rr =>
      cases rr with
      | cons _ _ => cases r1 <;> cases e
      | nil =>
        cases r1 with
        | int i =>
          unfold paF at e
          by_cases q : -(2 ^ 63) ≤ i ∧ i < 2 ^ 63
          · simp only [q, if_true, and_self] at e
            cases e1 : ixN xs.length i with
            | none => simp only [e1] at e; cases e
            | some k =>
              simp only [e1] at e
              cases e2 : xs[k]? with
              | none => simp only [e2] at e; cases e
              | some d =>
                simp only [e2] at e
                cases e
                obtain ⟨v, e3, e4⟩ := rx.get e2
                obtain ⟨h1, h2, h3, h4⟩ := ixN_seq e1
                exact ⟨a, ws, i, k, v, rfl, rfl, hH, q.1, q.2, by rw [← rx.length]; exact h1, e3, h _ _ ⟨_, rfl, rx.erase k⟩ e4⟩
          · simp only [q, if_false] at e; cases e
        | _ => cases e
  | _ => cases e⟩
def poF : MO → List D → Option (D × MO)
  | .lst xs, [] => (match xs[xs.length - 1]? with
      | some d => some (d, .lst xs.dropLast)
      | none => none)
  | _, _ => none
theorem Reps.dropLast {K : PySem.W.Frag} {A : Hp} {ds : List D} {vs : List V} (r : Reps K A ds vs) : Reps K A ds.dropLast vs.dropLast := by
  rw [List.dropLast_eq_take, List.dropLast_eq_take, ← r.length]
  exact r.take _
instance (K : PySem.W.Frag) : MX K rPop poF := ⟨fun H U a m m' o vs ds z Q hH hr rd e h => by
  cases m with
  | lst xs =>
    obtain ⟨ws, rfl, rx⟩ := hr
    cases rd with
    | cons _ _ => cases e
    | nil =>
      unfold poF at e
      cases e2 : xs[xs.length - 1]? with
      | none => simp only [e2] at e; cases e
      | some d =>
        simp only [e2] at e
        cases e
        obtain ⟨v, e3, e4⟩ := rx.get e2
        exact ⟨a, ws, v, rfl, rfl, hH, by rw [← rx.length]; exact e3, h _ _ ⟨_, rfl, rx.dropLast⟩ e4⟩
  | _ => cases e⟩
def cMeth (i : Nat) (f : MO → List D → Option (D × MO)) (ma : AM) : EM := fun sl => match gS sl i with
  | .o (.lst _) => (ma sl).bind fun ds s => (match gS s i with
    | .o m => (match f m ds with
      | some (z, m') => .ok z (sS s i (.o m'))
      | none => .bad)
    | _ => .bad)
  | _ => .bad
section
variable {K : PySem.W.Frag} {W : WX} {ta : TA} {ma : AM} {i : Nat} {r : V → List V → Hp → VK → Prop} {f : MO → List D → Option (D × MO)}
instance meth_ex [ha : AX K W ta ma] [hm : MX K r f] : EX K W (tBM K "list" r (tVarB i) ta) (cMeth i f ma) := ⟨fun c σ H sl Q s h => by
  unfold cMeth at h
  cases g0 : gS sl i with
  | no => rw [g0] at h; exact h.elim
  | q n => rw [g0] at h; exact h.elim
  | v d => rw [g0] at h; exact h.elim
  | o m0 =>
    cases m0 with
    | lst xs0 =>
      simp only [g0] at h
      obtain ⟨a, o0, hσ, _, _, hH0, hr0⟩ := get_o s g0
      obtain ⟨ws0, rfl, _⟩ := hr0
      refine ⟨.ref a, hσ, .inl ⟨rfl, ws0, SqL.of hH0⟩, ha.ok c σ H sl _ s (h.split.imp fun ys H1 ⟨ds, s1, _, i1, r1, l1, h1⟩ => ?_)⟩
      cases g1 : gS s1 i with
      | no => simp only [g1] at h1; exact h1.elim
      | q n => simp only [g1] at h1; exact h1.elim
      | v d => simp only [g1] at h1; exact h1.elim
      | o m =>
        simp only [g1] at h1
        obtain ⟨a', o, hσ', nU, _, hH, hr⟩ := get_o i1 g1
        rw [hσ] at hσ'
        cases hσ'
        cases e : f m ds with
        | none => simp only [e] at h1; exact h1.elim
        | some zm =>
          obtain ⟨z, m'⟩ := zm
          simp only [e] at h1
          refine hm.ok H1 _ a m m' o ys ds z Q hH hr r1 e fun u o' hr' ru => ?_
          obtain ⟨s2, l2⟩ := i1.putO g1 hσ hr'
          exact h1 u _ s2 (ru.le l2) l2
    | _ => simp only [g0] at h; exact h.elim⟩
instance meth0_ex [hm : MX K r f] : EX K W (tBM0 K "list" r (tVarB i)) (cMeth i f cNil) := ⟨fun c σ H sl Q s h => by
  obtain ⟨x, h1, h2, h3⟩ := (meth_ex (ta := tNil) (ma := cNil) (r := r) (f := f)).ok c σ H sl Q s h
  exact ⟨x, h1, h2, h3⟩⟩
end

/-! ### xs[k] = d -/
def cSetI (i : Nat) (me mi : EM) : SM := fun sl => bSR (me sl) fun d s => match gS s i with
  | .o _ => bSR (mi s) fun k s1 => (match gS s1 i, k with
    | .o (.lst xs), .int k => (match ixN xs.length k with
      | some j => .nx (sS s1 i (.o (.lst (xs.set j d))))
      | none => .bad)
    | _, _ => .bad)
  | _ => .bad
instance seti_sx {K : PySem.W.Frag} {W : WX} {te ti : TE} {me mi : EM} {i : Nat} [he : EX K W te me] [hi : EX K W ti mi] : SX K W (tAsg te (gSub (tVarB i) ti rSetL)) (cSetI i me mi) := ⟨fun c σ H sl Dn s h => by
  refine he.ok c σ H sl _ s (h.split.imp fun x H1 ⟨d, s1, _, i1, r1, l1, h1⟩ => ?_)
  cases g0 : gS s1 i with
  | no => simp only [g0] at h1; exact h1.elim
  | q n => simp only [g0] at h1; exact h1.elim
  | v d => simp only [g0] at h1; exact h1.elim
  | o m0 =>
    simp only [g0] at h1
    obtain ⟨a, o0, hσ, _⟩ := get_o i1 g0
    refine ⟨.ref a, hσ, hi.ok c σ H1 s1 _ i1 (h1.split.imp fun y H2 ⟨k, s2, _, i2, r2, l2, h2⟩ => ?_)⟩
    cases g1 : gS s2 i with
    | no => simp only [g1] at h2; exact h2.elim
    | q n => simp only [g1] at h2; exact h2.elim
    | v d => simp only [g1] at h2; exact h2.elim
    | o m =>
      obtain ⟨a', o, hσ', nU, _, hH, hr⟩ := get_o i2 g1
      rw [hσ] at hσ'
      cases hσ'
      cases m with
      | lst xs =>
        obtain ⟨ws, rfl, rx⟩ := hr
        cases r2 with
        | int k =>
          simp only [g1] at h2
          cases e : ixN xs.length k with
          | none => simp only [e] at h2; exact h2.elim
          | some j =>
            simp only [e] at h2
            refine ⟨a, ws, k, j, rfl, rfl, hH, by rw [← rx.length]; exact e, ?_⟩
            obtain ⟨s3, l3⟩ := i2.putO (m' := .lst (xs.set j d)) (o := .lst (ws.set j x)) g1 hσ ⟨_, rfl, Reps.set (r1.le l2) j rx⟩
            exact h2 σ _ s3 l3
        | _ => simp only [g1] at h2; exact h2.elim
      | _ => simp only [g1] at h2; exact h2.elim⟩

/-! ### x, y = a new object, a value -/
def tParO (i j : Nat) (t : TA) : TS := tPar i j t
def cParO (i j : Nat) (mn : NM) (mb : EM) : SM := fun sl => bSR (mn sl) fun m s => bSR (noxR (mb s)) fun d s1 => if i ≠ 0 ∧ i < s1.length ∧ j < s1.length ∧ i ≠ j then .nx (sS (sS s1 i (.o m)) j (.v d)) else .bad
instance paro_sx {K : PySem.W.Frag} {W : WX} {ta tb : TE} {mn : NM} {mb : EM} {i j : Nat} [ha : NX K W ta mn] [hb : EX K W0 tb mb] : SX K W (tParO i j (tCons ta (tCons tb tNil))) (cParO i j mn mb) := ⟨fun c σ H sl Dn s h => by
  unfold tParO tPar
  refine ha.ok c σ H sl _ s ?_
  unfold cParO at h
  cases e : mn sl with
  | bad => rw [e] at h; exact h.elim
  | exn x s1 => rw [e] at h; exact fun cls dd H' i1 r1 l1 => h cls dd σ H' i1 r1 l1
  | ok m s1 =>
    rw [e] at h
    intro p o H1 i1 n r1 l1
    have w := i1.new n
    obtain ⟨i2, l2⟩ := i1.hide n r1.nu
    simp only [bSR] at h
    cases eb : noxR (mb s1) with
    | bad => rw [eb] at h; exact h.elim
    | exn x s => exact absurd eb (noxR_ne _ _ _)
    | ok d s2 =>
      rw [eb] at h
      refine hb.ok _ σ _ _ _ i2 (POk.noxR (W := W0) ?_)
      rw [eb]
      intro v H2 i3 rv l3
      obtain ⟨i4, e4⟩ := i3.unhide w r1.nt r1.nc
      have hp := i3.hid_at w r1.nt
      by_cases q : i ≠ 0 ∧ i < s2.length ∧ j < s2.length ∧ i ≠ j
      · simp only [if_pos q] at h
        have r2 : HORep K (fz c s2 σ (del H2 p)) m o := by rw [e4]; exact r1.le (l2.trans l3)
        obtain ⟨i5, l5⟩ := i4.setO del_self r2 q.2.1 q.1
        rw [del_upd hp] at i5 l5
        obtain ⟨i6, l6⟩ := i5.setV (i := j) ((show Rep K (fz c s2 σ (del H2 p)) d v by rw [e4]; exact rv).le l5) (by rw [sS_set, List.length_set]; exact q.2.2.1)
        refine ⟨.ref p, v, rfl, h _ _ i6 (((l1.trans (l2.trans l3)).trans ?_).trans (l5.trans l6))⟩
        rw [e4]
        exact Le.rfl
      · simp only [if_neg q] at h
        exact h.elim⟩

/-! ### a def that makes a new object -/
def spN (K : PySem.W.Frag) (n : Nat) (F : List D -> Option MO) : Sp := fun vs H Q _ => ∃ (ds : List D) (U : Addr -> Prop) (z : MO), ds.length = n ∧ UOk K H U ∧ Reps K (Hm H U) ds vs ∧ F ds = some z ∧ ∀ p o H', LeT K H H' -> H' p = none -> HORep K (Hm H' U) z o -> Q (.ref p) (upd H' p o)
def cCallN (F : List D → Option MO) (m : AM) : NM := fun sl => (m sl).bind fun ds s => ofO (F ds) s
instance calln_nx {K : PySem.W.Frag} {W : WX} {n : Nat} {F : List D → Option MO} {E : XK} {ta : TA} {ma : AM} [ha : AX K W ta ma] : NX K W (tCall (spN K n F) [] E ta) (cCallN (fun ds => if ds.length = n then F ds else none) ma) := ⟨fun c σ H sl Q s h => by
  refine ha.ok c σ H sl _ s (h.split.imp fun x H1 ⟨ds, s1, _, i1, r1, l1, h1⟩ => ?_)
  by_cases hl : ds.length = n
  · simp only [hl, if_true] at h1
    cases e : F ds with
    | none => rw [e] at h1; exact h1.elim
    | some z =>
      rw [e] at h1
      refine ⟨ds, Hid c s1 σ, z, hl, i1.uok, by rw [List.append_nil]; exact r1, e, fun p o H2 l2 n r2 => ?_⟩
      exact h1 p o H2 (i1.le l2.le l2.tab) n r2 (fz_same l2.le)
  · simp only [hl, if_false] at h1
    exact h1.elim⟩
def runN (N : Nat) (m : NM) : List D → Option MO := fun ds => match m (iniP N ds) with
  | .ok m _ => some m
  | _ => none
section
variable {P : Program} {w : World} {K : PySem.W.Frag} {mg : Str → Option Value} {base : Heap} {x qual : Str} {params : Arguments} {body : List Stmt} {scope : Scope} {f : Addr} {fd : FuncData} {N ps : List Str} {k n : Nat} {m : NM}
theorem fnN (F : FunD K x qual params body scope [] [] f fd) (sc : FnScope N ps scope) (hn : ps.length = n)
    (hb : ∀ (cdv : Value) (A : Around) (outer : List Env) (s : Shared) (H : Hp) (E : XK), Room k (A.deeper (PyProof.Rows.envOfC qual scope s.heap.objs.size f cdv)) → ∃ t, PSs (cxOf CX0 P w K mg base N qual scope f cdv A outer s H E).nox body (tRet t) ∧ NX K W0 t m) :
    FnOk P w K mg base CX0 (k + 1) f fd ps (spN K n (runN N.length m)) := by
  have hpl : ps.length ≤ N.length := by have := congrArg List.length sc.pre; rw [List.length_take] at this; omega
  refine F.ok sc (fun vs H Q E h => ?_) (fun cdv A outer s H vs Q E hr h => ?_)
  · obtain ⟨ds, U, z, h1, h2, h3, _⟩ := h
    rw [← h3.length, h1, hn]
  · obtain ⟨ds, U, z, h1, h2, h3, h4, h5⟩ := h
    obtain ⟨t, ht, hm⟩ := hb cdv A outer s H E hr
    refine ⟨tRet t, ht.nox, ?_⟩
    have hl : vs.length ≤ N.length := by rw [← h3.length, h1, ← hn]; exact hpl
    obtain ⟨s0, l0⟩ := sim_ini (N := N) h3 h2 hl
    refine hm.ok _ _ _ _ _ s0 ?_
    unfold runN at h4
    cases e : m (iniP N.length ds) with
    | ok mo s' =>
      rw [e] at h4
      cases h4
      exact fun p o H' i1 n r1 _ => h5 p o H' ⟨fun b u e nt => i1.frm b u e nt (fun q => by cases q) Ct.xs_none, i1.tab⟩ n (r1.le (Hm_sub fun b q => .inl q))
    | _ => rw [e] at h4; cases h4
end
end DL
set_option linter.all false
set_option autoImplicit false
set_option maxRecDepth 100000
/-! DlM: what a def's text leans on. -/
namespace DL
open PySem PySem.Spec L2

/-! ### a + b, any of data -/
def addX (a b : D) : Option D := match addD a b with
  | some z => some z
  | none => (addN a b).map MO.toD
theorem op2n_toD {K : PySem.W.Frag} {H : Hp} {U : Addr → Prop} {z : MO} {Q : VK} (hU : HidOk H U) (h : ∀ u H', Same H H' → Rep K (Hm H' U) z.toD u → Q u H') : ∀ p o, H p = none → HORep K (Hm H U) z o → Q (.ref p) (upd H p o) := fun p o n r => by
  have e : Same H (upd H p o) := same_upd n
  exact h _ _ e ((r.le (Hm_same (Le.of_same e))).toD (Hm_some.mpr ⟨hU p (.inl n), upd_same⟩))
instance addx_op (K : PySem.W.Frag) : Op2 K (rAddA K) addX := ⟨fun H U x y a b z Q hU ra rb e h => by
  unfold addX at e
  cases e1 : addD a b with
  | some d =>
    simp only [e1] at e
    cases e
    exact (inferInstance : Op2 K (rAddA K) addD).ok H U x y a b _ Q hU ra rb e1 h
  | none =>
    simp only [e1] at e
    cases e2 : addN a b with
    | none => rw [e2] at e; cases e
    | some m =>
      rw [e2] at e
      cases e
      exact (inferInstance : Op2N K (rAddA K) addN).ok H U x y a b m Q hU ra rb e2 (op2n_toD hU h)⟩

/-! ### {} -/
def cDNew : NM := fun sl => .ok (.dK [] []) sl
instance dnew_nx {K : PySem.W.Frag} {W : WX} : NX K W tDNewK cDNew := ⟨fun c σ H sl Q s h => fun p n => h p _ H s n ⟨[], rfl, rfl, .nil⟩ Le.rfl⟩
instance dnew_ex {K : PySem.W.Frag} {W : WX} : EX K W tDNewK (cFz cDNew) := (dnew_nx).ex

/-! ### what is not reached -/
def tNever : TS := fun _ _ _ => False
def cBad : SM := fun _ => .bad
theorem ps_never {X : Cx} {st : Stmt} : PS X st tNever := ⟨fun pins s σ H Dn I h => h.elim⟩
instance {K : PySem.W.Frag} {W : WX} : SX K W tNever cBad := ⟨fun c σ H sl Dn s h => h.elim⟩

/-! ### comprehensions, the places written out -/
section
variable {X : Cx} {elt kx vx tg iter : Expr} {ifs : List Expr} {scope : Scope} {pos : Pos} {wi : TI} {g : TG} {tt : TT} {te tk tv : TE} {o0 : HO}
theorem pe_lcD (own : List (Str × Nat)) (vs : List Nat) (hN : X.N.Nodup) (ok : BlkOk X.N X.env.scope scope own) (hi : PI X tg iter wi) (hg : ∀ s H C cl fp, PG (inB X scope s H C cl fp) tg g) (ht : ∀ s H C cl fp, PTs (inB X scope s H C cl fp) ifs tt)
    (he : ∀ s H C cl fp, PE (inB X scope s H C cl fp) elt te) (hv : own.map (·.2) = vs := by rfl) (hc : X.calm = true := by rfl) (hs : ∀ x, foldedSetIterable iter X.env x = pure x := by intro _; rfl) :
    PE X (.ListComp elt [⟨tg, iter, ifs, 0⟩] scope pos) (tLc wi g tt te vs) := by
  subst hv
  exact pe_lc hc hN hi ok hg ht he hs
theorem ps_lcD (i : Nat) {y : Str} {py spos : Pos} (own : List (Str × Nat)) (vs : List Nat) (hN : X.N.Nodup) (ok : BlkOk X.N X.env.scope scope own) (hi : PI X tg iter wi) (hg : ∀ s H C cl fp, PG (inB X scope s H C cl fp) tg g) (ht : ∀ s H C cl fp, PTs (inB X scope s H C cl fp) ifs tt)
    (he : ∀ s H C cl fp, PE (inB X scope s H C cl fp) elt te) (hsw : swapsWith (.ListComp elt [⟨tg, iter, ifs, 0⟩] scope pos) (some (.Name y py)) spos.line X.env = pure true) (hy : X.N[i]? = some y := by rfl) (hyl : X.env.scope.names.lookup y = some .local := by rfl) (hv : own.map (·.2) = vs := by rfl) (hc : X.calm = true := by rfl) (hs : ∀ x, foldedSetIterable iter X.env x = pure x := by intro _; rfl) :
    PS X (.Assign [.Name y py] (.ListComp elt [⟨tg, iter, ifs, 0⟩] scope pos) spos) (tAsg (tLc wi g tt te vs) (gName i)) := by
  subst hv
  exact ps_setLc hc hN hy hyl hsw hi ok hg ht he hs
theorem pe_dcD (o0 : HO) (own : List (Str × Nat)) (vs : List Nat) (hN : X.N.Nodup) (ok : BlkOk X.N X.env.scope scope own) (hu : X.A.units + 1 < cLine) (hi : PI X tg iter wi) (b : DcIn X scope tg ifs kx vx g tt tk tv) (e0 : Empty0 o0) (hv : own.map (·.2) = vs := by rfl) (hc : X.calm = true := by rfl) (hs : ∀ x, foldedSetIterable iter X.env x = pure x := by intro _; rfl) :
    PE X (.DictComp kx vx [⟨tg, iter, ifs, 0⟩] scope pos) (tDcG o0 wi g tt tk tv vs) := by
  subst hv
  exact pe_dcG hc hN hu hi ok b e0 hs
theorem pe_dcA (own : List (Str × Nat)) (vs : List Nat) (hN : X.N.Nodup) (ok : BlkOk X.N X.env.scope scope own) (hu : X.A.units + 1 < cLine) (hi : PI X tg iter wi) (b : DcIn X scope tg ifs kx vx g tt tk tv) (hv : own.map (·.2) = vs := by rfl) (hc : X.calm = true := by rfl) (hs : ∀ x, foldedSetIterable iter X.env x = pure x := by intro _; rfl) :
    PE X (.DictComp kx vx [⟨tg, iter, ifs, 0⟩] scope pos) (tDcA wi g tt tk tv vs) := ⟨fun pins s σ H Q I h => h.elim ((pe_dcD (.dT []) own vs hN ok hu hi b (.inr rfl) hv hc hs).run pins s σ H Q I) ((pe_dcD (.dK []) own vs hN ok hu hi b (.inl rfl) hv hc hs).run pins s σ H Q I)⟩
theorem ps_dcD (i : Nat) (o0 : HO) {y : Str} {py spos : Pos} (own : List (Str × Nat)) (vs : List Nat) (hN : X.N.Nodup) (ok : BlkOk X.N X.env.scope scope own) (hu : X.A.units + 1 < cLine) (hi : PI X tg iter wi) (b : DcIn X scope tg ifs kx vx g tt tk tv) (e0 : Empty0 o0)
    (hsw : swapsWith (.DictComp kx vx [⟨tg, iter, ifs, 0⟩] scope pos) (some (.Name y py)) spos.line X.env = pure true) (hy : X.N[i]? = some y := by rfl) (hyl : X.env.scope.names.lookup y = some .local := by rfl) (hv : own.map (·.2) = vs := by rfl) (hc : X.calm = true := by rfl) (hs : ∀ x, foldedSetIterable iter X.env x = pure x := by intro _; rfl) :
    PS X (.Assign [.Name y py] (.DictComp kx vx [⟨tg, iter, ifs, 0⟩] scope pos) spos) (tAsg (tDcG o0 wi g tt tk tv vs) (gName i)) := by
  subst hv
  exact ps_setDcG hc hN hu hy hyl hsw hi ok b e0 hs
/-- .. whose value only its name holds -/
theorem PS.owned {i : Nat} {st : Stmt} {t : TE} (h : PS X st (tAsg t (gName i))) : PS X st (tAsg t (gO i)) := h
theorem PS.ownedPar {i j : Nat} {st : Stmt} {t : TA} (h : PS X st (tPar i j t)) : PS X st (tParO i j t) := h
end

/-! ### the rules, the Frag written out -/
section
variable (K : PySem.W.Frag) {X : Cx}
theorem kop_add (h : X.K = K := by rfl) : OpR X (binaryOp .Add) (rAddA K) := h ▸ op_addA
theorem kop_eq (hu : X.A.units + 64 < cLine) (h : X.K = K := by rfl) : OpR X (compareOp .Eq) (rEqD K) := h ▸ op_eqD hu
theorem kop_ne (hu : X.A.units + 64 < cLine) (h : X.K = K := by rfl) : OpR X (compareOp .NotEq) (rNeD K) := h ▸ op_neD hu
theorem kop_in (hu : X.A.units + 65 < cLine) (h : X.K = K := by rfl) : OpR X (compareOp .In) (rInA K) := h ▸ op_inA hu
theorem kop_nin (hu : X.A.units + 65 < cLine) (h : X.K = K := by rfl) : OpR X (compareOp .NotIn) (rNinA K) := h ▸ op_ninA hu
theorem kix (h : X.K = K := by rfl) : IxR X (rIx K) := h ▸ ix_seq
theorem ksl (h : X.K = K := by rfl) : SlR X (rSlU K) := h ▸ sl_U
theorem kcr_len (h : X.K = K := by rfl) : CallR X (.builtin "len") (rLenA K) := h ▸ cr_lenA
theorem kcr_tup (h : X.K = K := by rfl) : CallR X (.type "tuple") (rTup1 K) := h ▸ cr_tup1
theorem kcr_list (hc : X.calm = true := by rfl) (h : X.K = K := by rfl) : CallR X (.type "list") (rList1 K) := h ▸ cr_list1 hc
theorem kcr_dict (hu : X.A.units + 4 < cLine) (hc : X.calm = true := by rfl) (h : X.K = K := by rfl) : CallR X (.type "dict") (rDictA K) := h ▸ cr_dictA hc hu
theorem kcr_sort (h : X.K = K := by rfl) : CallR X (.builtin "sorted") (rSortA K) := h ▸ cr_sortA
theorem kcr_all (hc : X.calm = true := by rfl) (h : X.K = K := by rfl) : CallR X (.builtin "all") (rAll K) := h ▸ cr_all hc
theorem kcr_any (hc : X.calm = true := by rfl) (h : X.K = K := by rfl) : CallR X (.builtin "any") (rAny K) := h ▸ cr_any hc
theorem kcr_isi (h : X.K = K := by rfl) : CallR X (.builtin "isinstance") (rIsi K) := h ▸ call_isi
theorem kcr_isiT (h : X.K = K := by rfl) : CallR X (.builtin "isinstance") (rIsiT K) := h ▸ call_isiT
theorem kpi_seq {tg l : Expr} {tl : TE} (hl : PE X l tl) (h : X.K = K := by rfl) : PI X tg l (iSeq K tl) := h ▸ pi_seq hl
theorem kpi_enum {e : Expr} {ta : TA} {p pos tpos : Pos} {elts : List Expr} {kk : Nat} (hg : Gl X "enumerate") (hm : X.mg "enumerate" = none) (ha : PA X [e] ta) (hs : starEach [e] X.env = [(false, eval e X.env)] := by rfl) (h : X.K = K := by rfl) :
    PI X (.Tuple elts kk tpos) (.Call (.Name "enumerate" p) [e] [] pos) (iEnumA K ta) := h ▸ pi_enumA hg hm ha hs
theorem kpg_tup {es : List Expr} {k : Nat} {t : TGs} {n : Nat} {pos : Pos} (g : PGs X es t) (hn : (assignEach es X.env).length = n := by rfl) (hst : (assignEach es X.env).findIdx? (·.1) = none := by rfl) (hc : X.calm = true := by rfl) (h : X.K = K := by rfl) : PG X (.Tuple es k pos) (gTup K n t) := h ▸ pg_tup hc g hn hst
theorem kpa_star {e : Expr} {es : List Expr} {p : Pos} {te : TE} {t : TA} (he : PE X e te) (hr : PA X es t) (hs : starEach (.Starred e p :: es) X.env = (true, eval e X.env) :: starEach es X.env := by rfl) (h : X.K = K := by rfl) : PA X (.Starred e p :: es) (StX.tStar K te t) := h ▸ StX.pa_star he hr hs
theorem kpe_bm {o e : Expr} {es : List Expr} {to : TE} {t : TA} {name : Str} {apos cpos : Pos} {T id : String} {r : V → List V → Hp → VK → Prop} (pa : PlainAttrs T) (slot : Slot T name id) (hty : typeOf (.builtin id) = pure (.type "method_descriptor")) (hm : MtR X id r) (ho : PE X o to) (ha : PA X (e :: es) t)
    (hbase : attributeBase o name X.env (eval o X.env) = eval o X.env := by rfl)
    (hfew : ((backTo cpos (starEach (e :: es) X.env)).all (fun x => !x.1) && (backToKw cpos (keywordEach [] X.env)).all (fun x => x.1.isSome)
      && decide ((e :: es).length + ([] : List Keyword).length + (if ([] : List Keyword).isEmpty then 0 else 1) < 30)) = true := by rfl)
    (hline : (apos.endLine == cpos.line) = true := by rfl) (hs : starEach (e :: es) X.env = (false, eval e X.env) :: starEach es X.env := by rfl) (hplain : (backTo cpos (starEach es X.env)).any (·.1) = false := by rfl) (h : X.K = K := by rfl) :
    PE X (.Call (.Attribute o name apos) (e :: es) [] cpos) (tBM K T r to t) := h ▸ pe_bm pa slot hty hm ho ha hbase hfew hline hs hplain
theorem kpe_bm0 {o : Expr} {to : TE} {name : Str} {apos cpos : Pos} {T id : String} {r : V → List V → Hp → VK → Prop} (pa : PlainAttrs T) (slot : Slot T name id) (hty : typeOf (.builtin id) = pure (.type "method_descriptor")) (hm : MtR X id r) (ho : PE X o to)
    (hbase : attributeBase o name X.env (eval o X.env) = eval o X.env := by rfl) (hline : (apos.endLine == cpos.line) = true := by rfl) (h : X.K = K := by rfl) : PE X (.Call (.Attribute o name apos) [] [] cpos) (tBM0 K T r to) := h ▸ pe_bm0 pa slot hty hm ho hbase hline
end

/-! ### room -/
theorem Room.u64 {k : Nat} {A : Around} (r : Room k A) : A.units + 64 < cLine := by have := r.un; omega
theorem Room.u65 {k : Nat} {A : Around} (r : Room k A) : A.units + 65 < cLine := by have := r.un; omega
theorem Room.u4 {k : Nat} {A : Around} (r : Room k A) : A.units + 4 < cLine := by have := r.un; omega
theorem Room.u1 {k : Nat} {A : Around} (r : Room k A) : A.units + 1 < cLine := by have := r.un; omega

/-! ### no promise at all -/
section
variable {P : Program} {w : World} {K : PySem.W.Frag} {mg : Str → Option Value} {base : Heap} {x qual : Str} {params : Arguments} {body : List Stmt} {scope : Scope} {f : Addr} {fd : FuncData} {N ps : List Str} {k n : Nat}
theorem fn0P (F : FunD K x qual params body scope [] [] f fd) (sc : FnScope N ps scope) : FnOk P w K mg base CX0 (k + 1) f fd ps (spP K n fun _ => none) := by
  refine F.ok sc (fun vs H Q E h => ?_) (fun cdv A outer s H vs Q E hr h => ?_)
  · obtain ⟨_, _, _, _, _, _, e, _⟩ := h; cases e
  · obtain ⟨_, _, _, _, _, _, e, _⟩ := h; cases e
theorem fn0B (F : FunD K x qual params body scope [] [] f fd) (sc : FnScope N ps scope) : FnOk P w K mg base CX0 (k + 1) f fd ps (spB K n fun _ _ => none) := by
  refine F.ok sc (fun vs H Q E h => ?_) (fun cdv A outer s H vs Q E hr h => ?_)
  · obtain ⟨_, _, _, _, _, _, _, _, _, _, _, _, _, _, _, e, _⟩ := h; cases e
  · obtain ⟨_, _, _, _, _, _, _, _, _, _, _, _, _, _, _, e, _⟩ := h; cases e
end

/-! ### a def that stands in the module -/
def Dn (P : Program) (w : World) (K : PySem.W.Frag) (mg : Str → Option Value) (base : Heap) (k : Nat) (x : Str) (ps : List Str) (sp : Sp) : Prop :=
  ∃ f fd, FnOk P w K mg base CX0 k f fd ps sp ∧ mg x = some (.ref f) ∧ PySem.W.keepIn K (.ref f) = true ∧ Binds K fd ps []
theorem pe_callD {X : Cx} {k : Nat} {x : Str} {ps : List Str} {sp : Sp} {e : Expr} {es : List Expr} {t : TA} {p pos : Pos} (d : Dn X.prog X.w X.K X.mg X.base k x ps sp) (hr : Room k X.A) (hg : Gl X x) (ha : PA X (e :: es) t)
    (hdb : (x == ("__debug__" : Str)) = false := by decide) (he : starEach (e :: es) X.env = (false, eval e X.env) :: starEach es X.env := by rfl) (hpl : (backTo pos (starEach es X.env)).any (·.1) = false := by rfl) :
    PE X (.Call (.Name x p) (e :: es) [] pos) (tCall sp [] E0 t) := by
  obtain ⟨f, fd, F, gm, kp, b⟩ := d
  exact pe_call F hr hg gm kp b .nil pass0 ha hdb he hpl
/-- a def keeps its promise, and stands -/
theorem Dn.mk {P : Program} {w : World} {K : PySem.W.Frag} {mg : Str → Option Value} {base : Heap} {k : Nat} {x qual : Str} {params : Arguments} {body : List Stmt} {scope : Scope} {f : Addr} {fd : FuncData} {ps : List Str} {sp : Sp}
    (F : FunD K x qual params body scope [] [] f fd) (g : mg x = some (.ref f)) (ok : FnOk P w K mg base CX0 k f fd ps sp)
    (h : ∀ (kV doc pm : Value) (an : Option Addr) (cdv ct : Value) (us : List Value), us.length = ps.length → bindArgs (PySem.W.fnOf x qual params body scope .none kV doc pm an cdv ct) ⟨us, []⟩ = pure (ps.zip us)) : Dn P w K mg base k x ps sp :=
  ⟨f, fd, ok, g, F.kp, F.bindsN h⟩
end DL
set_option linter.all false
set_option autoImplicit false
set_option maxRecDepth 100000
/-! DlP: what mirrors come to; plain Lean. -/
namespace DL
open PySem
theorem sS_sS (sl : List S) (v : Nat) (x y : S) : sS (sS sl v x) v y = sS sl v y := by
  rw [sS_set, sS_set, sS_set, List.set_set]
theorem lcR_gen {v : Nat} {t : BM} {e : EM} {sl : List S} (p : D → Bool) (f : D → D) (hs : sS sl v .no = sl) (hlt : v < sl.length) : ∀ (ds acc : List D),
    (∀ d ∈ ds, t (sS sl v (.v d)) = .ok (p d) (sS sl v (.v d)) ∧ (p d = true → e (sS sl v (.v d)) = .ok (f d) (sS sl v (.v d)))) → acc.length + ds.length ≤ sizeLine →
    lcR [v] (mName v) t e ds acc sl = .ok (.lst (acc ++ (ds.filter p).map f)) sl
  | [], acc, _, _ => by simp [lcR]
  | d :: r, acc, h, hz => by
    obtain ⟨h1, h2⟩ := h d List.mem_cons_self
    have ih := fun a => lcR_gen p f hs hlt r a fun x hx => h x (List.mem_cons_of_mem _ hx)
    rw [List.length_cons] at hz
    unfold lcR
    simp only [mName, hlt, if_true]
    rw [h1]
    simp only [noxR, ER.bind]
    have hw : wipeS (sS sl v (.v d)) [v] = sl := by
      show sS (sS sl v (.v d)) v .no = sl
      rw [sS_sS, hs]
    cases q : p d with
    | false =>
      simp only [Bool.false_eq_true, if_false, hw]
      rw [ih acc (by omega), List.filter_cons_of_neg (by simp [q])]
    | true =>
      simp only [if_true]
      rw [h2 q]
      simp only [noxR, ER.bind, hw]
      rw [if_pos (by omega), ih _ (by rw [List.length_append, List.length_singleton]; omega), List.filter_cons_of_pos q, List.map_cons, List.append_assoc, List.singleton_append]
theorem lcR_all {v : Nat} {e : EM} {sl : List S} (f : D → D) (ds : List D) (hs : sS sl v .no = sl) (hlt : v < sl.length) (h : ∀ d ∈ ds, e (sS sl v (.v d)) = .ok (f d) (sS sl v (.v d))) (hz : ds.length ≤ sizeLine) :
    lcR [v] (mName v) cYes e ds [] sl = .ok (.lst (ds.map f)) sl := by
  rw [lcR_gen (t := cYes) (fun _ => true) f hs hlt ds [] (fun d hd => ⟨rfl, fun _ => h d hd⟩) (by simpa using hz)]
  rw [List.nil_append, List.filter_eq_self.mpr fun _ _ => rfl]
/-! ### keys -/
section
variable {κ : Type} [DecidableEq κ]
def dedK (l : List κ) : List κ := l.foldl putKs []
theorem hasK_iff {ks : List κ} {k : κ} : hasK ks k = true ↔ k ∈ ks := by
  unfold hasK
  rw [List.any_eq_true]
  exact ⟨fun ⟨j, hj, e⟩ => by rw [← of_decide_eq_true e]; exact hj, fun h => ⟨k, h, decide_eq_true rfl⟩⟩
theorem putKs_mem {ks : List κ} {k j : κ} : j ∈ putKs ks k ↔ j ∈ ks ∨ j = k := by
  unfold putKs
  by_cases h : hasK ks k = true
  · rw [if_pos h]
    exact ⟨.inl, fun q => q.elim id fun e => by rw [e]; exact hasK_iff.mp h⟩
  · rw [if_neg h, List.mem_append, List.mem_singleton]
theorem fold_mem : ∀ {l ks : List κ} {j : κ}, j ∈ l.foldl putKs ks ↔ j ∈ ks ∨ j ∈ l
  | [], ks, j => by simp
  | k :: r, ks, j => by
    rw [List.foldl_cons, fold_mem, putKs_mem, List.mem_cons]
    constructor
    · rintro ((h | h) | h)
      · exact .inl h
      · exact .inr (.inl h)
      · exact .inr (.inr h)
    · rintro (h | h | h)
      · exact .inl (.inl h)
      · exact .inl (.inr h)
      · exact .inr h
theorem fold_len : ∀ {l ks : List κ}, (l.foldl putKs ks).length ≤ ks.length + l.length ∧ ((l.foldl putKs ks).length = ks.length + l.length ↔ l.Nodup ∧ ∀ k ∈ l, k ∉ ks)
  | [], ks => by simp
  | k :: r, ks => by
    rw [List.foldl_cons]
    obtain ⟨h1, h2⟩ := fold_len (l := r) (ks := putKs ks k)
    have e : (putKs ks k).length = if k ∈ ks then ks.length else ks.length + 1 := by
      unfold putKs
      by_cases h : hasK ks k = true
      · rw [if_pos h, if_pos (hasK_iff.mp h)]
      · rw [if_neg h, if_neg (fun q => h (hasK_iff.mpr q)), List.length_append, List.length_singleton]
    rw [List.length_cons]
    by_cases h : k ∈ ks
    · rw [if_pos h] at e
      refine ⟨by omega, ⟨fun q => by omega, fun q => absurd h (q.2 k List.mem_cons_self)⟩⟩
    · rw [if_neg h] at e
      refine ⟨by omega, ⟨fun q => ?_, fun q => ?_⟩⟩
      · obtain ⟨a, b⟩ := h2.mp (by omega)
        refine ⟨List.nodup_cons.mpr ⟨fun z => b k z (putKs_mem.mpr (.inr rfl)), a⟩, fun j hj => ?_⟩
        rcases List.mem_cons.mp hj with rfl | hj
        · exact h
        · exact fun z => b j hj (putKs_mem.mpr (.inl z))
      · obtain ⟨a, b⟩ := q
        obtain ⟨a1, a2⟩ := List.nodup_cons.mp a
        have z := h2.mpr ⟨a2, fun j hj z => (putKs_mem.mp z).elim (fun z => b j (List.mem_cons_of_mem _ hj) z) fun z => a1 (by rw [← z]; exact hj)⟩
        omega
theorem ded_len {l : List κ} : decide ((dedK l).length = l.length) = decide l.Nodup := by
  obtain ⟨_, h⟩ := fold_len (l := l) (ks := [])
  rw [List.length_nil, Nat.zero_add] at h
  by_cases q : l.Nodup
  · rw [decide_eq_true q, decide_eq_true]
    exact h.mpr ⟨q, fun _ _ z => by cases z⟩
  · rw [decide_eq_false q, decide_eq_false]
    exact fun z => q (h.mp z).1
theorem dcR_gen {v : Nat} {mk mv : EM} {sl : List S} {kf : D → Option κ} {mo : List κ → List D → MO} (kk : D → κ) (f : D → D) (hs : sS sl v .no = sl) (hlt : v < sl.length) : ∀ (ds : List D) (ks : List κ) (es : List D),
    (∀ d ∈ ds, mk (sS sl v (.v d)) = .ok d (sS sl v (.v d)) ∧ mv (sS sl v (.v d)) = .ok (f d) (sS sl v (.v d)) ∧ kf d = some (kk d)) → ks.length + ds.length ≤ sizeLine →
    ∃ es', dcR kf mo [v] (mName v) cYes mk mv ds ks es sl = .ok (mo ((ds.map kk).foldl putKs ks) es') sl
  | [], ks, es, _, _ => ⟨es, by simp [dcR]⟩
  | d :: r, ks, es, h, hz => by
    obtain ⟨h1, h2, h3⟩ := h d List.mem_cons_self
    rw [List.length_cons] at hz
    have hw : wipeS (sS sl v (.v d)) [v] = sl := by
      show sS (sS sl v (.v d)) v .no = sl
      rw [sS_sS, hs]
    have hk : (putKs ks (kk d)).length ≤ ks.length + 1 := by
      unfold putKs
      split
      · omega
      · rw [List.length_append, List.length_singleton]; omega
    obtain ⟨es', ih⟩ := dcR_gen (mk := mk) (mv := mv) (kf := kf) (mo := mo) kk f hs hlt r (putKs ks (kk d)) (putDs ks es (kk d) (f d)) (fun x hx => h x (List.mem_cons_of_mem _ hx)) (by omega)
    refine ⟨es', ?_⟩
    unfold dcR
    simp only [mName, hlt, if_true, cYes, noxR, ER.bind]
    rw [h1]
    simp only [noxR, ER.bind]
    rw [h2]
    simp only [noxR, ER.bind, h3, hw]
    rw [if_pos (by omega), ih, List.map_cons, List.foldl_cons]
theorem mrgD_keys : ∀ (ps : List (κ × D)) (ks : List κ) (ds : List D), (mrgD ks ds ps).1 = (ps.map (·.1)).foldl putKs ks
  | [], ks, ds => rfl
  | p :: r, ks, ds => by
    unfold mrgD
    rw [mrgD_keys r, List.map_cons, List.foldl_cons]
end
/-! ### == of data -/
def elE (d : D) : Bool := match toPy d with
  | some p => PyData.canLay0 p && decide (PyData.depth p ≤ 60)
  | none => false
theorem toPys_all : ∀ {ds : List D}, (∀ d ∈ ds, elE d = true) → ∃ ps, toPys ds = some ps ∧ PyData.canLayAll0 ps = true ∧ PyData.depthAll ps ≤ 60 ∧ ps.isEmpty = ds.isEmpty
  | [], _ => ⟨[], rfl, rfl, Nat.zero_le _, rfl⟩
  | d :: r, h => by
    obtain ⟨ps, h1, h2, h3, _⟩ := toPys_all fun x hx => h x (List.mem_cons_of_mem _ hx)
    have hd := h d List.mem_cons_self
    unfold elE at hd
    cases e : toPy d with
    | none => rw [e] at hd; cases hd
    | some p =>
      rw [e] at hd
      simp only [Bool.and_eq_true, decide_eq_true_eq] at hd
      refine ⟨p :: ps, ?_, ?_, ?_, rfl⟩
      · unfold toPys
        rw [e, h1]
      · show (PyData.canLay0 p && PyData.canLayAll0 ps) = true
        rw [hd.1, h2]; rfl
      · show max (PyData.depth p) (PyData.depthAll ps) ≤ 60
        omega
theorem shaped_list {ps : List PyData} (h1 : PyData.canLayAll0 ps = true) (h2 : PyData.depthAll ps ≤ 60) : SeqAt.shaped (.list ps) = true := by
  show (PyData.canLayAll0 ps && decide (PyData.depthAll ps + 1 ≤ 64)) = true
  rw [h1, decide_eq_true (by omega)]; rfl
theorem eqD_nil {ds : List D} (h : ∀ d ∈ ds, elE d = true) : eqD (.lst ds) (.lst []) = some ds.isEmpty := by
  obtain ⟨ps, h1, h2, h3, h4⟩ := toPys_all h
  have e1 : toPy (.lst ds) = some (.list ps) := by
    unfold toPy
    rw [h1] <;> rfl
  have e2 : toPy (.lst []) = some (.list []) := rfl
  unfold eqD
  rw [e1, e2]
  simp only [shaped_list h2 h3, show SeqAt.shaped (.list []) = true from rfl, Bool.and_self, if_true]
  rw [← h4]
  cases ps <;> rfl
theorem eqO_nil {ds : List D} (h : ∀ d ∈ ds, elE d = true) : eqO (.lst ds) (.lst []) = some (.bl ds.isEmpty) := by unfold eqO; rw [eqD_nil h] <;> rfl
theorem neO_nil {ds : List D} (h : ∀ d ∈ ds, elE d = true) : neO (.lst ds) (.lst []) = some (.bl (!ds.isEmpty)) := by unfold neO; rw [eqD_nil h] <;> rfl
theorem eqO_int (i j : Int) : eqO (.int i) (.int j) = some (.bl (i == j)) := rfl
theorem neO_int (i j : Int) : neO (.int i) (.int j) = some (.bl (!(i == j))) := rfl
theorem eqO_bl (i j : Bool) : eqO (.bl i) (.bl j) = some (.bl (i == j)) := rfl
theorem neO_bl (i j : Bool) : neO (.bl i) (.bl j) = some (.bl (!(i == j))) := rfl
/-! ### tuples of ints -/
def pyI (ns : List Int) : PyData := .tuple (ns.map .int)
theorem toPys_ints : ∀ ns : List Int, toPys (ns.map D.int) = some (ns.map PyData.int)
  | [] => rfl
  | n :: r => by
    rw [List.map_cons, List.map_cons]
    unfold toPys
    rw [toPys_ints r] <;> rfl
theorem toPy_tD (ns : List Int) : toPy (tD ns) = some (pyI ns) := by
  unfold tD toPy
  rw [toPys_ints] <;> rfl
theorem lay_ints : ∀ ns : List Int, PyData.canLayAll0 (ns.map PyData.int) = true ∧ PyData.depthAll (ns.map PyData.int) = 0
  | [] => ⟨rfl, rfl⟩
  | n :: r => by
    obtain ⟨h1, h2⟩ := lay_ints r
    refine ⟨?_, ?_⟩
    · show (true && PyData.canLayAll0 (r.map PyData.int)) = true
      rw [h1]; rfl
    · show max 0 (PyData.depthAll (r.map PyData.int)) = 0
      omega
theorem elE_int (i : Int) : elE (.int i) = true := rfl
theorem lay_pyI (ns : List Int) : PyData.canLay0 (pyI ns) = true ∧ PyData.depth (pyI ns) = 1 := by
  obtain ⟨h1, h2⟩ := lay_ints ns
  exact ⟨h1, by show PyData.depthAll (ns.map PyData.int) + 1 = 1; omega⟩
theorem elE_tD (ns : List Int) : elE (tD ns) = true := by
  unfold elE
  rw [toPy_tD]
  obtain ⟨h1, h2⟩ := lay_pyI ns
  simp only [h1, h2, Bool.true_and]; rfl
theorem eqvAll_ints : ∀ a b : List Int, PyData.eqvAll (a.map PyData.int) (b.map PyData.int) = decide (a = b)
  | [], [] => rfl
  | [], _ :: _ => rfl
  | _ :: _, [] => rfl
  | x :: a, y :: b => by
    show ((x == y) && PyData.eqvAll (a.map PyData.int) (b.map PyData.int)) = _
    rw [eqvAll_ints a b]
    by_cases h : x = y
    · by_cases h2 : a = b
      · simp [h, h2]
      · simp [h, h2]
    · simp [h]
theorem toPys_tups : ∀ ks : List (List Int), toPys (ks.map tD) = some (ks.map pyI)
  | [] => rfl
  | k :: r => by
    rw [List.map_cons, List.map_cons]
    unfold toPys
    rw [toPy_tD, toPys_tups r]
theorem lay_tups : ∀ ks : List (List Int), PyData.canLayAll0 (ks.map pyI) = true ∧ PyData.depthAll (ks.map pyI) ≤ 1
  | [] => ⟨rfl, Nat.zero_le _⟩
  | k :: r => by
    obtain ⟨h1, h2⟩ := lay_tups r
    obtain ⟨h3, h4⟩ := lay_pyI k
    refine ⟨?_, ?_⟩
    · show (PyData.canLay0 (pyI k) && PyData.canLayAll0 (r.map pyI)) = true
      rw [h1, h3]; rfl
    · show max (PyData.depth (pyI k)) (PyData.depthAll (r.map pyI)) ≤ 1
      omega
theorem any_pyI (k : List Int) (ks : List (List Int)) : ((ks.map pyI).any fun z => PyData.eqv z (pyI k)) = decide (k ∈ ks) := by
  induction ks with
  | nil => rfl
  | cons j r ih =>
    rw [List.map_cons, List.any_cons, ih]
    have e : PyData.eqv (pyI j) (pyI k) = decide (j = k) := eqvAll_ints j k
    rw [e]
    by_cases h : j = k
    · simp [h]
    · by_cases h2 : k ∈ r
      · simp [h2]
      · simp [h, h2, Ne.symm h, fun z => h (Eq.symm z)]
theorem inD_tups (k : List Int) (ks : List (List Int)) (sq : D) (hs : sq = .lst (ks.map tD) ∨ sq = .tup (ks.map tD)) : inD (tD k) sq = some (decide (k ∈ ks)) := by
  obtain ⟨h1, h2⟩ := lay_tups ks
  have e2 : seqPy sq = some (ks.map pyI) := by rcases hs with rfl | rfl <;> exact toPys_tups ks
  have s1 : SeqAt.shaped (pyI k) = true := by
    obtain ⟨h3, h4⟩ := lay_pyI k
    show (PyData.canLay0 (pyI k) && decide (PyData.depth (pyI k) ≤ 64)) = true
    rw [h3, h4]; rfl
  have s2 := shaped_list h1 (by omega)
  have e1 := toPy_tD k
  rcases hs with rfl | rfl
  · unfold inD
    simp only [e1, e2, s1, s2, Bool.and_self, if_true, any_pyI]
  · unfold inD
    simp only [e1, e2, s1, s2, Bool.and_self, if_true, any_pyI]
theorem inD_ints (k : Int) (ks : List Int) : inD (.int k) (.lst (ks.map .int)) = some (decide (k ∈ ks)) := by
  obtain ⟨h1, h2⟩ := lay_ints ks
  have e2 : seqPy (.lst (ks.map .int)) = some (ks.map PyData.int) := toPys_ints ks
  have s2 := shaped_list h1 (by omega)
  have e1 : toPy (.int k) = some (.int k) := rfl
  unfold inD
  simp only [e1, e2, show SeqAt.shaped (.int k) = true from rfl, s2, Bool.and_self, if_true, Option.some.injEq]
  clear e1 e2 s2 h1 h2
  induction ks with
  | nil => rfl
  | cons j r ih =>
    rw [List.map_cons, List.any_cons, ih]
    show ((j == k) || _) = _
    by_cases h : j = k
    · simp [h]
    · by_cases h2 : k ∈ r
      · simp [h2]
      · have q : (j == k) = false := by simpa using h
        have q2 : ¬ k = j := fun z => h z.symm
        rw [q, Bool.false_or]
        simp [h2, q2]
end DL
set_option linter.all false
set_option autoImplicit false
set_option maxRecDepth 100000
/-! DlQ: mirrors, step by step. -/
namespace DL
open PySem
section
variable {sl s s1 s2 : List S} {a b : SM} {t u : BM} {m ma mb mc : EM} {mn : NM} {d : D} {x : Bool} {i j k : Int}
theorem seq_nx (h : a sl = .nx s) : cSeq a b sl = b s := by unfold cSeq; rw [h]
theorem seq_rt (h : a sl = .rt d s) : cSeq a b sl = .rt d s := by unfold cSeq; rw [h]
theorem ifs_t (h : t sl = .ok true s) : cIfS t a b sl = a s := by unfold cIfS; rw [h]; rfl
theorem ifs_f (h : t sl = .ok false s) : cIfS t a b sl = b s := by unfold cIfS; rw [h]; rfl
theorem or_t (h : t sl = .ok true s) : cOr t u sl = .ok true s := by unfold cOr; rw [h]; rfl
theorem or_f (h : t sl = .ok false s) : cOr t u sl = u s := by unfold cOr; rw [h]; rfl
theorem and_t (h : t sl = .ok true s) : cAnd t u sl = u s := by unfold cAnd; rw [h]; rfl
theorem and_f (h : t sl = .ok false s) : cAnd t u sl = .ok false s := by unfold cAnd; rw [h]; rfl
theorem not_ok (h : t sl = .ok x s) : cNot t sl = .ok (!x) s := by unfold cNot; rw [h]; rfl
theorem test_ok (h : m sl = .ok (.bl x) s) : cTest m sl = .ok x s := by unfold cTest; rw [h]; rfl
theorem ofB_ok (h : t sl = .ok x s) : cOfB t sl = .ok (.bl x) s := by unfold cOfB; rw [h]; rfl
theorem ife_t (h : t sl = .ok true s) : cIfE t ma mb sl = ma s := by unfold cIfE; rw [h]; rfl
theorem ife_f (h : t sl = .ok false s) : cIfE t ma mb sl = mb s := by unfold cIfE; rw [h]; rfl
theorem ret_ok (h : m sl = .ok d s) : cRet m sl = .rt d s := by unfold cRet; rw [h]; rfl
theorem drop_ok (h : m sl = .ok d s) : cDrop m sl = .nx s := by unfold cDrop; rw [h]; rfl
theorem asg_ok {n : Nat} (h : m sl = .ok d s) (hn : n < s.length) : cAsg m (mName n) sl = .nx (sS s n (.v d)) := by unfold cAsg; rw [h]; simp only [bSR, mName, hn, if_true]
theorem asgO_ok {n : Nat} {mo : MO} (h : mn sl = .ok mo s) (h0 : n ≠ 0) (hn : n < s.length) : cAsgO mn n sl = .nx (sS s n (.o mo)) := by unfold cAsgO; rw [h]; simp only [bSR, h0, hn, ne_eq, not_false_eq_true, and_self, if_true]
theorem fz_ok {mo : MO} (h : mn sl = .ok mo s) : cFz mn sl = .ok mo.toD s := by unfold cFz; rw [h]; rfl
theorem op2_ok {f : D → D → Option D} {y z : D} (h1 : ma sl = .ok d s) (h2 : mb s = .ok y s1) (h3 : f d y = some z) : cOp2 f ma mb sl = .ok z s1 := by
  unfold cOp2; rw [h1]; simp only [ER.bind]; rw [h2]; simp only [h3, ofO]
theorem cons_ok {mr : AM} {ds : List D} (h1 : m sl = .ok d s) (h2 : mr s = .ok ds s1) : cCons m mr sl = .ok (d :: ds) s1 := by unfold cCons; rw [h1]; simp only [ER.bind]; rw [h2]
theorem cb_ok {f : List D → Option D} {mr : AM} {ds : List D} {z : D} (h1 : mr sl = .ok ds s) (h2 : f ds = some z) : cCB f mr sl = .ok z s := by unfold cCB; rw [h1]; simp only [ER.bind, h2, ofO]
theorem cbn_ok {f : List D → Option MO} {mr : AM} {ds : List D} {z : MO} (h1 : mr sl = .ok ds s) (h2 : f ds = some z) : cCBN f mr sl = .ok z s := by unfold cCBN; rw [h1]; simp only [ER.bind, h2, ofO]
theorem call_ok {F : List D → Option D} {n : Nat} {mr : AM} {ds : List D} {z : D} (h1 : mr sl = .ok ds s) (h2 : ds.length = n) (h3 : F ds = some z) : cCall (fun ds => if ds.length = n then F ds else none) mr sl = .ok z s := by
  unfold cCall; rw [h1]; simp only [ER.bind, h2, if_true, h3, ofO]
theorem callB_ok {F : MO → List D → Option (D × MO)} {n q : Nat} {mr : AM} {ds : List D} {z : D} {m0 m1 m2 : MO} (h0 : gS sl q = .o m0) (h1 : mr sl = .ok ds s) (h2 : gS s q = .o m1) (h3 : ds.length = n) (h4 : F m1 ds = some (z, m2)) :
    cCallB q (fun m ds => if ds.length = n then F m ds else none) mr sl = .ok z (sS s q (.o m2)) := by
  unfold cCallB; rw [h0]; simp only; rw [h1]; simp only [ER.bind, h2, h3, if_true, h4]
theorem chain_int {p q : Int → Int → Bool} (h1 : ma sl = .ok (.int i) s) (h2 : mb s = .ok (.int j) s1) (h3 : mc s1 = .ok (.int k) s1) : cChain (cmpD p) (cmpD q) ma mb mc sl = .ok (.bl (p i j && q j k)) s1 := by
  unfold cChain; rw [h1]; simp only [ER.bind]; rw [h2]; simp only [cmpD, Option.bind, asB, ofO, ER.bind]
  cases p i j with
  | false => rfl
  | true => simp only [if_true]; rw [h3]; rfl
theorem lc_ok {vs : List Nat} {mi : AM} {g : D → List S → Option (List S)} {e : EM} {ds : List D} {mo : MO} (h1 : mi sl = .ok ds s) (h2 : lcR vs g t e ds [] (wipeS s vs) = .ok mo s1) : cLc vs mi g t e sl = .ok mo s1 := by unfold cLc; rw [h1]; exact h2
theorem dc_ok {κ : Type} [DecidableEq κ] {kf : D → Option κ} {mk : List κ → List D → MO} {vs : List Nat} {mi : AM} {g : D → List S → Option (List S)} {ds : List D} {mo : MO} (h1 : mi sl = .ok ds s) (h2 : dcR kf mk vs g t ma mb ds [] [] (wipeS s vs) = .ok mo s1) : cDc kf mk vs mi g t ma mb sl = .ok mo s1 := by unfold cDc; rw [h1]; exact h2
theorem seqi_ok {xs : List D} (h : m sl = .ok d s) (h2 : seqD d = some xs) : cSeqI m sl = .ok xs s := by unfold cSeqI; rw [h]; simp only [ER.bind, h2, ofO]
theorem rng1_ok {mr : AM} (h : mr sl = .ok [.int j] s) (h2 : rngB j = true) : cRng1 mr sl = .ok (rngD 0 j) s := by unfold cRng1; rw [h]; simp only [ER.bind, h2, if_true]
theorem rng2_ok {mr : AM} (h : mr sl = .ok [.int i, .int j] s) (h1 : rngB i = true) (h2 : rngB j = true) : cRng2 mr sl = .ok (rngD i j) s := by unfold cRng2; rw [h]; simp only [ER.bind, h1, h2, Bool.and_self, if_true]
theorem for_ok {mi : AM} {g : D → List S → Option (List S)} {ds : List D} (h : mi sl = .ok ds s) : cFor mi g b sl = forR g b ds s := by unfold cFor; rw [h]; rfl
theorem meth_ok {q : Nat} {f : MO → List D → Option (D × MO)} {mr : AM} {xs : List D} {ds : List D} {z : D} {m1 m2 : MO} (h0 : gS sl q = .o (.lst xs)) (h1 : mr sl = .ok ds s) (h2 : gS s q = .o m1) (h3 : f m1 ds = some (z, m2)) : cMeth q f mr sl = .ok z (sS s q (.o m2)) := by
  unfold cMeth; rw [h0]; simp only; rw [h1]; simp only [ER.bind, h2, h3]
theorem runP_rt {N : Nat} {f : SM} {ds : List D} (h : f (iniP N ds) = .rt d s) : runP N f ds = some d := by unfold runP; rw [h]
theorem runP_nx {N : Nat} {f : SM} {ds : List D} (h : f (iniP N ds) = .nx s) : runP N f ds = some .non := by unfold runP; rw [h]
theorem runB_rt {N : Nat} {f : SM} {mo m2 : MO} {ds : List D} (h : f (.o mo :: iniP (N - 1) ds) = .rt d s) (h2 : gS s 0 = .o m2) : runB N f mo ds = some (d, m2) := by unfold runB; rw [h]; simp only [h2]
end
theorem rngB_of {i : Int} (h1 : -1000000000 ≤ i) (h2 : i ≤ 1000000000) : rngB i = true := by
  unfold rngB
  rw [Bool.and_eq_true]
  exact ⟨decide_eq_true (by omega), decide_eq_true (by omega)⟩
/-- a loop whose body goes on, with an invariant by the turn -/
theorem for_inv {g : D → List S → Option (List S)} {b : SM} (P : Nat → List S → Prop) : ∀ (ds : List D) (k : Nat) (sl : List S), P k sl → (∀ i d s, ds[i]? = some d → P (k + i) s → ∃ s1 s2, g d s = some s1 ∧ (b s1 = .nx s2 ∨ b s1 = .ct s2) ∧ P (k + i + 1) s2) →
    ∃ s2, forR g b ds sl = .nx s2 ∧ P (k + ds.length) s2
  | [], k, sl, h, _ => ⟨sl, rfl, h⟩
  | d :: r, k, sl, h, step => by
    obtain ⟨s1, s2, h1, h2, h3⟩ := step 0 d sl rfl h
    obtain ⟨s3, h4, h5⟩ := for_inv P r (k + 1) s2 h3 fun i e s hi hp => by
      obtain ⟨t1, t2, q1, q2, q3⟩ := step (i + 1) e s hi (by rw [show k + (i + 1) = k + 1 + i by omega]; exact hp)
      exact ⟨t1, t2, q1, q2, by rw [show k + 1 + i + 1 = k + (i + 1) + 1 by omega]; exact q3⟩
    refine ⟨s3, ?_, by rw [List.length_cons, show k + (r.length + 1) = k + 1 + r.length by omega]; exact h5⟩
    unfold forR
    rw [h1]
    rcases h2 with h2 | h2 <;> simp only [h2] <;> exact h4
theorem rngD_get {lo hi : Int} {i : Nat} {d : D} (h : (rngD lo hi)[i]? = some d) : d = .int (lo + i) ∧ (i : Int) < hi - lo := by
  unfold rngD at h
  rw [List.getElem?_map] at h
  cases e : (List.range (hi - lo).toNat)[i]? with
  | none => rw [e] at h; cases h
  | some j =>
    rw [e] at h
    obtain ⟨h1, h2⟩ := List.getElem?_eq_some_iff.mp e
    rw [List.getElem_range] at h2
    rw [List.length_range] at h1
    subst h2
    cases h
    exact ⟨rfl, by omega⟩
end DL
set_option linter.all false
set_option autoImplicit false
set_option maxRecDepth 100000
/-! DlN: instances of own classes. -/
namespace DL
open PySem PySem.Spec L2

/-- the class C of the module, made by its own __init__, with plain attributes -/
class ClsOk (K : PySem.W.Frag) (C : Addr) : Prop where
  ok : Cls K C
class FldOk (K : PySem.W.Frag) (C : Addr) (f : Str) : Prop where
  ok : NoAttr K C f
def lookD : List Str → List D → Str → Option D
  | n :: ns, d :: ds, f => if f == n then some d else lookD ns ds f
  | _, _, _ => none
theorem lookD_rep {K : PySem.W.Frag} {A : Hp} {f : Str} {d : D} : ∀ {ns : List Str} {ds : List D} {vs : List V}, Reps K A ds vs → lookD ns ds f = some d → ∃ v, (ns.zip vs).lookup f = some v ∧ Rep K A d v
  | [], _, _, _, e => by cases e
  | n :: ns, _, _, .nil, e => by cases e
  | n :: ns, _, _, .cons a b, e => by
    unfold lookD at e
    rw [List.zip_cons_cons, List.lookup_cons]
    cases q : f == n with
    | true => simp only [q, if_true] at e; cases e; exact ⟨_, rfl, a⟩
    | false => simp only [q, Bool.false_eq_true, if_false] at e; exact lookD_rep b e
def cFld (C : Addr) (f : Str) (m : EM) : EM := fun sl => (m sl).bind fun d s => match d with
  | .ins C' ns ds => if C' = C then ofO (lookD ns ds f) s else .bad
  | _ => .bad
/-- e.f of an instance of C -/
def tFldC (K : PySem.W.Frag) (C : Addr) (ta : TE) (f : Str) : TE := tFld K ta f
instance {K : PySem.W.Frag} {W : WX} {C : Addr} {f : Str} {te : TE} {me : EM} [he : EX K W te me] [hc : ClsOk K C] [hf : FldOk K C f] : EX K W (tFldC K C te f) (cFld C f me) := ⟨fun c σ H sl Q s h => by
  refine he.ok c σ H sl _ s (h.split.imp fun x H1 ⟨d, s1, _, i1, r1, l1, h1⟩ => ?_)
  cases r1 with
  | @ins a C' dx ns vs ds q l r =>
    simp only at h1
    by_cases w : C' = C
    · subst w
      rw [if_pos rfl] at h1
      cases e : lookD ns ds f with
      | none => rw [e] at h1; exact h1.elim
      | some z =>
        rw [e] at h1
        obtain ⟨v, e1, e2⟩ := lookD_rep r e
        exact ⟨a, C', dx, ns.zip vs, v, rfl, (Hm_some.mp q).2, hc.ok, hf.ok, e1, h1 v H1 i1 e2 Le.rfl⟩
    · rw [if_neg w] at h1; exact h1.elim
  | _ => exact h1.elim⟩
/-! ### a new one -/
def cMake (C : Addr) (n : Nat) (F : MO → List D → Option (D × MO)) (m : AM) : NM := fun sl => (m sl).bind fun ds s => if ds.length = n then (match F (.ins C [] []) ds with
  | some (.non, m') => .ok m' s
  | _ => .bad) else .bad
instance make_nx {K : PySem.W.Frag} {W : WX} {C : Addr} {n : Nat} {F : MO → List D → Option (D × MO)} {E : XK} {ta : TA} {ma : AM} [ha : AX K W ta ma] : NX K W (tMake C (spB K n F) [] E ta) (cMake C n F ma) := ⟨fun c σ H sl Q s h => by
  refine ha.ok c σ H sl _ s (h.split.imp fun ws H1 ⟨ds, s1, _, i1, r1, l1, h1⟩ x dx nx nd ne => ?_)
  by_cases hl : ds.length = n
  case neg => simp only [hl, if_false] at h1; exact h1.elim
  simp only [hl, if_true] at h1
  cases e : F (.ins C [] []) ds with
  | none => rw [e] at h1; exact h1.elim
  | some zm =>
    obtain ⟨z, m'⟩ := zm
    rw [e] at h1
    cases z with
    | non =>
      simp only at h1
      have up : ∀ b ob, H1 b = some ob → b ≠ x ∧ upd (upd H1 dx (.own x)) x (.ins C dx []) b = some ob := fun b ob q => by
        have n1 := ne_of_none q nx
        have n2 := ne_of_none q nd
        exact ⟨n1, by rw [upd_ne n1, upd_ne n2]; exact q⟩
      refine ⟨x, .ins C [] [], .ins C dx [], ws, ds, Hid c s1 σ, .non, m', by rw [List.append_nil], hl, ⟨fun b q => ?_, i1.tab.ext fun b ob q => (up b ob q).2⟩, fun q => i1.fresh nx q, upd_same, ⟨dx, [], rfl, rfl, .nil⟩, r1.le fun b ob q _ => ?_, e, fun u H2 o' fr tb hx hr ru => ?_⟩
      · obtain ⟨ob, q1, q2⟩ := i1.hiddenU q
        exact ⟨ob, (up b ob q1).2, q2⟩
      · obtain ⟨q1, q2⟩ := Hm_some.mp q
        obtain ⟨q3, q4⟩ := up b ob q2
        exact Hm_some.mpr ⟨fun w => w.elim q1 q3, q4⟩
      · cases ru
        refine ⟨rfl, ?_⟩
        have le : Le H1 (del H2 x) := fun b ob q nt => by
          obtain ⟨q3, q4⟩ := up b ob q
          rw [del_ne q3]
          exact fr b ob q3 q4 nt
        have z := h1 x o' (del H2 x) (i1.le le (tabs_del tb hx hr.nt hr.nc)) del_self (hr.le fun b ob q _ => by
          obtain ⟨q1, q2⟩ := Hm_some.mp q
          refine Hm_some.mpr ⟨fun w => q1 (.inl w), ?_⟩
          rw [del_ne fun w => q1 (.inr w)]
          exact q2) (fz_same le)
        rw [del_upd hx] at z
        exact z
    | _ => exact h1.elim⟩
instance make_ex {K : PySem.W.Frag} {W : WX} {C : Addr} {n : Nat} {F : MO → List D → Option (D × MO)} {E : XK} {ta : TA} {ma : AM} [ha : AX K W ta ma] : EX K W (tMake C (spB K n F) [] E ta) (cFz (cMake C n F ma)) := (make_nx).ex
/-! ### self.f = e -/
def putN : List Str → Str → List Str
  | [], f => [f]
  | n :: ns, f => if n = f then n :: ns else n :: putN ns f
def putV {α : Type} : List Str → List α → Str → α → List α
  | n :: ns, e :: ds, f, d => if n = f then d :: ds else e :: putV ns ds f d
  | _, _, _, d => [d]
theorem putF_zip {f : Str} {v : V} : ∀ {ns : List Str} {vs : List V}, ns.length = vs.length → putF f v (ns.zip vs) = (putN ns f).zip (putV ns vs f v) ∧ (putN ns f).length = (putV ns vs f v).length
  | [], [], _ => ⟨rfl, rfl⟩
  | n :: ns, e :: vs, h => by
    obtain ⟨h1, h2⟩ := putF_zip (f := f) (v := v) (ns := ns) (vs := vs) (by simpa using h)
    rw [List.zip_cons_cons]
    unfold putF putN putV
    by_cases q : n = f
    · rw [if_pos q, if_pos q, if_pos q]
      refine ⟨by rw [List.zip_cons_cons], ?_⟩
      rw [List.length_cons, List.length_cons]
      simpa using h
    · rw [if_neg q, if_neg q, if_neg q]
      exact ⟨by rw [List.zip_cons_cons, h1], by rw [List.length_cons, List.length_cons, h2]⟩
theorem putV_reps {K : PySem.W.Frag} {A : Hp} {f : Str} {d : D} {v : V} (r : Rep K A d v) : ∀ {ns : List Str} {ds : List D} {vs : List V}, Reps K A ds vs → Reps K A (putV ns ds f d) (putV ns vs f v)
  | [], _, _, q => .cons r .nil
  | n :: ns, _, _, .nil => .cons r .nil
  | n :: ns, _, _, .cons a b => by
    unfold putV
    by_cases q : n = f
    · rw [if_pos q, if_pos q]; exact .cons r b
    · rw [if_neg q, if_neg q]; exact .cons a (putV_reps r b)
def cSetF (i : Nat) (C : Addr) (f : Str) (m : EM) : SM := fun sl => bSR (m sl) fun d s => match gS s i with
  | .o (.ins C' ns ds) => if C' = C ∧ ns.length < 1000 then .nx (sS s i (.o (.ins C' (putN ns f) (putV ns ds f d)))) else .bad
  | _ => .bad
def sFldC (K : PySem.W.Frag) (C : Addr) (ta tv : TE) (f : Str) : TS := sFld K ta tv f
instance {K : PySem.W.Frag} {W : WX} {C : Addr} {f : Str} {i : Nat} {te : TE} {me : EM} [he : EX K W te me] [hc : ClsOk K C] [hf : FldOk K C f] : SX K W (sFldC K C (tVarB i) te f) (cSetF i C f me) := ⟨fun c σ H sl Dn s h => by
  refine he.ok c σ H sl _ s (h.split.imp fun x H1 ⟨d, s1, _, i1, r1, l1, h1⟩ => ?_)
  cases g : gS s1 i with
  | no => simp only [g] at h1; exact h1.elim
  | q n => simp only [g] at h1; exact h1.elim
  | v d => simp only [g] at h1; exact h1.elim
  | o m =>
    cases m with
    | ins C' ns ds =>
      simp only [g] at h1
      obtain ⟨a, o, hσ, nU, _, hH, hr⟩ := get_o i1 g
      by_cases w : C' = C ∧ ns.length < 1000
      · rw [if_pos w] at h1
        obtain ⟨w1, w2⟩ := w
        subst w1
        obtain ⟨dx, vs, rfl, hl, rv⟩ := hr
        obtain ⟨z1, z2⟩ := putF_zip (f := f) (v := x) hl
        refine ⟨.ref a, hσ, a, C', dx, ns.zip vs, rfl, hH, hc.ok, hf.ok, by rw [List.length_zip]; omega, ?_⟩
        rw [z1]
        obtain ⟨s2, l2⟩ := i1.putO (m' := .ins C' (putN ns f) (putV ns ds f d)) (o := .ins C' dx ((putN ns f).zip (putV ns vs f x))) g hσ ⟨dx, _, rfl, z2, putV_reps r1 rv⟩
        exact h1 σ _ s2 l2
      · rw [if_neg w] at h1; exact h1.elim
    | _ => simp only [g] at h1; exact h1.elim⟩

/-! ### x += e, ints -/
def cAug (i : Nat) (m : EM) : SM := fun sl => match gS sl i with
  | .v (.int a) => bSR (m sl) fun d s => (match d with
    | .int b => if i < s.length then .nx (sS s i (.v (.int (a + b)))) else .bad
    | _ => .bad)
  | _ => .bad
instance {K : PySem.W.Frag} {W : WX} {i : Nat} {te : TE} {me : EM} [he : EX K W te me] : SX K W (tAug i te (ipI fun i j => i + j)) (cAug i me) := ⟨fun c σ H sl Dn s h => by
  unfold cAug at h
  cases g : gS sl i with
  | no => rw [g] at h; exact h.elim
  | q n => rw [g] at h; exact h.elim
  | o m => rw [g] at h; exact h.elim
  | v d0 =>
    cases d0 with
    | int a =>
      simp only [g] at h
      obtain ⟨v, h1, h2⟩ := get_v s g
      cases h2
      refine ⟨.int a, h1, he.ok c σ H sl _ s (h.split.imp fun x H1 ⟨d, s1, _, i1, r1, l1, h1⟩ => ?_)⟩
      cases r1 with
      | int b =>
        simp only at h1
        by_cases w : i < s1.length
        · rw [if_pos w] at h1
          obtain ⟨s2, l2⟩ := i1.setV (i := i) (d := .int (a + b)) (.int _) w
          exact ⟨a, b, rfl, rfl, h1 _ _ s2 l2⟩
        · rw [if_neg w] at h1; exact h1.elim
      | _ => exact h1.elim
    | _ => simp only [g] at h; exact h.elim⟩
end DL
set_option linter.all false
set_option autoImplicit false
set_option maxRecDepth 100000
/-! DlO: methods of texts, list of a range, the greatest. -/
namespace DL
open PySem PySem.Spec L2

/-! ### methods of a text -/
class MT (K : PySem.W.Frag) (r : V → List V → Hp → VK → Prop) (f : outParam (Str → List D → Option D)) : Prop where
  ok : ∀ (H : Hp) (U : Addr → Prop) (x : Str) (vs : List V) (ds : List D) (z : D) (Q : VK), HidOk H U → Reps K (Hm H U) ds vs → f x ds = some z → (∀ u H', Same H H' → Rep K (Hm H' U) z u → Q u H') → r (.str x) vs H Q
def cMT (f : Str → List D → Option D) (me : EM) (ma : AM) : EM := fun sl => (me sl).bind fun d s => match d with
  | .str x => (ma s).bind fun ds s1 => ofO (f x ds) s1
  | _ => .bad
/-- a method of a text, with arguments -/
def tBMT (K : PySem.W.Frag) (r : V → List V → Hp → VK → Prop) (to : TE) (t : TA) : TE := tBM K "str" r to t
def tBMT0 (K : PySem.W.Frag) (r : V → List V → Hp → VK → Prop) (to : TE) : TE := tBM0 K "str" r to
section
variable {K : PySem.W.Frag} {W : WX} {te : TE} {me : EM} {ta : TA} {ma : AM} {r : V → List V → Hp → VK → Prop} {f : Str → List D → Option D}
instance mt_ex [he : EX K W te me] [ha : AX K W ta ma] [hm : MT K r f] : EX K W (tBMT K r te ta) (cMT f me ma) := ⟨fun c σ H sl Q s h => by
  refine he.ok c σ H sl _ s (h.split.imp fun x H1 ⟨d, s1, _, i1, r1, l1, h1⟩ => ?_)
  cases r1 with
  | str x =>
    refine ⟨rfl, ha.ok c σ H1 s1 _ i1 (h1.split.imp fun ys H2 ⟨ds, s2, _, i2, r2, l2, h2⟩ => ?_)⟩
    cases e : f x ds with
    | none => rw [e] at h2; exact h2.elim
    | some z => rw [e] at h2; exact hm.ok H2 _ x ys ds z Q i2.hid r2 e (h2.op i2)
  | _ => exact h1.elim⟩
instance mt0_ex [he : EX K W te me] [hm : MT K r f] : EX K W (tBMT0 K r te) (cMT f me cNil) := ⟨fun c σ H sl Q s h => by
  refine he.ok c σ H sl _ s (h.split.imp fun x H1 ⟨d, s1, _, i1, r1, l1, h1⟩ => ?_)
  cases r1 with
  | str x =>
    refine ⟨rfl, ?_⟩
    have h1 : POk K W c σ (Rep K) H1 s1 (ofO (f x []) s1) Q := h1
    cases e : f x [] with
    | none => rw [e] at h1; exact h1.elim
    | some z => rw [e] at h1; exact hm.ok H1 _ x [] [] z Q i1.hid .nil e (h1.op i1)
  | _ => exact h1.elim⟩
end
def rStrip1 : V → List V → Hp → VK → Prop := fun x xs H Q => ∃ a b, x = .str a ∧ xs = [.str b] ∧ a.length ≤ sizeLine ∧ Q (.str (Txt.stripChars a b)) H
def stripF (x : Str) : List D → Option D
  | [.str b] => if x.length ≤ sizeLine then some (.str (Txt.stripChars x b)) else none
  | _ => none
instance (K : PySem.W.Frag) : MT K rStrip1 stripF := ⟨fun H U x vs ds z Q hU r e h => by
  cases r with
  | nil => cases e
  | cons ra rr =>
    cases rr with
    | cons _ _ => cases ra <;> cases e
    | nil =>
      cases ra with
      | str b =>
        unfold stripF at e
        by_cases q : x.length ≤ sizeLine
        · simp only [q, if_true] at e
          cases e
          exact ⟨x, b, rfl, rfl, q, h _ H (Same.refl _) (.str _)⟩
        · simp only [q, if_false] at e; cases e
      | _ => cases e⟩
def strsD : List D → Option (List Str)
  | [] => some []
  | .str x :: r => (strsD r).map (x :: ·)
  | _ => none
theorem reps_strs {K : PySem.W.Frag} {A : Hp} : ∀ {ds : List D} {vs : List V} {bs : List Str}, Reps K A ds vs → strsD ds = some bs → vs = bs.map V.str
  | _, _, _, .nil, e => by cases e; rfl
  | _, _, bs, .cons a b, e => by
    cases a with
    | @str k =>
      unfold strsD at e
      rename_i ds vs
      cases q : strsD ds with
      | none => rw [q] at e; cases e
      | some r => rw [q] at e; cases e; rw [List.map_cons, reps_strs b q]
    | _ => cases e
def rJoin1 (K : PySem.W.Frag) : V → List V → Hp → VK → Prop := fun x xs H Q => ∃ a p, ∃ ys : List Str, x = .str a ∧ xs = [.ref p] ∧ (SqL K H p (ys.map V.str) ∨ SqT K H p (ys.map V.str)) ∧ (ys.map (·.length)).sum + ys.length * a.length ≤ 16777216 ∧ Q (.str (Txt.join a ys)) H
def joinF (x : Str) : List D → Option D
  | [.lst ds] => (match strsD ds with
    | some ys => if (ys.map (·.length)).sum + ys.length * x.length ≤ 16777216 then some (.str (Txt.join x ys)) else none
    | none => none)
  | [.tup ds] => (match strsD ds with
    | some ys => if (ys.map (·.length)).sum + ys.length * x.length ≤ 16777216 then some (.str (Txt.join x ys)) else none
    | none => none)
  | _ => none
instance (K : PySem.W.Frag) : MT K (rJoin1 K) joinF := ⟨fun H U x vs ds z Q hU r e h => by
  cases r with
  | nil => cases e
  | cons ra rr =>
    cases rr with
    | cons _ _ => cases ra <;> cases e
    | nil =>
      cases ra with
      | @lst p ws ds s r =>
        unfold joinF at e
        cases w : strsD ds with
        | none => simp only [w] at e; cases e
        | some ys =>
          simp only [w] at e
          by_cases q : (ys.map (·.length)).sum + ys.length * x.length ≤ 16777216
          · rw [if_pos q] at e
            cases e
            exact ⟨x, p, ys, rfl, rfl, .inl (by rw [← reps_strs r w]; exact SqL.of (Hm_some.mp s).2), q, h _ H (Same.refl _) (.str _)⟩
          · rw [if_neg q] at e; cases e
      | @tup p ws ds s r =>
        unfold joinF at e
        cases w : strsD ds with
        | none => simp only [w] at e; cases e
        | some ys =>
          simp only [w] at e
          by_cases q : (ys.map (·.length)).sum + ys.length * x.length ≤ 16777216
          · rw [if_pos q] at e
            cases e
            exact ⟨x, p, ys, rfl, rfl, .inr (by rw [← reps_strs r w]; exact SqT.of (Hm_some.mp s).2), q, h _ H (Same.refl _) (.str _)⟩
          · rw [if_neg q] at e; cases e
      | _ => cases e⟩

/-! ### list(range(..)) -/
theorem rgV_reps {K : PySem.W.Frag} {A : Hp} (a b : Int) : Reps K A (rngD a b) (rgV a b) := by
  unfold rngD rgV
  induction List.range (b - a).toNat with
  | nil => exact .nil
  | cons n r ih => exact .cons (.int _) ih
def rgOk (a b : Int) : Bool := decide (-1000000 ≤ a) && decide (a ≤ 1000000) && (decide (-1000000 ≤ b) && decide (b ≤ 1000000))
theorem rgOk_ok {a b : Int} (h : rgOk a b = true) : RgOk a b := by
  unfold rgOk at h
  simp only [Bool.and_eq_true, decide_eq_true_eq] at h
  exact ⟨by omega, by omega, by omega, by omega, by omega⟩
def cLrg1 (m : EM) : NM := fun sl => (m sl).bind fun d s => match d with
  | .int n => if rgOk 0 n = true then .ok (.lst (rngD 0 n)) s else .bad
  | _ => .bad
def cLrg2 (ma mb : EM) : NM := fun sl => (ma sl).bind fun x s => (mb s).bind fun y s1 => match x, y with
  | .int i, .int j => if rgOk i j = true then .ok (.lst (rngD i j)) s1 else .bad
  | _, _ => .bad
section
variable {K : PySem.W.Frag} {W : WX} {ta tb : TE} {ma mb : EM}
instance lrg1_nx [ha : EX K W ta ma] : NX K W (tLstRg (tRg1 ta)) (cLrg1 ma) := ⟨fun c σ H sl Q s h => by
  refine ha.ok c σ H sl _ s (h.split.imp fun x H1 ⟨d, s1, _, i1, r1, l1, h1⟩ => ?_)
  cases r1 with
  | int n =>
    simp only at h1
    by_cases q : rgOk 0 n = true
    · rw [if_pos q] at h1
      exact ⟨n, rfl, rgOk_ok q, fun p hp => h1 p _ H1 i1 hp ⟨_, rfl, rgV_reps 0 n⟩ Le.rfl⟩
    · rw [if_neg q] at h1; exact h1.elim
  | _ => exact h1.elim⟩
instance lrg2_nx [ha : EX K W ta ma] [hb : EX K W tb mb] : NX K W (tLstRg (tRg2 ta tb)) (cLrg2 ma mb) := ⟨fun c σ H sl Q s h => by
  refine ha.ok c σ H sl _ s (h.split.imp fun x H1 ⟨d, s1, _, i1, r1, l1, h1⟩ => ?_)
  refine hb.ok c σ H1 s1 _ i1 (h1.split.imp fun y H2 ⟨e, s2, _, i2, r2, l2, h2⟩ => ?_)
  cases r1 with
  | int i =>
    cases r2 with
    | int j =>
      simp only at h2
      by_cases q : rgOk i j = true
      · rw [if_pos q] at h2
        exact ⟨i, j, rfl, rfl, rgOk_ok q, fun p hp => h2 p _ H2 i2 hp ⟨_, rfl, rgV_reps i j⟩ Le.rfl⟩
      · rw [if_neg q] at h2; exact h2.elim
    | _ => exact h2.elim
  | _ => cases r2 <;> exact h2.elim⟩
instance lrg1_ex [ha : EX K W ta ma] : EX K W (tLstRg (tRg1 ta)) (cFz (cLrg1 ma)) := (lrg1_nx).ex
instance lrg2_ex [ha : EX K W ta ma] [hb : EX K W tb mb] : EX K W (tLstRg (tRg2 ta tb)) (cFz (cLrg2 ma mb)) := (lrg2_nx).ex
end

/-! ### max of ints -/
def rMaxTu (K : PySem.W.Frag) : List V → Hp → VK → Prop := fun vs H Q => ∃ (a : Addr) (n : Int) (ns : List Int), vs = [V.ref a] ∧ SqT K H a ((n :: ns).map V.int) ∧ Q (.int (ns.foldl max n)) H
theorem reads_ints {h : Heap} : ∀ {ns : List Int} {us : List Value}, Vals (ns.map V.int) us → ReadsAll h us (ns.map PyData.int) (List.replicate 0 0)
  | [], _, r => by cases r; exact .nil
  | n :: ns, _, r => by
    cases r with
    | @cons x u xs us a b =>
      obtain ⟨t, rfl⟩ := a
      exact .cons (as := []) (bs := []) (.int n t) (reads_ints b)
theorem depth_ints : ∀ ns : List Int, PyData.depthAll (ns.map PyData.int) = 0
  | [] => rfl
  | n :: r => by
    show max 0 (PyData.depthAll (r.map PyData.int)) = 0
    rw [depth_ints r]; rfl
theorem cr_maxTu {X : Cx} (hc : X.calm = true) (hu : X.A.units + 4 < cLine) : CallR X (.builtin "max") (rMaxTu X.K) := by
  intro pins s σ H vs us Q I r h
  obtain ⟨a, n, ns, rfl, hs, q⟩ := h
  obtain ⟨its, rv, ht, hz⟩ := I.tuple hs
  rw [Vals.ref1 r]
  have ra := reads_ints (h := s.heap) rv
  refine PySem.W.max_tuple_data (I.ok.hd hc) (show s.heap.IsTuple a its.toArray from ht) (by simpa using ra) ⟨fun x hx y hy => ?_, fun x hx => ?_⟩ ?_ fun i v h' tk bs hv rd hk => ?_
  · have hx : x ∈ (n :: ns).map PyData.int := hx
    have hy : y ∈ (n :: ns).map PyData.int := hy
    obtain ⟨i, _, rfl⟩ := List.mem_map.mp hx
    obtain ⟨j, _, rfl⟩ := List.mem_map.mp hy
    rfl
  · have hx : x ∈ (n :: ns).map PyData.int := hx
    obtain ⟨i, _, rfl⟩ := List.mem_map.mp hx
    exact fun z => nomatch z
  · have := depth_ints (n :: ns)
    have e : PyData.depthAll (PyData.int n :: ns.map PyData.int) = 0 := this
    rw [e]
    omega
  · rw [PySem.W.maxD_ints] at rd
    cases rd with
    | int _ t => exact ⟨.int _, H, I.kept hk, ⟨_, rfl⟩, q⟩
def rMaxS (K : PySem.W.Frag) : List V → Hp → VK → Prop := fun vs H Q => rMaxTu K vs H Q ∨ rMax K vs H Q
theorem cr_maxS {X : Cx} (hc : X.calm = true) (hu : X.A.units + 4 < cLine) : CallR X (.builtin "max") (rMaxS X.K) := CallR.or (cr_maxTu hc hu) (cr_max hc)
def maxDS : List D → Option D
  | [.tup xs] => (match intsD xs with
    | some (n :: ns) => some (.int (ns.foldl max n))
    | _ => none)
  | [.lst xs] => (match intsD xs with
    | some (n :: ns) => some (.int (ns.foldl max n))
    | _ => none)
  | _ => none
theorem fold_max : ∀ (ns : List Int) (n : Int), (ns.foldl max n = n ∨ ns.foldl max n ∈ ns) ∧ n ≤ ns.foldl max n ∧ ∀ y ∈ ns, y ≤ ns.foldl max n
  | [], n => ⟨.inl rfl, Int.le_refl _, fun _ h => by cases h⟩
  | m :: r, n => by
    rw [List.foldl_cons]
    obtain ⟨h1, h2, h3⟩ := fold_max r (max n m)
    refine ⟨?_, by omega, fun y hy => ?_⟩
    · rcases h1 with h1 | h1
      · rw [h1]
        by_cases q : n ≤ m
        · rw [Int.max_eq_right q]; exact .inr List.mem_cons_self
        · rw [Int.max_eq_left (by omega)]; exact .inl rfl
      · exact .inr (List.mem_cons_of_mem _ h1)
    · rcases List.mem_cons.mp hy with rfl | hy
      · omega
      · exact h3 y hy
instance (K : PySem.W.Frag) : OpL K (rMaxS K) maxDS := ⟨fun H U xs as z Q hU r e h => by
  cases r with
  | nil => cases e
  | cons ra rr =>
    cases rr with
    | cons _ _ => cases ra <;> cases e
    | nil =>
      cases ra with
      | @tup p ws ds s r =>
        unfold maxDS at e
        cases w : intsD ds with
        | none => simp only [w] at e; cases e
        | some ks =>
          cases ks with
          | nil => simp only [w] at e; cases e
          | cons n ns =>
            simp only [w] at e
            cases e
            have e1 := intsD_eq w
            subst e1
            have e2 := reps_ints (ns := n :: ns) r
            exact .inl ⟨p, n, ns, rfl, by rw [← e2]; exact SqT.of (Hm_some.mp s).2, h _ H (Same.refl _) (.int _)⟩
      | @lst p ws ds s r =>
        unfold maxDS at e
        cases w : intsD ds with
        | none => simp only [w] at e; cases e
        | some ks =>
          cases ks with
          | nil => simp only [w] at e; cases e
          | cons n ns =>
            simp only [w] at e
            cases e
            have e1 := intsD_eq w
            subst e1
            have e2 := reps_ints (ns := n :: ns) r
            refine .inr ⟨p, n :: ns, rfl, by rw [← e2]; exact SqL.of (Hm_some.mp s).2, Nat.succ_pos _, fun m h1 h2 => ?_⟩
            obtain ⟨a, b, c⟩ := fold_max ns n
            have e3 : m = ns.foldl max n := by
              have q1 : ns.foldl max n ≤ m := h2 _ (by rcases a with a | a; · rw [a]; exact List.mem_cons_self
                                                       · exact List.mem_cons_of_mem _ a)
              have q2 : m ≤ ns.foldl max n := by
                rcases List.mem_cons.mp h1 with rfl | h1
                · exact b
                · exact c m h1
              omega
            rw [e3]
            exact h _ H (Same.refl _) (.int _)
      | _ => cases e⟩
end DL
set_option linter.all false
set_option autoImplicit false
set_option maxRecDepth 100000
/-! DlR: the rules for instances, methods of texts, ranges, the places written out. -/
namespace DL
open PySem PySem.Spec L2
section
variable (K : PySem.W.Frag) {X : Cx}
theorem kpe_fld (C : Addr) {e : Expr} {f : Str} {pos : Pos} {ta : TE} (he : PE X e ta) (hb : attributeBase e f X.env (eval e X.env) = eval e X.env := by rfl) (h : X.K = K := by rfl) : PE X (.Attribute e f pos) (tFldC K C ta f) := h ▸ pe_fld he hb
theorem kps_fld (C : Addr) {o value : Expr} {f : Str} {pos pos' : Pos} {ta tv : TE} (ha : PE X o ta) (hv : PE X value tv) (hs : swapsWith value (some (.Attribute o f pos')) pos.line X.env = pure false := by rfl) (h : X.K = K := by rfl) :
    PS X (.Assign [.Attribute o f pos'] value pos) (sFldC K C ta tv f) := h ▸ ps_fld ha hv hs
theorem kps_aug {i : Nat} {x : Str} {e : Expr} {te : TE} {pos pos' : Pos} (hN : X.N.Nodup) (hi : X.N[i]? = some x) (hx : Loc X.env.scope x) (he : PE X e te) (hf : X.fn x = true ∨ X.env.scope.names.lookup x = some .local := by first | exact .inl rfl | exact .inr rfl | assumption) :
    PS X (.AugAssign (.Name x pos') .Add e pos) (tAug i te (ipI fun i j => i + j)) := ps_aug hN hi hx he ip_add hf
theorem kcr_maxS (hu : X.A.units + 4 < cLine) (hc : X.calm = true := by rfl) (h : X.K = K := by rfl) : CallR X (.builtin "max") (rMaxS K) := h ▸ cr_maxS hc hu
theorem k_strip : MtR X "str.strip" rStrip1 := mt_stripChars
theorem k_join (h : X.K = K := by rfl) : MtR X "str.join" (rJoin1 K) := h ▸ mt_join
theorem kpe_txt {o e : Expr} {es : List Expr} {to : TE} {t : TA} {name : Str} {apos cpos : Pos} {id : String} {r : V → List V → Hp → VK → Prop} (pa : PlainAttrs "str") (slot : Slot "str" name id) (hty : typeOf (.builtin id) = pure (.type "method_descriptor")) (hm : MtR X id r) (ho : PE X o to) (ha : PA X (e :: es) t)
    (hbase : attributeBase o name X.env (eval o X.env) = eval o X.env := by rfl)
    (hfew : ((backTo cpos (starEach (e :: es) X.env)).all (fun x => !x.1) && (backToKw cpos (keywordEach [] X.env)).all (fun x => x.1.isSome)
      && decide ((e :: es).length + ([] : List Keyword).length + (if ([] : List Keyword).isEmpty then 0 else 1) < 30)) = true := by rfl)
    (hline : (apos.endLine == cpos.line) = true := by rfl) (hs : starEach (e :: es) X.env = (false, eval e X.env) :: starEach es X.env := by rfl) (hplain : (backTo cpos (starEach es X.env)).any (·.1) = false := by rfl) (h : X.K = K := by rfl) :
    PE X (.Call (.Attribute o name apos) (e :: es) [] cpos) (tBMT K r to t) := h ▸ pe_bm pa slot hty hm ho ha hbase hfew hline hs hplain
end
/-- a class of one's own stands in the module at C, its __init__ keeps the promise sp -/
def Cn (P : Program) (w : World) (K : PySem.W.Frag) (mg : Str → Option Value) (base : Heap) (k : Nat) (x : Str) (C : Addr) (ps : List Str) (sp : Sp) : Prop :=
  ∃ f fd, Mk K C f ∧ FnOk P w K mg base CX0 k f fd ps sp ∧ mg x = some (.ref C) ∧ Binds K fd ps []
theorem pe_makeC {X : Cx} {k : Nat} {x : Str} {C : Addr} {ps : List Str} {sp : Sp} {e : Expr} {es : List Expr} {t : TA} {p pos : Pos} (d : Cn X.prog X.w X.K X.mg X.base k x C ps sp) (hr : Room (k + 1) X.A) (hg : Gl X x) (ha : PA X (e :: es) t)
    (hdb : (x == ("__debug__" : Str)) = false := by decide) (he : starEach (e :: es) X.env = (false, eval e X.env) :: starEach es X.env := by rfl) (hpl : (backTo pos (starEach es X.env)).any (·.1) = false := by rfl) :
    PE X (.Call (.Name x p) (e :: es) [] pos) (tMake C sp [] E0 t) := by
  obtain ⟨f, fd, M, F, gm, b⟩ := d
  exact pe_make M F hr hg gm b .nil pass0 ha hdb he hpl
end DL
set_option linter.all false
set_option autoImplicit false
set_option maxRecDepth 100000
/-! DlS: a table of texts that the module holds. -/
namespace DL
open PySem PySem.Spec L2
/-- the module's own tuple of texts -/
def tTab (K : PySem.W.Frag) (ws : List Str) : TE := fun _ H Q => ∀ a, (∀ H', SqT K H' a (ws.map V.str)) → Q (.ref a) H
theorem kpe_tab (K : PySem.W.Frag) {X : Cx} {x : Str} {a : Addr} {ws : List Str} {pos : Pos} (hm : X.mg x = some (.ref a)) (hs : ∀ H', SqT K H' a (ws.map V.str)) (hg : Gl X x := by rfl) (hd : (x == ("__debug__" : Str)) = false := by decide) : PE X (.Name x pos) (tTab K ws) :=
  ⟨fun pins s σ H Q I h => (pe_glob hg hm (v := .ref a) rfl hd).run pins s σ H Q I (h a hs)⟩
def tabQ (ws : List Str) (x : Str) : Bool := (ws.map PyData.str).any fun z => PyData.eqv z (.str x)
def tabS (ws : List Str) (x : Str) : Bool := SeqAt.shaped (.str x) && SeqAt.shaped (.tuple (ws.map PyData.str))
def cNinTab (ws : List Str) (m : EM) : EM := fun sl => (m sl).bind fun d s => match d with
  | .str x => if tabS ws x = true then .ok (.bl (!tabQ ws x)) s else .bad
  | _ => .bad
theorem dp_strs {K : PySem.W.Frag} {H : Hp} : ∀ ws : List Str, DpAll K H (ws.map V.str) (ws.map PyData.str)
  | [] => .nil
  | w :: r => .cons (.str w) (dp_strs r)
instance (priority := high) {K : PySem.W.Frag} {W : WX} {te : TE} {me : EM} {ws : List Str} [he : EX K W te me] : EX K W (tOp (rNinA K) te (tTab K ws)) (cNinTab ws me) := ⟨fun c σ H sl Q s h => by
  refine he.ok c σ H sl _ s (h.split.imp fun x H1 ⟨d, s1, _, i1, r1, l1, h1⟩ a ha => ?_)
  cases r1 with
  | str x =>
    simp only at h1
    by_cases q : tabS ws x = true
    · rw [if_pos q] at h1
      have q2 := q
      unfold tabS at q2
      rw [Bool.and_eq_true] at q2
      exact .inr (.inl ⟨.str x, ws.map PyData.str, .str x, .tup (ha H1) (dp_strs ws), q2.1, q2.2, h1 _ H1 i1 (.bl _) Le.rfl⟩)
    · rw [if_neg q] at h1; exact h1.elim
  | _ => exact h1.elim⟩
end DL
set_option autoImplicit false
namespace DL
open PySem PySem.Spec L2
theorem lawEnter {K : PySem.W.Frag} {H : Hp} {a : Addr} {ns : List Int} {F : List D → Option D} {E : XK} (tb : LamX.Tabs (LT K) H) (hS : SqL K H a (ns.map V.int)) (h : F [.ext ns] = some (.bl true)) : spP K 1 F [.ref a] H (fun v _ => v = .bl true) E := by
  refine ⟨[.ext ns], fun _ => False, .bl true, rfl, ⟨fun b q => q.elim, tb⟩, .cons (.ext ?_) .nil, h, fun u H' _ r => by cases r; rfl⟩
  exact DL.SqL.le (fun b o e _ => Hm_some.mpr ⟨fun q => q, e⟩) hS
/-- a list comprehension whose turn leaves the places as they were -/
theorem lcR_any {vs : List Nat} {g : D → List S → Option (List S)} {t : BM} {e : EM} {sl : List S} (B : D → List S) (p : D → Bool) (f : D → D) : ∀ (ds acc : List D),
    (∀ d ∈ ds, g d sl = some (B d) ∧ wipeS (B d) vs = sl ∧ t (B d) = .ok (p d) (B d) ∧ (p d = true → e (B d) = .ok (f d) (B d))) → acc.length + ds.length ≤ sizeLine →
    lcR vs g t e ds acc sl = .ok (.lst (acc ++ (ds.filter p).map f)) sl
  | [], acc, _, _ => by simp [lcR]
  | d :: r, acc, h, hz => by
    obtain ⟨h0, hw, h1, h2⟩ := h d List.mem_cons_self
    have ih := fun a => lcR_any (vs := vs) B p f r a fun x hx => h x (List.mem_cons_of_mem _ hx)
    rw [List.length_cons] at hz
    unfold lcR
    rw [h0]
    simp only
    rw [h1]
    simp only [noxR, ER.bind]
    cases q : p d with
    | false =>
      simp only [Bool.false_eq_true, if_false, hw]
      rw [ih acc (by omega), List.filter_cons_of_neg (by simp [q])]
    | true =>
      simp only [if_true]
      rw [h2 q]
      simp only [noxR, ER.bind, hw]
      rw [if_pos (by omega), ih _ (by rw [List.length_append, List.length_singleton]; omega), List.filter_cons_of_pos q, List.map_cons, List.append_assoc, List.singleton_append]
end DL
set_option linter.all false
set_option autoImplicit false
set_option maxRecDepth 100000
/-! DlU: mirrors evaluated by simp. -/
namespace DL
open PySem
section
variable {α β : Type}
/-- a choice whose ways are not looked into -/
def ifK (x : Bool) (a b : α) : α := if x = true then a else b
theorem ifK_t (a b : α) : ifK true a b = a := rfl
theorem ifK_f (a b : α) : ifK false a b = b := rfl
theorem bind_ok (a : α) (s : List S) (f : α → List S → ER β) : ER.bind (.ok a s) f = f a s := rfl
theorem bSR_ok (a : α) (s : List S) (f : α → List S → SR) : bSR (.ok a s) f = f a s := rfl
theorem bind_bad (f : α → List S → ER β) : ER.bind .bad f = .bad := rfl
theorem bSR_bad (f : α → List S → SR) : bSR .bad f = .bad := rfl
theorem bind_exn (x : Ex) (s : List S) (f : α → List S → ER β) : ER.bind (.exn x s) f = .exn x s := rfl
theorem bSR_exn (x : Ex) (s : List S) (f : α → List S → SR) : bSR (.exn x s) f = .exn x s := rfl
theorem ofO_some (a : α) (s : List S) : ofO (some a) s = .ok a s := rfl
theorem ofO_none (s : List S) : ofO (none : Option α) s = .bad := rfl
theorem noxR_ok (a : α) (s : List S) : noxR (.ok a s) = .ok a s := rfl
end
def seqK (r : SR) (b : SM) : SR := match r with
  | .nx s => b s
  | r => r
theorem seqK_nx (s : List S) (b : SM) : seqK (.nx s) b = b s := rfl
theorem seqK_rt (d : D) (s : List S) (b : SM) : seqK (.rt d s) b = .rt d s := rfl
theorem seqK_bk (s : List S) (b : SM) : seqK (.bk s) b = .bk s := rfl
theorem seqK_ct (s : List S) (b : SM) : seqK (.ct s) b = .ct s := rfl
theorem seqK_exn (x : Ex) (s : List S) (b : SM) : seqK (.exn x s) b = .exn x s := rfl
section
variable (sl s : List S) (a b : SM) (t u : BM) (m ma mb mc : EM) (mn : NM) (mr : AM) (d : D) (i j : Nat)
theorem a_seq : cSeq a b sl = seqK (a sl) b := rfl
theorem a_next : cNext sl = .nx sl := rfl
theorem a_brk : cBrk sl = .bk sl := rfl
theorem a_cnt : cCnt sl = .ct sl := rfl
theorem a_bad : cBad sl = .bad := rfl
def kDrop : D → List S → SR := fun _ s => .nx s
theorem a_drop : cDrop m sl = bSR (m sl) kDrop := rfl
theorem a_kDrop : kDrop d s = .nx s := rfl
def kRet : D → List S → SR := fun d s => .rt d s
theorem a_ret : cRet m sl = bSR (m sl) kRet := rfl
theorem a_kRet : kRet d s = .rt d s := rfl
theorem a_retN : cRetN sl = .rt .non sl := rfl
def kIfS (a b : SM) : Bool → List S → SR := fun x s => if x = true then a s else b s
theorem a_ifs : cIfS t a b sl = bSR (t sl) (kIfS a b) := rfl
theorem kIfS_t : kIfS a b true s = a s := rfl
theorem kIfS_f : kIfS a b false s = b s := rfl
def kTest : D → List S → ER Bool := fun x s => ofO (asB x) s
theorem a_test : cTest m sl = ER.bind (m sl) kTest := rfl
theorem kTest_bl (x : Bool) : kTest (.bl x) s = .ok x s := rfl
theorem asB_bl (x : Bool) : asB (.bl x) = some x := rfl
def kAnd (u : BM) : Bool → List S → ER Bool := fun x s => if x = true then u s else .ok false s
theorem a_and : cAnd t u sl = ER.bind (t sl) (kAnd u) := rfl
theorem kAnd_t : kAnd u true s = u s := rfl
theorem kAnd_f : kAnd u false s = .ok false s := rfl
def kOr (u : BM) : Bool → List S → ER Bool := fun x s => if x = true then .ok true s else u s
theorem a_or : cOr t u sl = ER.bind (t sl) (kOr u) := rfl
theorem kOr_t : kOr u true s = .ok true s := rfl
theorem kOr_f : kOr u false s = u s := rfl
def kNot : Bool → List S → ER Bool := fun x s => .ok (!x) s
theorem a_not : cNot t sl = ER.bind (t sl) kNot := rfl
theorem a_kNot (x : Bool) : kNot x s = .ok (!x) s := rfl
theorem a_yes : cYes sl = .ok true sl := rfl
def kOfB : Bool → List S → ER D := fun x s => .ok (.bl x) s
theorem a_ofB : cOfB t sl = ER.bind (t sl) kOfB := rfl
theorem a_kOfB (x : Bool) : kOfB x s = .ok (.bl x) s := rfl
def kIfE (ma mb : EM) : Bool → List S → ER D := fun x s => if x = true then ma s else mb s
theorem a_ife : cIfE t ma mb sl = ER.bind (t sl) (kIfE ma mb) := rfl
theorem kIfE_t : kIfE ma mb true s = ma s := rfl
theorem kIfE_f : kIfE ma mb false s = mb s := rfl
theorem a_c : cC d sl = .ok d sl := rfl
def kOp1 (f : D → Option D) : D → List S → ER D := fun x s => ofO (f x) s
theorem a_op1 (f : D → Option D) : cOp1 f ma sl = ER.bind (ma sl) (kOp1 f) := rfl
theorem a_kOp1 (f : D → Option D) : kOp1 f d s = ofO (f d) s := rfl
def kOp2b (f : D → D → Option D) (x : D) : D → List S → ER D := fun y s => ofO (f x y) s
def kOp2 (f : D → D → Option D) (mb : EM) : D → List S → ER D := fun x s => ER.bind (mb s) (kOp2b f x)
theorem a_op2 (f : D → D → Option D) : cOp2 f ma mb sl = ER.bind (ma sl) (kOp2 f mb) := rfl
theorem a_kOp2 (f : D → D → Option D) : kOp2 f mb d s = ER.bind (mb s) (kOp2b f d) := rfl
theorem a_kOp2b (f : D → D → Option D) (y : D) : kOp2b f d y s = ofO (f d y) s := rfl
def kOp2nb (f : D → D → Option MO) (x : D) : D → List S → ER MO := fun y s => ofO (f x y) s
def kOp2n (f : D → D → Option MO) (mb : EM) : D → List S → ER MO := fun x s => ER.bind (mb s) (kOp2nb f x)
theorem a_op2n (f : D → D → Option MO) : cOp2N f ma mb sl = ER.bind (ma sl) (kOp2n f mb) := rfl
theorem a_kOp2n (f : D → D → Option MO) : kOp2n f mb d s = ER.bind (mb s) (kOp2nb f d) := rfl
theorem a_kOp2nb (f : D → D → Option MO) (y : D) : kOp2nb f d y s = ofO (f d y) s := rfl
def kFz : MO → List S → ER D := fun x s => .ok x.toD s
theorem a_fz : cFz mn sl = ER.bind (mn sl) kFz := rfl
theorem a_kFz (x : MO) : kFz x s = .ok x.toD s := rfl
theorem a_nil : cNil sl = .ok [] sl := rfl
def kConsb (x : D) : List D → List S → ER (List D) := fun xs s => .ok (x :: xs) s
def kCons (mr : AM) : D → List S → ER (List D) := fun x s => ER.bind (mr s) (kConsb x)
theorem a_cons : cCons m mr sl = ER.bind (m sl) (kCons mr) := rfl
theorem a_kCons : kCons mr d s = ER.bind (mr s) (kConsb d) := rfl
theorem a_kConsb (xs : List D) : kConsb d xs s = .ok (d :: xs) s := rfl
def kStar3 (xs : List D) : List D → List S → ER (List D) := fun ys s => .ok (xs ++ ys) s
def kStar2 (mr : AM) : List D → List S → ER (List D) := fun xs s => ER.bind (mr s) (kStar3 xs)
def kStar1 (mr : AM) : D → List S → ER (List D) := fun d s => ER.bind (ofO (seqD d) s) (kStar2 mr)
theorem a_star : cStar m mr sl = ER.bind (m sl) (kStar1 mr) := rfl
theorem a_kStar1 : kStar1 mr d s = ER.bind (ofO (seqD d) s) (kStar2 mr) := rfl
theorem a_kStar2 (xs : List D) : kStar2 mr xs s = ER.bind (mr s) (kStar3 xs) := rfl
theorem a_kStar3 (xs ys : List D) : kStar3 xs ys s = .ok (xs ++ ys) s := rfl
def kCB (f : List D → Option D) : List D → List S → ER D := fun xs s => ofO (f xs) s
theorem a_cb (f : List D → Option D) : cCB f mr sl = ER.bind (mr sl) (kCB f) := rfl
theorem a_kCB (f : List D → Option D) (xs : List D) : kCB f xs s = ofO (f xs) s := rfl
def kCBN (f : List D → Option MO) : List D → List S → ER MO := fun xs s => ofO (f xs) s
theorem a_cbn (f : List D → Option MO) : cCBN f mr sl = ER.bind (mr sl) (kCBN f) := rfl
theorem a_kCBN (f : List D → Option MO) (xs : List D) : kCBN f xs s = ofO (f xs) s := rfl
def szK {α : Type} (n : Nat) (a : α) (s : List S) : ER α := if n ≤ sizeLine then .ok a s else .bad
theorem szK_ok {α : Type} {n : Nat} {a : α} {s : List S} (h : n ≤ sizeLine) : szK n a s = .ok a s := if_pos h
theorem szK_lit {α : Type} (a : α) (s : List S) :
   szK 0 a s = .ok a s ∧ szK 1 a s = .ok a s ∧ szK 2 a s = .ok a s ∧ szK 3 a s = .ok a s ∧ szK 4 a s = .ok a s ∧ szK 5 a s = .ok a s ∧ szK 6 a s = .ok a s ∧ szK 7 a s = .ok a s ∧ szK 8 a s = .ok a s ∧ szK 9 a s = .ok a s ∧ szK 10 a s = .ok a s ∧ szK 11 a s = .ok a s ∧ szK 12 a s = .ok a s := by
  refine ⟨?_, ?_, ?_, ?_, ?_, ?_, ?_, ?_, ?_, ?_, ?_, ?_, ?_⟩ <;> exact szK_ok (by decide)
def kTup : List D → List S → ER D := fun xs s => szK xs.length (D.tup xs) s
theorem a_tup : cTup mr sl = ER.bind (mr sl) kTup := rfl
theorem a_kTup (xs : List D) : kTup xs s = szK xs.length (D.tup xs) s := rfl
def kLst : List D → List S → ER MO := fun xs s => szK xs.length (MO.lst xs) s
theorem a_lst : cLst mr sl = ER.bind (mr sl) kLst := rfl
theorem a_kLst (xs : List D) : kLst xs s = szK xs.length (MO.lst xs) s := rfl
theorem gS_0 (x : S) : gS (x :: s) 0 = x := rfl
theorem gS_s (x : S) : gS (x :: s) (i + 1) = gS s i := rfl
theorem sS_0 (x y : S) : sS (x :: s) 0 y = y :: s := rfl
theorem sS_s (x y : S) : sS (x :: s) (i + 1) y = x :: sS s i y := rfl
def varK (i : Nat) (sl : List S) (x : S) : ER D := match x with
  | .v d => .ok d sl
  | .o m => .ok m.toD (sS sl i (.v m.toD))
  | _ => .bad
theorem a_var : cVar i sl = varK i sl (gS sl i) := rfl
theorem varK_v : varK i sl (.v d) = .ok d sl := rfl
theorem varK_o (m : MO) : varK i sl (.o m) = .ok m.toD (sS sl i (.v m.toD)) := rfl
def hasS : List S → Nat → Bool
  | [], _ => false
  | _ :: _, 0 => true
  | _ :: r, i + 1 => hasS r i
theorem hasS_iff : ∀ (sl : List S) (i : Nat), (hasS sl i = true) = (i < sl.length)
  | [], i => by simp [hasS]
  | _ :: _, 0 => by simp [hasS]
  | _ :: r, i + 1 => by
    unfold hasS
    rw [hasS_iff r i, List.length_cons, Nat.add_lt_add_iff_right]
theorem hasS_0 (x : S) : hasS (x :: s) 0 = true := rfl
theorem hasS_s (x : S) : hasS (x :: s) (i + 1) = hasS s i := rfl
theorem a_name : mName i d sl = ifK (hasS sl i) (some (sS sl i (.v d))) none := by
  unfold mName ifK
  simp only [hasS_iff]
def goK (o : Option (List S)) : SR := match o with
  | some s' => .nx s'
  | none => .bad
theorem goK_some : goK (some s) = .nx s := rfl
def kAsg (g : D → List S → Option (List S)) : D → List S → SR := fun d s => goK (g d s)
theorem a_asg (g : D → List S → Option (List S)) : cAsg m g sl = bSR (m sl) (kAsg g) := rfl
theorem a_kAsg (g : D → List S → Option (List S)) : kAsg g d s = goK (g d s) := rfl
def kAsgO (i : Nat) : MO → List S → SR := fun d s => if i ≠ 0 ∧ i < s.length then .nx (sS s i (.o d)) else .bad
theorem a_asgO : cAsgO mn i sl = bSR (mn sl) (kAsgO i) := rfl
theorem a_kAsgO (x : MO) : kAsgO i x s = ifK (decide (i ≠ 0) && hasS s i) (.nx (sS s i (.o x))) .bad := by
  unfold kAsgO ifK
  simp only [Bool.and_eq_true, decide_eq_true_eq, hasS_iff]
theorem a_gnil : mGNil [] sl = some sl := rfl
def obK (o : Option (List S)) (f : List S → Option (List S)) : Option (List S) := o.bind f
theorem obK_some (f : List S → Option (List S)) : obK (some s) f = f s := rfl
theorem a_gcons (a : D → List S → Option (List S)) (b : List D → List S → Option (List S)) (ds : List D) : mGCons a b (d :: ds) sl = obK (a d sl) (b ds) := rfl
theorem a_gtup (n : Nat) (a : List D → List S → Option (List S)) (ds : List D) : mGTup n a (.tup ds) sl = ifK (decide (ds.length = n)) (a ds sl) none := by
  unfold mGTup ifK
  simp only [decide_eq_true_eq]
def parK (i j : Nat) (ds : List D) (s : List S) : SR := match ds with
  | [a, b] => if i < s.length ∧ j < s.length then .nx (sS (sS s i (.v a)) j (.v b)) else .bad
  | _ => .bad
theorem a_par : cPar i j mr sl = bSR (mr sl) (parK i j) := rfl
theorem parK_ok (x y : D) : parK i j [x, y] s = ifK (hasS s i && hasS s j) (.nx (sS (sS s i (.v x)) j (.v y))) .bad := by
  unfold parK ifK
  simp only [Bool.and_eq_true, hasS_iff]
def kSeq : D → List S → ER (List D) := fun d s => ofO (seqD d) s
theorem a_seqi : cSeqI m sl = ER.bind (m sl) kSeq := rfl
theorem a_kSeq : kSeq d s = ofO (seqD d) s := rfl
theorem seqD_lst (xs : List D) : seqD (.lst xs) = some xs := rfl
theorem seqD_tup (xs : List D) : seqD (.tup xs) = some xs := rfl
def r1K (ds : List D) (s : List S) : ER (List D) := match ds with
  | [.int n] => if rngB n = true then .ok (rngD 0 n) s else .bad
  | _ => .bad
def r2K (ds : List D) (s : List S) : ER (List D) := match ds with
  | [.int a, .int b] => if (rngB a && rngB b) = true then .ok (rngD a b) s else .bad
  | _ => .bad
theorem a_rng1 : cRng1 mr sl = ER.bind (mr sl) r1K := rfl
theorem a_rng2 : cRng2 mr sl = ER.bind (mr sl) r2K := rfl
theorem r1K_ok (n : Int) : r1K [.int n] s = ifK (rngB n) (.ok (rngD 0 n) s) .bad := rfl
theorem r2K_ok (n k : Int) : r2K [.int n, .int k] s = ifK (rngB n && rngB k) (.ok (rngD n k) s) .bad := rfl
def kLc (vs : List Nat) (g : D → List S → Option (List S)) (t : BM) (e : EM) : List D → List S → ER MO := fun ds s => lcR vs g t e ds [] (wipeS s vs)
theorem a_lc (vs : List Nat) (mi : AM) (g : D → List S → Option (List S)) (t : BM) (e : EM) : cLc vs mi g t e sl = ER.bind (mi sl) (kLc vs g t e) := rfl
theorem a_kLc (vs : List Nat) (g : D → List S → Option (List S)) (t : BM) (e : EM) (ds : List D) : kLc vs g t e ds s = lcR vs g t e ds [] (wipeS s vs) := rfl
def kDc {κ : Type} [DecidableEq κ] (kf : D → Option κ) (mo : List κ → List D → MO) (vs : List Nat) (g : D → List S → Option (List S)) (t : BM) (mk mv : EM) : List D → List S → ER MO := fun ds s => dcR kf mo vs g t mk mv ds [] [] (wipeS s vs)
theorem a_dc {κ : Type} [DecidableEq κ] (kf : D → Option κ) (mo : List κ → List D → MO) (vs : List Nat) (mi : AM) (g : D → List S → Option (List S)) (t : BM) (mk mv : EM) : cDc kf mo vs mi g t mk mv sl = ER.bind (mi sl) (kDc kf mo vs g t mk mv) := rfl
theorem a_kDc {κ : Type} [DecidableEq κ] (kf : D → Option κ) (mo : List κ → List D → MO) (vs : List Nat) (g : D → List S → Option (List S)) (t : BM) (mk mv : EM) (ds : List D) : kDc kf mo vs g t mk mv ds s = dcR kf mo vs g t mk mv ds [] [] (wipeS s vs) := rfl
theorem wipe_nil : wipeS s [] = s := rfl
theorem wipe_cons (vs : List Nat) : wipeS s (i :: vs) = sS (wipeS s vs) i .no := rfl
def kFor (g : D → List S → Option (List S)) (b : SM) : List D → List S → SR := fun ds s => forR g b ds s
theorem a_for (mi : AM) (g : D → List S → Option (List S)) : cFor mi g b sl = bSR (mi sl) (kFor g b) := rfl
theorem a_kFor (g : D → List S → Option (List S)) (ds : List D) : kFor g b ds s = forR g b ds s := rfl
theorem forR_nil (g : D → List S → Option (List S)) : forR g b [] sl = .nx sl := rfl
def lenK (n : Nat) (F : List D → Option D) (ds : List D) : Option D := if ds.length = n then F ds else none
theorem lenK_0 (F : List D → Option D) : lenK 0 F [] = F [] := rfl
theorem lenK_1 (F : List D → Option D) (x : D) : lenK 1 F [x] = F [x] := rfl
theorem lenK_2 (F : List D → Option D) (x y : D) : lenK 2 F [x, y] = F [x, y] := rfl
theorem lenK_3 (F : List D → Option D) (x y z : D) : lenK 3 F [x, y, z] = F [x, y, z] := rfl
theorem lenK_4 (F : List D → Option D) (x y z w : D) : lenK 4 F [x, y, z, w] = F [x, y, z, w] := rfl
theorem lenK_5 (F : List D → Option D) (x y z w v : D) : lenK 5 F [x, y, z, w, v] = F [x, y, z, w, v] := rfl
def kCall (n : Nat) (F : List D → Option D) : List D → List S → ER D := fun ds s => ofO (lenK n F ds) s
theorem a_call (n : Nat) (F : List D → Option D) : cCall (fun ds => if ds.length = n then F ds else none) mr sl = ER.bind (mr sl) (kCall n F) := rfl
theorem a_kCall (n : Nat) (F : List D → Option D) (ds : List D) : kCall n F ds s = ofO (lenK n F ds) s := rfl
def lenN (n : Nat) (F : List D → Option MO) (ds : List D) : Option MO := if ds.length = n then F ds else none
theorem lenN_0 (F : List D → Option MO) : lenN 0 F [] = F [] := rfl
theorem lenN_1 (F : List D → Option MO) (x : D) : lenN 1 F [x] = F [x] := rfl
theorem lenN_2 (F : List D → Option MO) (x y : D) : lenN 2 F [x, y] = F [x, y] := rfl
theorem lenN_3 (F : List D → Option MO) (x y z : D) : lenN 3 F [x, y, z] = F [x, y, z] := rfl
def kCallN (n : Nat) (F : List D → Option MO) : List D → List S → ER MO := fun ds s => ofO (lenN n F ds) s
theorem a_callN (n : Nat) (F : List D → Option MO) : cCallN (fun ds => if ds.length = n then F ds else none) mr sl = ER.bind (mr sl) (kCallN n F) := rfl
theorem a_kCallN (n : Nat) (F : List D → Option MO) (ds : List D) : kCallN n F ds s = ofO (lenN n F ds) s := rfl
def lenB (n : Nat) (F : MO → List D → Option (D × MO)) (m : MO) (ds : List D) : Option (D × MO) := if ds.length = n then F m ds else none
theorem lenB_0 (F : MO → List D → Option (D × MO)) (m : MO) : lenB 0 F m [] = F m [] := rfl
theorem lenB_1 (F : MO → List D → Option (D × MO)) (m : MO) (x : D) : lenB 1 F m [x] = F m [x] := rfl
theorem lenB_2 (F : MO → List D → Option (D × MO)) (m : MO) (x y : D) : lenB 2 F m [x, y] = F m [x, y] := rfl
theorem lenB_3 (F : MO → List D → Option (D × MO)) (m : MO) (x y z : D) : lenB 3 F m [x, y, z] = F m [x, y, z] := rfl
theorem lenB_4 (F : MO → List D → Option (D × MO)) (m : MO) (x y z w : D) : lenB 4 F m [x, y, z, w] = F m [x, y, z, w] := rfl
def ownK {α : Type} (x : S) (r : ER α) : ER α := match x with
  | .o _ => r
  | _ => .bad
theorem ownK_o {α : Type} (m : MO) (r : ER α) : ownK (.o m) r = r := rfl
def outK (i : Nat) (s : List S) (o : Option (D × MO)) : ER D := match o with
  | some (z, m') => .ok z (sS s i (.o m'))
  | none => .bad
theorem outK_some (z : D) (m' : MO) : outK i s (some (z, m')) = .ok z (sS s i (.o m')) := rfl
def calK (i : Nat) (F : MO → List D → Option (D × MO)) (ds : List D) (s : List S) (x : S) : ER D := match x with
  | .o mo => outK i s (F mo ds)
  | _ => .bad
theorem calK_o (F : MO → List D → Option (D × MO)) (ds : List D) (mo : MO) : calK i F ds s (.o mo) = outK i s (F mo ds) := rfl
def kCal (i n : Nat) (F : MO → List D → Option (D × MO)) : List D → List S → ER D := fun ds s => calK i (lenB n F) ds s (gS s i)
theorem a_kCal (n : Nat) (F : MO → List D → Option (D × MO)) (ds : List D) : kCal i n F ds s = calK i (lenB n F) ds s (gS s i) := rfl
theorem a_callB (n : Nat) (F : MO → List D → Option (D × MO)) : cCallB i (fun m ds => if ds.length = n then F m ds else none) mr sl = ownK (gS sl i) (ER.bind (mr sl) (kCal i n F)) := by
  unfold cCallB ownK kCal calK
  cases gS sl i with
  | o m =>
    simp only
    congr 1
  | _ => rfl
def sclK (o : Option D) (s : List S) : ER D := match o with
  | some z => if scal z = true then .ok z s else .bad
  | none => .bad
theorem sclK_int (k : Int) : sclK (some (.int k)) s = .ok (.int k) s := rfl
theorem sclK_bl (k : Bool) : sclK (some (.bl k)) s = .ok (.bl k) s := rfl
theorem sclK_str (k : Str) : sclK (some (.str k)) s = .ok (.str k) s := rfl
theorem sclK_non : sclK (some .non) s = .ok .non s := rfl
def pkaK (f : D → D → Option D) (y : D) (s : List S) (x : S) : ER D := match x with
  | .o m => sclK (f m.toD y) s
  | _ => .bad
theorem pkaK_o (f : D → D → Option D) (m : MO) : pkaK f d s (.o m) = sclK (f m.toD d) s := rfl
def kPka (i : Nat) (f : D → D → Option D) : D → List S → ER D := fun y s => pkaK f y s (gS s i)
theorem a_kPka (f : D → D → Option D) : kPka i f d s = pkaK f d s (gS s i) := rfl
theorem a_pka (f : D → D → Option D) : cPkA i f mb sl = ownK (gS sl i) (ER.bind (mb sl) (kPka i f)) := by
  unfold cPkA ownK kPka pkaK
  cases gS sl i <;> rfl
def pkbK (f : D → D → Option D) (y : D) (s : List S) (x : S) : ER D := match x with
  | .o m => sclK (f y m.toD) s
  | _ => .bad
theorem pkbK_o (f : D → D → Option D) (m : MO) : pkbK f d s (.o m) = sclK (f d m.toD) s := rfl
def kPkb (i : Nat) (f : D → D → Option D) : D → List S → ER D := fun y s => pkbK f y s (gS s i)
theorem a_kPkb (f : D → D → Option D) : kPkb i f d s = pkbK f d s (gS s i) := rfl
theorem a_pkb (f : D → D → Option D) : cPkB i f ma sl = ER.bind (ma sl) (kPkb i f) := rfl
def pklK (f : List D → Option D) (s : List S) (x : S) : ER D := match x with
  | .o m => sclK (f [m.toD]) s
  | _ => .bad
theorem pklK_o (f : List D → Option D) (m : MO) : pklK f s (.o m) = sclK (f [m.toD]) s := rfl
theorem a_pkl (f : List D → Option D) : cPkL i f sl = pklK f sl (gS sl i) := rfl
def ixoK (y : D) (s : List S) (x : S) : ER D := match x, y with
  | .o (.lst xs), .int k => ofO (L2.atI xs k) s
  | _, _ => .bad
theorem ixoK_o (xs : List D) (k : Int) : ixoK (.int k) s (.o (.lst xs)) = ofO (L2.atI xs k) s := rfl
def kIxo (i : Nat) : D → List S → ER D := fun y s => ixoK y s (gS s i)
theorem a_kIxo : kIxo i d s = ixoK d s (gS s i) := rfl
theorem a_ixo : cIxO i mb sl = ownK (gS sl i) (ER.bind (mb sl) (kIxo i)) := by
  unfold cIxO ownK kIxo ixoK
  cases gS sl i <;> rfl
def mthK (i : Nat) (f : MO → List D → Option (D × MO)) (ds : List D) (s : List S) (x : S) : ER D := match x with
  | .o m => outK i s (f m ds)
  | _ => .bad
theorem mthK_o (f : MO → List D → Option (D × MO)) (ds : List D) (m : MO) : mthK i f ds s (.o m) = outK i s (f m ds) := rfl
def lstK (x : S) (r : ER D) : ER D := match x with
  | .o (.lst _) => r
  | _ => .bad
theorem lstK_o (xs : List D) (r : ER D) : lstK (.o (.lst xs)) r = r := rfl
end
end DL
set_option linter.all false
set_option autoImplicit false
set_option maxRecDepth 100000
/-! DlV: mirrors evaluated by simp, the rest. -/
namespace DL
open PySem
section
variable (sl s : List S) (a b : SM) (t u : BM) (m ma mb mc : EM) (mn : NM) (mr : AM) (d : D) (i j : Nat)
def kMth (i : Nat) (f : MO → List D → Option (D × MO)) : List D → List S → ER D := fun ds s => mthK i f ds s (gS s i)
theorem a_kMth (f : MO → List D → Option (D × MO)) (ds : List D) : kMth i f ds s = mthK i f ds s (gS s i) := rfl
theorem a_meth (f : MO → List D → Option (D × MO)) : cMeth i f mr sl = lstK (gS sl i) (ER.bind (mr sl) (kMth i f)) := by
  unfold cMeth lstK kMth mthK
  cases gS sl i with
  | o m => cases m <;> rfl
  | _ => rfl
theorem ap_at (xs : List D) (d : D) : apF (.lst xs) [d] = if xs.length < sizeLine then some (.non, .lst (xs ++ [d])) else none := rfl
theorem ap_ok {xs : List D} {d : D} (h : xs.length < sizeLine) : apF (.lst xs) [d] = some (.non, .lst (xs ++ [d])) := if_pos h
def setK (k : D) (d : D) (i : Nat) (s : List S) (x : S) : SR := match x, k with
  | .o (.lst xs), .int k => (match L2.ixN xs.length k with
    | some j => .nx (sS s i (.o (.lst (xs.set j d))))
    | none => .bad)
  | _, _ => .bad
theorem setK_ok {xs : List D} {k : Int} {j : Nat} (h : L2.ixN xs.length k = some j) : setK (.int k) d i s (.o (.lst xs)) = .nx (sS s i (.o (.lst (xs.set j d)))) := by
  unfold setK
  simp only [h]
def ownS (x : S) (r : SR) : SR := match x with
  | .o _ => r
  | _ => .bad
theorem ownS_o (m : MO) (r : SR) : ownS (.o m) r = r := rfl
def kSet2 (d : D) (i : Nat) : D → List S → SR := fun k s1 => setK k d i s1 (gS s1 i)
def kSet1 (mi : EM) (i : Nat) : D → List S → SR := fun d s => ownS (gS s i) (bSR (mi s) (kSet2 d i))
theorem a_kSet2 (k : D) : kSet2 d i k s = setK k d i s (gS s i) := rfl
theorem a_kSet1 (mi : EM) : kSet1 mi i d s = ownS (gS s i) (bSR (mi s) (kSet2 d i)) := rfl
theorem a_seti (me mi : EM) : cSetI i me mi sl = bSR (me sl) (kSet1 mi i) := by
  unfold cSetI
  congr 1
def sfK (C : Addr) (f : Str) (d : D) (i : Nat) (s : List S) (x : S) : SR := match x with
  | .o (.ins C' ns ds) => if C' = C ∧ ns.length < 1000 then .nx (sS s i (.o (.ins C' (putN ns f) (putV ns ds f d)))) else .bad
  | _ => .bad
def kSetF (C : Addr) (f : Str) (i : Nat) : D → List S → SR := fun d s => sfK C f d i s (gS s i)
theorem a_kSetF (C : Addr) (f : Str) : kSetF C f i d s = sfK C f d i s (gS s i) := rfl
theorem a_setf (C : Addr) (f : Str) : cSetF i C f m sl = bSR (m sl) (kSetF C f i) := rfl
theorem sfK_ok {C : Addr} {f : Str} {ns : List Str} {ds : List D} (h : ns.length < 1000) : sfK C f d i s (.o (.ins C ns ds)) = .nx (sS s i (.o (.ins C (putN ns f) (putV ns ds f d)))) := if_pos ⟨rfl, h⟩
def fldK (C : Addr) (f : Str) (s : List S) (d : D) : ER D := match d with
  | .ins C' ns ds => if C' = C then ofO (lookD ns ds f) s else .bad
  | _ => .bad
def kFld (C : Addr) (f : Str) : D → List S → ER D := fun d s => fldK C f s d
theorem a_kFld (C : Addr) (f : Str) : kFld C f d s = fldK C f s d := rfl
theorem a_fld (C : Addr) (f : Str) : cFld C f m sl = ER.bind (m sl) (kFld C f) := rfl
theorem fldK_ok (C : Addr) (f : Str) (ns : List Str) (ds : List D) : fldK C f s (.ins C ns ds) = ofO (lookD ns ds f) s := if_pos rfl
def mkK (n : Nat) (F : MO → List D → Option (D × MO)) (C : Addr) (s : List S) (ds : List D) : ER MO := if ds.length = n then (match F (.ins C [] []) ds with
  | some (.non, m') => .ok m' s
  | _ => .bad) else .bad
def kMake (n : Nat) (F : MO → List D → Option (D × MO)) (C : Addr) : List D → List S → ER MO := fun ds s => mkK n F C s ds
theorem a_kMake (C : Addr) (n : Nat) (F : MO → List D → Option (D × MO)) (ds : List D) : kMake n F C ds s = mkK n F C s ds := rfl
theorem a_make (C : Addr) (n : Nat) (F : MO → List D → Option (D × MO)) : cMake C n F mr sl = ER.bind (mr sl) (kMake n F C) := rfl
theorem mkK_ok {C : Addr} {n : Nat} {F : MO → List D → Option (D × MO)} {ds : List D} {m' : MO} (hn : ds.length = n) (h : F (.ins C [] []) ds = some (.non, m')) : mkK n F C s ds = .ok m' s := by
  unfold mkK
  rw [if_pos hn, h]
def mtK (f : Str → List D → Option D) (ma : AM) (s : List S) (d : D) : ER D := match d with
  | .str x => ER.bind (ma s) fun ds s1 => ofO (f x ds) s1
  | _ => .bad
def kMt2 (f : Str → List D → Option D) (x : Str) : List D → List S → ER D := fun ds s1 => ofO (f x ds) s1
theorem a_kMt2 (f : Str → List D → Option D) (x : Str) (ds : List D) : kMt2 f x ds s = ofO (f x ds) s := rfl
theorem mtK_str (f : Str → List D → Option D) (x : Str) : mtK f mr s (.str x) = ER.bind (mr s) (kMt2 f x) := rfl
def kMt (f : Str → List D → Option D) (ma : AM) : D → List S → ER D := fun d s => mtK f ma s d
theorem a_kMt (f : Str → List D → Option D) : kMt f mr d s = mtK f mr s d := rfl
theorem a_mt (f : Str → List D → Option D) : cMT f m mr sl = ER.bind (m sl) (kMt f mr) := rfl
def stK (s : List S) (d : D) : ER (List D) := match d with
  | .str x => .ok (strD x) s
  | _ => .bad
theorem stK_str (x : Str) : stK s (.str x) = .ok (strD x) s := rfl
def kSt : D → List S → ER (List D) := fun d s => stK s d
theorem a_kSt : kSt d s = stK s d := rfl
theorem a_stri : cStrI m sl = ER.bind (m sl) kSt := rfl
def enK (s : List S) (ds : List D) : ER (List D) := match ds with
  | [d] => ofO ((seqD d).map (enuD 0)) s
  | _ => .bad
theorem enK_lst (xs : List D) : enK s [.lst xs] = .ok (enuD 0 xs) s := rfl
theorem enK_tup (xs : List D) : enK s [.tup xs] = .ok (enuD 0 xs) s := rfl
def kEn : List D → List S → ER (List D) := fun ds s => enK s ds
theorem a_kEn (ds : List D) : kEn ds s = enK s ds := rfl
theorem a_enum : cEnum mr sl = ER.bind (mr sl) kEn := rfl
def kCh3 (g : D → D → Option D) (y : D) : D → List S → ER D := fun z s2 => ofO (g y z) s2
theorem a_kCh3 (g : D → D → Option D) (y : D) : kCh3 g y d s = ofO (g y d) s := rfl
def kChB (g : D → D → Option D) (mc : EM) (y : D) : Bool → List S → ER D := fun k s1 => if k = true then (mc s1).bind (kCh3 g y) else .ok (.bl false) s1
theorem kChB_t (g : D → D → Option D) (y : D) : kChB g mc y true s = (mc s).bind (kCh3 g y) := rfl
theorem kChB_f (g : D → D → Option D) (y : D) : kChB g mc y false s = .ok (.bl false) s := rfl
def chK (g : D → D → Option D) (mc : EM) (y : D) (s1 : List S) (o : Option D) : ER D := (ofO (o.bind asB) s1).bind (kChB g mc y)
theorem chK_bl (g : D → D → Option D) (y : D) (k : Bool) : chK g mc y s (some (.bl k)) = kChB g mc y k s := rfl
def kCh2 (f g : D → D → Option D) (mc : EM) (x : D) : D → List S → ER D := fun y s1 => chK g mc y s1 (f x y)
def kCh1 (f g : D → D → Option D) (mb mc : EM) : D → List S → ER D := fun x s => ER.bind (mb s) (kCh2 f g mc x)
theorem a_kCh2 (f g : D → D → Option D) (y : D) : kCh2 f g mc d y s = chK g mc y s (f d y) := rfl
theorem a_kCh1 (f g : D → D → Option D) : kCh1 f g mb mc d s = ER.bind (mb s) (kCh2 f g mc d) := rfl
theorem a_chain (f g : D → D → Option D) : cChain f g ma mb mc sl = ER.bind (ma sl) (kCh1 f g mb mc) := rfl
theorem cmpD_int (p : Int → Int → Bool) (x y : Int) : cmpD p (.int x) (.int y) = some (.bl (p x y)) := rfl
def omK (o : Option Bool) : Option D := o.map D.bl
theorem omK_some (k : Bool) : omK (some k) = some (.bl k) := rfl
def kIs (l : List String) : D → List S → ER D := fun d s => ofO (omK (tyB d l)) s
theorem a_kIs (l : List String) : kIs l d s = ofO (omK (tyB d l)) s := rfl
theorem a_is1 (n : String) : cIs1 n m sl = ER.bind (m sl) (kIs [n]) := rfl
theorem a_is2 (n1 n2 : String) : cIs2 n1 n2 m sl = ER.bind (m sl) (kIs [n1, n2]) := rfl
def kSl3 (d : D) (l : Option Int) : Option Int → List S → ER D := fun h s => ofO (slD d l h) s
def kSl2 (mh : List S → ER (Option Int)) (d : D) : Option Int → List S → ER D := fun l s => ER.bind (mh s) (kSl3 d l)
def kSl1 (ml mh : List S → ER (Option Int)) : D → List S → ER D := fun d s => ER.bind (ml s) (kSl2 mh d)
theorem a_kSl3 (l h : Option Int) : kSl3 d l h s = ofO (slD d l h) s := rfl
theorem a_kSl2 (mh : List S → ER (Option Int)) (l : Option Int) : kSl2 mh d l s = ER.bind (mh s) (kSl3 d l) := rfl
theorem a_kSl1 (ml mh : List S → ER (Option Int)) : kSl1 ml mh d s = ER.bind (ml s) (kSl2 mh d) := rfl
theorem a_sl (ml mh : List S → ER (Option Int)) : cSl m ml mh sl = ER.bind (m sl) (kSl1 ml mh) := rfl
theorem a_nop : cNoP sl = .ok none sl := rfl
def pK (s : List S) (d : D) : ER (Option Int) := match asI d with
  | some i => .ok (some i) s
  | none => .bad
theorem pK_int (k : Int) : pK s (.int k) = .ok (some k) s := rfl
def kP : D → List S → ER (Option Int) := fun d s => pK s d
theorem a_kP : kP d s = pK s d := rfl
theorem a_p : cP m sl = ER.bind (m sl) kP := rfl
def lrK (s : List S) (d : D) : ER MO := match d with
  | .int n => if rgOk 0 n = true then .ok (.lst (rngD 0 n)) s else .bad
  | _ => .bad
theorem lrK_int (k : Int) : lrK s (.int k) = ifK (rgOk 0 k) (.ok (.lst (rngD 0 k)) s) .bad := rfl
def kLr : D → List S → ER MO := fun d s => lrK s d
theorem a_kLr : kLr d s = lrK s d := rfl
theorem a_lrg1 : cLrg1 m sl = ER.bind (m sl) kLr := rfl
def lr2K (s : List S) (x y : D) : ER MO := match x, y with
  | .int i, .int j => if rgOk i j = true then .ok (.lst (rngD i j)) s else .bad
  | _, _ => .bad
theorem lr2K_int (k l : Int) : lr2K s (.int k) (.int l) = ifK (rgOk k l) (.ok (.lst (rngD k l)) s) .bad := rfl
def kLr2b (x : D) : D → List S → ER MO := fun y s => lr2K s x y
def kLr2 (mb : EM) : D → List S → ER MO := fun x s => ER.bind (mb s) (kLr2b x)
theorem a_kLr2b (y : D) : kLr2b d y s = lr2K s d y := rfl
theorem a_kLr2 : kLr2 mb d s = ER.bind (mb s) (kLr2b d) := rfl
theorem a_lrg2 : cLrg2 ma mb sl = ER.bind (ma sl) (kLr2 mb) := rfl
def agK (i : Nat) (m : EM) (sl : List S) (x : S) : SR := match x with
  | .v (.int a) => bSR (m sl) fun d s => (match d with
    | .int b => if i < s.length then .nx (sS s i (.v (.int (a + b)))) else .bad
    | _ => .bad)
  | _ => .bad
def ag2K (a : Int) (i : Nat) (s : List S) (d : D) : SR := match d with
  | .int b => if i < s.length then .nx (sS s i (.v (.int (a + b)))) else .bad
  | _ => .bad
theorem ag2K_int (k l : Int) : ag2K k i s (.int l) = ifK (hasS s i) (.nx (sS s i (.v (.int (k + l))))) .bad := by
  unfold ag2K ifK
  simp only [hasS_iff]
def kAg (a : Int) (i : Nat) : D → List S → SR := fun d s => ag2K a i s d
theorem a_kAg (k : Int) : kAg k i d s = ag2K k i s d := rfl
theorem agK_int (k : Int) : agK i m sl (.v (.int k)) = bSR (m sl) (kAg k i) := rfl
theorem a_aug : cAug i m sl = agK i m sl (gS sl i) := by
  unfold cAug agK
  cases gS sl i with
  | v d => cases d <;> rfl
  | _ => rfl
def ntK (ws : List Str) (s : List S) (d : D) : ER D := match d with
  | .str x => if tabS ws x = true then .ok (.bl (!tabQ ws x)) s else .bad
  | _ => .bad
theorem ntK_str (ws : List Str) (x : Str) : ntK ws s (.str x) = ifK (tabS ws x) (.ok (.bl (!tabQ ws x)) s) .bad := rfl
def kNt (ws : List Str) : D → List S → ER D := fun d s => ntK ws s d
theorem a_kNt (ws : List Str) : kNt ws d s = ntK ws s d := rfl
theorem a_nintab (ws : List Str) : cNinTab ws m sl = ER.bind (m sl) (kNt ws) := rfl
theorem a_dnew : cDNew sl = .ok (.dK [] []) sl := rfl
def altK (r : ER MO) (b : NM) (sl : List S) : ER MO := match r with
  | .bad => b sl
  | r => r
theorem altK_ok (x : MO) (s' : List S) (b : NM) : altK (.ok x s') b sl = .ok x s' := rfl
theorem altK_bad (b : NM) : altK .bad b sl = b sl := rfl
theorem a_alt (x y : NM) : cAltN x y sl = altK (x sl) y sl := rfl
def poK (i j : Nat) (m : MO) (d : D) (s1 : List S) : SR := if i ≠ 0 ∧ i < s1.length ∧ j < s1.length ∧ i ≠ j then .nx (sS (sS s1 i (.o m)) j (.v d)) else .bad
def kPo2 (i j : Nat) (m : MO) : D → List S → SR := fun d s1 => poK i j m d s1
def kPo1 (i j : Nat) (mb : EM) : MO → List S → SR := fun m s => bSR (noxR (mb s)) (kPo2 i j m)
theorem a_kPo2 (x : MO) : kPo2 i j x d s = poK i j x d s := rfl
theorem a_kPo1 (x : MO) : kPo1 i j mb x s = bSR (noxR (mb s)) (kPo2 i j x) := rfl
theorem a_paro : cParO i j mn mb sl = bSR (mn sl) (kPo1 i j mb) := rfl
theorem poK_ok (m : MO) : poK i j m d s = ifK (decide (i ≠ 0) && hasS s i && hasS s j && decide (i ≠ j)) (.nx (sS (sS s i (.o m)) j (.v d))) .bad := by
  unfold poK ifK
  simp only [Bool.and_eq_true, decide_eq_true_eq, hasS_iff, and_assoc]
/-! ### a def -/
def pK1 (r : SR) : Option D := match r with
  | .rt d _ => some d
  | .nx _ => some .non
  | _ => none
theorem pK1_rt : pK1 (.rt d s) = some d := rfl
theorem pK1_nx : pK1 (.nx s) = some .non := rfl
theorem a_runP (N : Nat) (f : SM) (ds : List D) : runP N f ds = pK1 (f (iniP N ds)) := rfl
def oK (d : D) (x : S) : Option (D × MO) := match x with
  | .o m' => some (d, m')
  | _ => none
theorem oK_o (m : MO) : oK d (.o m) = some (d, m) := rfl
def pK2 (r : SR) : Option (D × MO) := match r with
  | .rt d s => oK d (gS s 0)
  | .nx s => oK .non (gS s 0)
  | _ => none
theorem pK2_rt : pK2 (.rt d s) = oK d (gS s 0) := rfl
theorem pK2_nx : pK2 (.nx s) = oK .non (gS s 0) := rfl
theorem a_runB (N : Nat) (f : SM) (mo : MO) (ds : List D) : runB N f mo ds = pK2 (f (S.o mo :: iniP (N - 1) ds)) := rfl
def pK3 (r : ER MO) : Option MO := match r with
  | .ok m _ => some m
  | _ => none
theorem pK3_ok (m : MO) : pK3 (.ok m s) = some m := rfl
theorem a_runN (N : Nat) (f : NM) (ds : List D) : runN N f ds = pK3 (f (iniP N ds)) := rfl
def nosS : Nat → List S
  | 0 => []
  | n + 1 => .no :: nosS n
theorem nosS_0 : nosS 0 = [] := rfl
theorem nosS_s (n : Nat) : nosS (n + 1) = .no :: nosS n := rfl
theorem nosS_eq : ∀ n, nosS n = List.replicate n S.no
  | 0 => rfl
  | n + 1 => by unfold nosS; rw [nosS_eq n]; rfl
def iniK : Nat → List D → List S
  | N, [] => nosS N
  | 0, d :: r => .v d :: iniK 0 r
  | N + 1, d :: r => .v d :: iniK N r
theorem iniK_n (N : Nat) : iniK N [] = nosS N := by cases N <;> rfl
theorem iniK_s (N : Nat) (r : List D) : iniK (N + 1) (d :: r) = .v d :: iniK N r := rfl
theorem ini_eq : ∀ (ds : List D) (N : Nat), iniP N ds = iniK N ds
  | [], N => by rw [iniK_n, nosS_eq]; rfl
  | d :: r, 0 => by
    have := ini_eq r 0
    unfold iniP at this ⊢
    unfold iniK
    rw [← this]
    simp
  | d :: r, N + 1 => by
    have := ini_eq r N
    unfold iniP at this ⊢
    rw [iniK_s, ← this]
    simp
theorem toD_lst (xs : List D) : MO.toD (.lst xs) = .lst xs := rfl
theorem toD_dK (ks : List L2.Key) (xs : List D) : MO.toD (.dK ks xs) = .dK ks xs := rfl
theorem toD_dT (ks : List (List L2.Key)) (xs : List D) : MO.toD (.dT ks xs) = .dT ks xs := rfl
theorem toD_ins (C : Addr) (ns : List Str) (xs : List D) : MO.toD (.ins C ns xs) = .ins C ns xs := rfl
end
/-! ### comprehensions, loops over what is told in plain terms -/
section
variable {α : Type}
theorem lcR_map {vs : List Nat} {g : D → List S → Option (List S)} {t : BM} {e : EM} {sl : List S} (mk : α → D) (B : α → List S) (p : α → Bool) (f : α → D) (xs : List α)
    (h : ∀ x ∈ xs, g (mk x) sl = some (B x) ∧ wipeS (B x) vs = sl ∧ t (B x) = .ok (p x) (B x) ∧ (p x = true → e (B x) = .ok (f x) (B x))) (hz : xs.length ≤ sizeLine) :
    lcR vs g t e (xs.map mk) [] sl = .ok (.lst ((xs.filter p).map f)) sl := by
  have aux : ∀ (ys : List α) (acc : List D), (∀ x ∈ ys, g (mk x) sl = some (B x) ∧ wipeS (B x) vs = sl ∧ t (B x) = .ok (p x) (B x) ∧ (p x = true → e (B x) = .ok (f x) (B x))) → acc.length + ys.length ≤ sizeLine →
      lcR vs g t e (ys.map mk) acc sl = .ok (.lst (acc ++ (ys.filter p).map f)) sl := by
    intro ys
    induction ys with
    | nil => intro acc _ _; rw [List.filter_nil, List.map_nil, List.map_nil, List.append_nil]; rfl
    | cons x r ih =>
      intro acc h hz
      obtain ⟨h0, hw, h1, h2⟩ := h x List.mem_cons_self
      rw [List.length_cons] at hz
      have ih := fun a => ih a fun y hy => h y (List.mem_cons_of_mem _ hy)
      rw [List.map_cons]
      unfold lcR
      rw [h0]
      simp only
      rw [h1]
      simp only [noxR, ER.bind]
      cases q : p x with
      | false =>
        simp only [Bool.false_eq_true, if_false, hw]
        rw [ih acc (by omega), List.filter_cons_of_neg (by simp [q])]
      | true =>
        simp only [if_true]
        rw [h2 q]
        simp only [noxR, ER.bind, hw]
        rw [if_pos (by omega), ih _ (by rw [List.length_append, List.length_singleton]; omega), List.filter_cons_of_pos q, List.map_cons, List.append_assoc, List.singleton_append]
  have := aux xs [] h (by rw [List.length_nil, Nat.zero_add]; exact hz)
  rw [this, List.nil_append]
theorem lcR_mapA {vs : List Nat} {g : D → List S → Option (List S)} {e : EM} {sl : List S} (mk : α → D) (B : α → List S) (f : α → D) (xs : List α)
    (h : ∀ x ∈ xs, g (mk x) sl = some (B x) ∧ wipeS (B x) vs = sl ∧ e (B x) = .ok (f x) (B x)) (hz : xs.length ≤ sizeLine) :
    lcR vs g cYes e (xs.map mk) [] sl = .ok (.lst (xs.map f)) sl := by
  rw [lcR_map (t := cYes) mk B (fun _ => true) f xs (fun x hx => ⟨(h x hx).1, (h x hx).2.1, rfl, fun _ => (h x hx).2.2⟩) hz, List.filter_eq_self.mpr fun _ _ => rfl]
/-- a comprehension that draws -/
theorem lcR_pot {vs : List Nat} {g : D → List S → Option (List S)} {t : BM} {e : EM} (sl : MO → List S) (B : MO → D → List S) (I : MO → Prop) (R : D → Option D → Prop)
    (hg : ∀ p d, g d (sl p) = some (B p d)) (hw : ∀ p d, wipeS (B p d) vs = sl p) : ∀ (ds acc : List D) (p : MO), I p →
    (∀ d ∈ ds, ∀ p, I p → ∃ p' b, I p' ∧ t (B p d) = .ok b (B p' d) ∧ ((b = false ∧ R d none) ∨ (b = true ∧ ∃ p'' y, I p'' ∧ e (B p' d) = .ok y (B p'' d) ∧ R d (some y)))) → acc.length + ds.length ≤ 4096 →
    ∃ (p' : MO) (os : List (Option D)), I p' ∧ os.length = ds.length ∧ (∀ (i : Nat) (d : D) (o : Option D), ds[i]? = some d → os[i]? = some o → R d o) ∧ lcR vs g t e ds acc (sl p) = .ok (.lst (acc ++ os.filterMap id)) (sl p')
  | [], acc, p, hp, _, _ => ⟨p, [], hp, rfl, fun i d o h => by simp at h, by simp [lcR]⟩
  | d :: r, acc, p, hp, h, hz => by
    obtain ⟨p1, b, i1, h1, h2⟩ := h d List.mem_cons_self p hp
    rw [List.length_cons] at hz
    have z4 : (4096 : Nat) ≤ sizeLine := by decide
    unfold lcR
    rw [hg]
    simp only
    rw [h1]
    simp only [noxR, ER.bind]
    rcases h2 with ⟨rfl, h2⟩ | ⟨rfl, p2, y, i2, h3, h2⟩
    · simp only [Bool.false_eq_true, if_false, hw]
      obtain ⟨p', os, j1, j2, j3, j4⟩ := lcR_pot sl B I R hg hw r acc p1 i1 (fun x hx => h x (List.mem_cons_of_mem _ hx)) (by omega)
      refine ⟨p', none :: os, j1, by rw [List.length_cons, List.length_cons, j2], fun i x o q1 q2 => ?_, by rw [j4]; rfl⟩
      cases i with
      | zero => simp at q1 q2; subst q1; subst q2; exact h2
      | succ i => exact j3 i x o (by simpa using q1) (by simpa using q2)
    · simp only [if_true]
      rw [h3]
      simp only [noxR, ER.bind, hw]
      rw [if_pos (by omega)]
      obtain ⟨p', os, j1, j2, j3, j4⟩ := lcR_pot sl B I R hg hw r (acc ++ [y]) p2 i2 (fun x hx => h x (List.mem_cons_of_mem _ hx)) (by rw [List.length_append, List.length_singleton]; omega)
      refine ⟨p', some y :: os, j1, by rw [List.length_cons, List.length_cons, j2], fun i x o q1 q2 => ?_, by rw [j4, List.append_assoc]; rfl⟩
      cases i with
      | zero => simp at q1 q2; subst q1; subst q2; exact h2
      | succ i => exact j3 i x o (by simpa using q1) (by simpa using q2)
theorem rngD_eq (lo hi : Int) : rngD lo hi = ((List.range (hi - lo).toNat).map fun i : Nat => lo + (i : Int)).map D.int := by
  unfold rngD
  rw [List.map_map]
  rfl
end
end DL
set_option linter.all false
set_option autoImplicit false
set_option maxRecDepth 100000
/-! DlW: the evaluation lemmas, in bundles. -/
namespace DL
open PySem
def MSa := And.intro @a_seq (And.intro @a_next (And.intro @a_brk (And.intro @a_cnt (And.intro @a_bad (And.intro @a_drop (And.intro @a_kDrop (And.intro @a_ret (And.intro @a_kRet (And.intro @a_retN (And.intro @a_ifs (And.intro @a_test (And.intro @a_and (And.intro @a_or (And.intro @a_not (And.intro @a_kNot (And.intro @a_yes (And.intro @a_ofB (And.intro @a_kOfB (And.intro @a_ife (And.intro @a_c (And.intro @a_op1 (And.intro @a_kOp1 (And.intro @a_op2 (And.intro @a_kOp2 (And.intro @a_kOp2b (And.intro @a_op2n (And.intro @a_kOp2n (And.intro @a_kOp2nb (And.intro @a_fz (And.intro @a_kFz (And.intro @a_nil (And.intro @a_cons (And.intro @a_kCons (And.intro @a_kConsb (@a_star)))))))))))))))))))))))))))))))))))
def MSb := And.intro @a_kStar1 (And.intro @a_kStar2 (And.intro @a_kStar3 (And.intro @a_cb (And.intro @a_kCB (And.intro @a_cbn (And.intro @a_kCBN (And.intro @a_tup (And.intro @a_kTup (And.intro @a_lst (And.intro @a_kLst (And.intro @gS_0 (And.intro @gS_s (And.intro @sS_0 (And.intro @sS_s (And.intro @a_var (And.intro @hasS_0 (And.intro @hasS_s (And.intro @a_name (And.intro @a_asg (And.intro @a_kAsg (And.intro @a_asgO (And.intro @a_kAsgO (And.intro @a_gnil (And.intro @a_gcons (And.intro @a_gtup (And.intro @a_par (And.intro @a_seqi (And.intro @a_kSeq (And.intro @a_rng1 (And.intro @a_rng2 (And.intro @a_lc (And.intro @a_kLc (And.intro @a_dc (And.intro @a_kDc (@wipe_nil)))))))))))))))))))))))))))))))))))
def MSc := And.intro @wipe_cons (And.intro @a_for (And.intro @a_kFor (And.intro @a_call (And.intro @a_kCall (And.intro @a_callN (And.intro @a_kCallN (And.intro @a_kCal (And.intro @a_callB (And.intro @a_kPka (And.intro @a_pka (And.intro @a_kPkb (And.intro @a_pkb (And.intro @a_pkl (And.intro @a_kIxo (And.intro @a_ixo (And.intro @a_kMth (And.intro @a_meth (And.intro @a_kSet2 (And.intro @a_kSet1 (And.intro @a_seti (And.intro @a_kSetF (And.intro @a_setf (And.intro @a_kFld (And.intro @a_fld (And.intro @a_kMake (And.intro @a_make (And.intro @a_kMt2 (And.intro @a_kMt (And.intro @a_mt (And.intro @a_kSt (And.intro @a_stri (And.intro @a_kEn (And.intro @a_enum (And.intro @a_kCh3 (@a_kCh2)))))))))))))))))))))))))))))))))))
def MSd := And.intro @a_kCh1 (And.intro @a_chain (And.intro @a_kIs (And.intro @a_is1 (And.intro @a_is2 (And.intro @a_kSl3 (And.intro @a_kSl2 (And.intro @a_kSl1 (And.intro @a_sl (And.intro @a_nop (And.intro @a_kP (And.intro @a_p (And.intro @a_kLr (And.intro @a_lrg1 (And.intro @a_kLr2b (And.intro @a_kLr2 (And.intro @a_lrg2 (And.intro @a_kAg (And.intro @a_aug (And.intro @a_kNt (And.intro @a_nintab (And.intro @a_dnew (And.intro @a_alt (And.intro @a_kPo2 (And.intro @a_kPo1 (And.intro @a_paro (And.intro @a_runP (And.intro @a_runB (And.intro @a_runN (And.intro @nosS_0 (And.intro @nosS_s (And.intro @iniK_n (And.intro @iniK_s (@ini_eq)))))))))))))))))))))))))))))))))
def MSe := And.intro @bind_ok (And.intro @bSR_ok (And.intro @bind_bad (And.intro @bSR_bad (And.intro @bind_exn (And.intro @bSR_exn (And.intro @ofO_some (And.intro @ofO_none (And.intro @noxR_ok (And.intro @seqK_nx (And.intro @seqK_rt (And.intro @seqK_bk (And.intro @seqK_ct (And.intro @seqK_exn (And.intro @kIfS_t (And.intro @kIfS_f (And.intro @kTest_bl (And.intro @asB_bl (And.intro @kAnd_t (And.intro @kAnd_f (And.intro @kOr_t (And.intro @kOr_f (And.intro @kIfE_t (And.intro @kIfE_f (And.intro @szK_lit (And.intro @varK_v (And.intro @varK_o (And.intro @goK_some (And.intro @obK_some (And.intro @parK_ok (@r1K_ok))))))))))))))))))))))))))))))
def MSf := And.intro @r2K_ok (And.intro @forR_nil (And.intro @lenK_0 (And.intro @lenK_1 (And.intro @lenK_2 (And.intro @lenK_3 (And.intro @lenK_4 (And.intro @lenK_5 (And.intro @lenN_0 (And.intro @lenN_1 (And.intro @lenN_2 (And.intro @lenN_3 (And.intro @lenB_0 (And.intro @lenB_1 (And.intro @lenB_2 (And.intro @lenB_3 (And.intro @lenB_4 (And.intro @ownK_o (And.intro @outK_some (And.intro @calK_o (And.intro @sclK_int (And.intro @sclK_bl (And.intro @sclK_str (And.intro @sclK_non (And.intro @pkaK_o (And.intro @pkbK_o (And.intro @pklK_o (And.intro @ixoK_o (And.intro @mthK_o (And.intro @lstK_o (@ownS_o))))))))))))))))))))))))))))))
def MSg := And.intro @fldK_ok (And.intro @mtK_str (And.intro @stK_str (And.intro @enK_lst (And.intro @enK_tup (And.intro @kChB_t (And.intro @kChB_f (And.intro @chK_bl (And.intro @cmpD_int (And.intro @omK_some (And.intro @pK_int (And.intro @lrK_int (And.intro @lr2K_int (And.intro @ag2K_int (And.intro @agK_int (And.intro @ntK_str (And.intro @altK_ok (And.intro @altK_bad (And.intro @poK_ok (And.intro @pK1_rt (And.intro @pK1_nx (And.intro @oK_o (And.intro @pK2_rt (And.intro @pK2_nx (And.intro @pK3_ok (And.intro @toD_lst (And.intro @toD_dK (And.intro @toD_dT (@toD_ins))))))))))))))))))))))))))))
end DL
set_option linter.all false
set_option autoImplicit false
set_option maxRecDepth 100000
/-! DlX: what the operations by values come to. -/
namespace DL
open PySem
section
variable (i j : Int) (x y : Str) (xs ys : List D) (d e : D) (k : Bool) (l : List String) (ks : List L2.Key) (kt : List (List L2.Key))
theorem ty_non : tyB .non l = some false := rfl
theorem ty_bl : tyB (.bl k) l = some (l.contains "int" || l.contains "bool") := rfl
theorem ty_int : tyB (.int i) l = some (l.contains "int") := rfl
theorem ty_str : tyB (.str x) l = some (l.contains "str") := rfl
theorem ty_tup : tyB (.tup xs) l = some (l.contains "tuple") := rfl
theorem ty_lst : tyB (.lst xs) l = some (l.contains "list") := rfl
theorem ty_dK : tyB (.dK ks xs) l = some false := rfl
theorem ty_dT : tyB (.dT kt xs) l = some false := rfl
theorem ct_1 : (["int"].contains "int" = true) ∧ (["int"].contains "str" = false) ∧ (["int"].contains "tuple" = false) ∧ (["int"].contains "list" = false) ∧ (["int"].contains "bool" = false) := by decide
theorem ct_2 : (["str"].contains "int" = false) ∧ (["str"].contains "str" = true) ∧ (["str"].contains "tuple" = false) ∧ (["str"].contains "list" = false) ∧ (["str"].contains "bool" = false) := by decide
theorem ct_3 : (["tuple"].contains "int" = false) ∧ (["tuple"].contains "str" = false) ∧ (["tuple"].contains "tuple" = true) ∧ (["tuple"].contains "list" = false) ∧ (["tuple"].contains "bool" = false) := by decide
theorem ct_4 : (["list"].contains "int" = false) ∧ (["list"].contains "str" = false) ∧ (["list"].contains "tuple" = false) ∧ (["list"].contains "list" = true) ∧ (["list"].contains "bool" = false) := by decide
theorem ct_5 : (["bool"].contains "int" = false) ∧ (["bool"].contains "str" = false) ∧ (["bool"].contains "tuple" = false) ∧ (["bool"].contains "list" = false) ∧ (["bool"].contains "bool" = true) := by decide
theorem ct_6 : (["list", "tuple"].contains "int" = false) ∧ (["list", "tuple"].contains "str" = false) ∧ (["list", "tuple"].contains "tuple" = true) ∧ (["list", "tuple"].contains "list" = true) ∧ (["list", "tuple"].contains "bool" = false) := by decide
theorem add_int : addX (.int i) (.int j) = some (.int (i + j)) := rfl
theorem sub_int : subD (.int i) (.int j) = some (.int (i - j)) := rfl
theorem neg_int : negD (.int i) = some (.int (-i)) := rfl
theorem len_lst : lenD [.lst xs] = some (.int (xs.length : Nat)) := rfl
theorem len_tup : lenD [.tup xs] = some (.int (xs.length : Nat)) := rfl
theorem len_dK : lenD [.dK ks xs] = some (.int (ks.length : Nat)) := rfl
theorem len_dT : lenD [.dT kt xs] = some (.int (kt.length : Nat)) := rfl
theorem abs_int : absD [.int i] = some (.int (if i < 0 then -i else i)) := rfl
theorem int_int : intD1 [.int i] = some (.int i) := rfl
theorem str_str : strOf [.str x] = some (.str x) := rfl
theorem max_2 : maxD2 [.int i, .int j] = some (.int (if j > i then j else i)) := rfl
theorem list_lst : listD [.lst xs] = some (.lst xs) := rfl
theorem list_tup : listD [.tup xs] = some (.lst xs) := rfl
theorem tup_lst : tupD [.lst xs] = some (.tup xs) := rfl
theorem tup_tup : tupD [.tup xs] = some (.tup xs) := rfl
theorem sl_lst (a b : Option Int) : slD (.lst xs) a b = some (.lst (cutD xs a b)) := rfl
theorem sl_tup (a b : Option Int) : slD (.tup xs) a b = some (.tup (cutD xs a b)) := rfl
theorem idx_l0 : idxD (.lst (d :: xs)) (.int 0) = some d := by
  show L2.atI _ _ = _
  unfold L2.atI L2.ixN
  rw [if_pos (by decide), if_pos (by simp only [List.length_cons]; omega)]
  rfl
theorem idx_t0 : idxD (.tup (d :: xs)) (.int 0) = some d := idx_l0 xs d
theorem idx_l1 : idxD (.lst (d :: e :: xs)) (.int 1) = some e := by
  show L2.atI _ _ = _
  unfold L2.atI L2.ixN
  rw [if_pos (by decide), if_pos (by simp only [List.length_cons]; omega)]
  rfl
theorem idx_t1 : idxD (.tup (d :: e :: xs)) (.int 1) = some e := idx_l1 xs d e
theorem nd_non : isND .non .non = some (.bl true) ∧ notND .non .non = some (.bl false) := ⟨rfl, rfl⟩
theorem nd_bl (k m : Bool) : isND (.bl k) (.bl m) = some (.bl (decide (k = m))) ∧ notND (.bl k) (.bl m) = some (.bl (!decide (k = m))) := ⟨rfl, rfl⟩
theorem nd_tup : isND (.tup xs) .non = some (.bl false) ∧ notND (.tup xs) .non = some (.bl true) := ⟨rfl, rfl⟩
theorem nd_lst : isND (.lst xs) .non = some (.bl false) ∧ notND (.lst xs) .non = some (.bl true) := ⟨rfl, rfl⟩
theorem nd_int : isND (.int i) .non = some (.bl false) ∧ notND (.int i) .non = some (.bl true) := ⟨rfl, rfl⟩
theorem nd_str : isND (.str x) .non = some (.bl false) ∧ notND (.str x) .non = some (.bl true) := ⟨rfl, rfl⟩
theorem nd_bn : isND (.bl k) .non = some (.bl false) ∧ notND (.bl k) .non = some (.bl true) := ⟨rfl, rfl⟩
theorem eq_int : eqO (.int i) (.int j) = some (.bl (decide (i = j))) := rfl
theorem ne_int : neO (.int i) (.int j) = some (.bl (!decide (i = j))) := rfl
theorem eq_bl (k m : Bool) : eqO (.bl k) (.bl m) = some (.bl (decide (k = m))) := by cases k <;> cases m <;> rfl
theorem ne_bl (k m : Bool) : neO (.bl k) (.bl m) = some (.bl (!decide (k = m))) := by cases k <;> cases m <;> rfl
end
def MSt := And.intro @ty_non (And.intro @ty_bl (And.intro @ty_int (And.intro @ty_str (And.intro @ty_tup (And.intro @ty_lst (And.intro @ty_dK (And.intro @ty_dT (And.intro @ct_1 (And.intro @ct_2 (And.intro @ct_3 (And.intro @ct_4 (And.intro @ct_5 (@ct_6)))))))))))))
def MSo := And.intro @add_int (And.intro @sub_int (And.intro @neg_int (And.intro @len_lst (And.intro @len_tup (And.intro @len_dK (And.intro @len_dT (And.intro @abs_int (And.intro @int_int (And.intro @str_str (And.intro @max_2 (And.intro @list_lst (And.intro @list_tup (And.intro @tup_lst (And.intro @tup_tup (And.intro @sl_lst (And.intro @sl_tup (And.intro @idx_l0 (And.intro @idx_t0 (And.intro @idx_l1 (And.intro @idx_t1 (And.intro @nd_non (And.intro @nd_bl (And.intro @nd_tup (And.intro @nd_lst (And.intro @nd_int (And.intro @nd_str (And.intro @nd_bn (And.intro @eq_int (And.intro @ne_int (And.intro @eq_bl (@ne_bl)))))))))))))))))))))))))))))))
end DL
set_option linter.all false
set_option autoImplicit false
set_option maxRecDepth 100000
set_option maxHeartbeats 2000000
/-! DxA: an own exception's __init__ that says super().__init__(..). -/
namespace DL
open PySem PySem.Spec L2 PyProof.Rows PySem.W NdefX
section
variable {prog : Program} {w : World} {A : Around} {E : Value → Shared → Prop} {h : Heap} {g : Array GenState} {d : Drawn} {t : Nat} {os : OsState}
variable {nm q : Str} {C N : Addr} {bs bm : List Value} {hdct : Bool} {sn : List Str} {sub : List Value} {ab : Bool} {col : Option Bool} {dd : Option Addr} {k0 k1 k2 k3 k5 : Option Value}
theorem call_bwV {u e t0 : Addr} {rest : List Value} {Q : Value → Shared → Prop}
    (hC : h.get? C = some (excClassObj nm q C N bs bm hdct sn sub ab col dd k0 k1 k2 k3 k5 "ValueError.__new__")) (he : h.get? e = some (HandSPX.excO C t0)) (hu : h.get? u = some (kxs_mw "ValueError.__init__" e)) (hrest : rest.length ≤ sizeLine)
    (hq : ∀ h' t1, (∀ b o, b ≠ e → h.get? b = some o → h'.get? b = some o) → h'.get? e = some (HandSPX.excO C t1) → Q .none ⟨h', g, d, t, os⟩) :
    wpAny (model prog w) A (call (.ref u) rest) Q E ⟨h, g, d, t, os⟩ := by
  refine wpAny_call (codeAny_of_tree ?_)
  show wpAny _ A.in1 (callAny (.ref u) ⟨rest, []⟩) _ _ _
  simp only [callAny]
  refine wpAny_bind (wpAny_load hu ?_)
  simp only [kxs_mw, show (Value.type "method-wrapper" == Value.type "method" || Value.type "method-wrapper" == Value.type "builtin_function_or_method" || Value.type "method-wrapper" == Value.type "method-wrapper") = true by decide, if_true]
  refine KFB.if_so (by decide) ?_
  refine wpAny_bind (PySem.ESX.check_bound F.excBase_ValueError hC he rfl ?_)
  refine wpAny_bind (wpAny_pure (wpAny_pure ?_))
  refine ⟨Code.quiet_builtin _ (by decide +kernel), codeAny_builtin F.excBase_ValueError.initEntry ?_⟩
  rw [Around.under_plainId F.excBase_ValueError.init.plain _]
  wp_walk
  refine hq _ h.objs.size (fun b o hb ho => ?_) ?_
  · rw [Heap.get?_update_other _ _ (Ne.symm hb)]
    exact Heap.get?_push_of_some _ ho
  · rw [Heap.get?_update_self _ (Heap.get?_push_of_some _ he) rfl]
    rfl
end
theorem ev_nil {M : Model} {A : Around} {E : Value → Shared → Prop} {s : Shared} {f : Value} {Q : Args → Shared → Prop} (h : wpAny M A (spliced []) (fun vs s' => Q ⟨vs, []⟩ s') E s) : wpAny M A (evalArgs f true [] []) Q E s := by
  unfold evalArgs
  show wpAny M A (spliced [] >>= _) Q E s
  refine wpAny_bind (wpAny_mono h (fun vs s' h' => ?_) fun _ _ x => x)
  refine wpAny_holding ?_
  exact wpAny_bind (wpAny_pure (wpAny_bind (wpAny_pure (wpAny_pure h'))))
/-- what the written part says of a class whose __init__ says super().__init__(..) -/
structure SupC (K : Frag) (C cc cda : Addr) : Prop where
  T : OexC K C
  cell : ∃ cl cld csl, K.lookup cc = some ⟨cl, cld, .cell (some (.ref C)), csl⟩
  code : ∃ ccl cdd vs ccs file tf, K.lookup cda = some ⟨ccl, cdd, .fields vs, ccs⟩ ∧ vs[2]? = some (.str file tf)
  cd : ∃ cd, clsIn K C = some cd
  sub : mroIn K C (.ref C) = some true
  alo : ks_superIn K C C "__init__" = some (some (.builtin "ValueError.__init__"))
  opq : nsIn K cStatics "thirdparty.any" = some none
  subB : subIn K (.ref C) (.type "ValueError") = some true
def FileOk (K : Frag) (P : Program) (cda : Addr) : Prop := ∀ ccl cdd vs ccs file tf, K.lookup cda = some ⟨ccl, cdd, .fields vs, ccs⟩ → vs[2]? = some (.str file tf) → ((P.main.file : Str) == file) = true
theorem fn_sup {CX : CXT} {P : Program} {w : World} {K : Frag} {mg : Str → Option Value} {base : Heap} {k : Nat} {f C cc cda : Addr} {name qual : Str} {params : Arguments} {body rest : List Stmt} {scope : Scope} {dV kV doc pm ct oc : Value} {an od : Option Addr}
    {osl : Array (Option Value)} {N ps : List Str} {sp : Sp} {es : List Expr} {p0 p1 p2 p3 p4 : Pos} {ar : Arg}
    (lk : K.lookup f = some ⟨oc, od, .func (fnX name qual params body scope [("__class__", cc)] dV kV doc pm an (.ref cda) ct), osl⟩) (hcd : codeIn K (.ref cda) qual = true) (G : SupC K C cc cda) (hfile : FileOk K P cda) (hms : mg "super" = none)
    (S : NScope N ps ["__class__"] scope) (hbd : body = .Expr (.Call (.Attribute (.Call (.Name "super" p0) [] [] p1) "__init__" p2) es [] p3) p4 :: rest)
    (hks : scope.names.lookup ("super" : Str) = some .globalImplicit) (htop : (P.main.scope.names.lookup ("super" : Str)).isSome = false) (har : (params.posonlyargs ++ params.args).head? = some ar) (har0 : ps[0]? = some ar.arg)
    (len : ∀ vs H Q E, sp vs H Q E → vs.length = ps.length)
    (hplain : ∀ env : Env, (backTo p3 (starEach es env)).any (·.1) = false)
    (hev : ∀ (env : Env) (M : Model) (A : Around) (f : Value) (Q : Args → Shared → Prop) (E : Value → Shared → Prop) (s : Shared), wpAny M A (spliced (backTo p3 (starEach es env))) (fun vs s' => Q ⟨vs, []⟩ s') E s → wpAny M A (evalArgs f true (backTo p3 (starEach es env)) []) Q E s)
    (hpl2 : ∀ env : Env, ∃ pl : Sem Bool, eval (.Call (.Attribute (.Call (.Name "super" p0) [] [] p1) "__init__" p2) es [] p3) env = (do
      let ov ← attributeBase (.Call (.Name "super" p0) [] [] p1) "__init__" env (eval (.Call (.Name "super" p0) [] [] p1) env)
      standAt p2.atName
      let (f, first) ← holding [ov] (getMethod ov "__init__" pl)
      callWith p3 f first (backTo p3 (starEach es env)) []))
    (hbody : ∀ (A : Around) (outer : List Env) (s : Shared) (H : Hp) (vs : List V) (Q : VK) (E : XK), sp vs H Q E →
      ∃ (a : Addr) (ta : TA) (t : TS), vs[0]? = some (.ref a) ∧ H a = some (exo a C none) ∧ PA (ncx CX P w K mg base N ⟨name, qual, params, body, scope, [("__class__", cc)], cda⟩ f A outer s H E) es ta ∧ PSs (ncx CX P w K mg base N ⟨name, qual, params, body, scope, [("__class__", cc)], cda⟩ f A outer s H E) rest t ∧
        ta (startF N vs [none]) H (fun us H' => H' = H ∧ us.length ≤ 1000) ∧ t { nx := fun _ H' => Q .non H', rt := Q } (startF N vs [none]) H) :
    FnOk P w K mg base CX (k + 1) f (fnX name qual params body scope [("__class__", cc)] dV kV doc pm an (.ref cda) ct) ps sp := by
  refine ⟨len, fun A outer s H args us vs Q E hr e0 hb r hsp => ?_⟩
  obtain ⟨hp, g, d, tk, os⟩ := s
  have hl := len _ _ _ _ hsp
  have KX : K.In hp := e0.mod.kin.keeps fun b o e => (e0.bs b o e).1
  have lim : hp.NoLimit := e0.mod.nolimit.keeps fun b o e => (e0.bs b o e).1
  obtain ⟨cl, cld, csl, hcell⟩ := G.cell
  have Hc : H cc = none := (e0.bs cc _ (e0.mod.kin _ _ hcell)).2
  have CA : CellsAt [("__class__", cc)] ["__class__"] [none] hp H := by
    refine ⟨rfl, fun y c e => ?_, fun x y c e1 e2 => ?_, fun i y e => ?_⟩
    · have : c = cc := by
        rw [List.lookup_cons] at e
        split at e
        · exact (Option.some.inj e).symm
        · cases e
      rw [this]
      exact ⟨Hc, some (.ref C), _, KX _ _ hcell, rfl⟩
    · rw [List.lookup_cons] at e1 e2
      split at e1
      · split at e2
        · next h1 _ h2 => rw [eq_of_beq h1, eq_of_beq h2]
        · cases e2
      · cases e1
    · cases i with
      | zero =>
        simp at e
        subst e
        exact ⟨cc, by rw [List.lookup_cons]; rfl, fun v e => by simp at e⟩
      | succ i => simp at e
  refine ks_codeAny_call_defAt (fd := fnX name qual params body scope [("__class__", cc)] dV kV doc pm an (.ref cda) ct) (body := body) (binds := ps.zip us) hr.depth (KX _ _ lk) rfl lim (codeRec_of KX hcd) rfl hb S.nocell (fun ⟨n, _⟩ hy => S.par n (List.of_mem_zip hy).1) (fun h₁ hns kp => ?_) S.co S.gen S.kind
  have I : Inv (ncx CX P w K mg base N ⟨name, qual, params, body, scope, [("__class__", cc)], cda⟩ f A outer ⟨hp, g, d, tk, os⟩ H E) [] (startF N vs [none]) H ⟨h₁, g, d, tk + (ps.zip us).length, os⟩ := inv_startN (F := ⟨name, qual, params, body, scope, [("__class__", cc)], cda⟩) (f := f) S hr.hd e0 hl r CA hns kp
  obtain ⟨a, ta, t, v0, ha, hpa, hpss, hta, ht⟩ := hbody A outer ⟨hp, g, d, tk, os⟩ H vs Q E hsp
  have X1 : K.In h₁ := KX.keeps kp
  obtain ⟨t0, he0⟩ := exo_at e0.hok ha
  have he := kp _ _ he0
  obtain ⟨cd, hcls⟩ := G.cd
  obtain ⟨oD, hD1, hD2⟩ : ∃ oD, h₁.get? C = some oD ∧ oD.data = .cls cd := by
    have hD := hcls
    unfold clsIn at hD
    split at hD
    · rename_i c d cd' sl ho
      cases hD
      exact ⟨_, X1 _ _ ho, rfl⟩
    · cases hD
  obtain ⟨u0, hu0, ru0⟩ := r.get v0
  obtain rfl : u0 = Value.ref a := ru0
  have ndP : ps.Nodup := by
    have q := S.nd.sublist (List.take_sublist (ps.length + (["__class__"] : List Str).length) N)
    rw [S.pre] at q
    exact (List.nodup_append.mp q).1
  have hself : (ps.zip us).reverse.lookup ar.arg = some (.ref a) := zip_look ndP har0 hu0
  have hkc : scope.names.lookup ("__class__" : Str) = some .free := S.frk _ (by simp)
  have hka : scope.names.lookup ar.arg = some .local := S.par _ (List.mem_of_getElem? har0)
  obtain ⟨ccl, cdd, vs0, ccs, file, tf, hcode, hvs⟩ := G.code
  obtain ⟨nm, q, NN, bs, bm, sn, sub, ab, col, dd, k0, k1, k2, k3, k5, hC, hbm⟩ := G.T.cls
  show PySem.wpAt (model P w) _ _ (execs body _) _ _ _
  subst hbd
  obtain ⟨pl, hpl⟩ := hpl2 (envX qual scope hp.objs.size f (.ref cda) [("__class__", cc)])
  refine ks_wpAt_execs_cons (ks_wpAt_Expr_any (ks_wpAt_MethodCall (pl := pl) ?_ hpl) I.quiet)
  refine ks_wpAt_super_base (env := envX qual scope hp.objs.size f (.ref cda) [("__class__", cc)]) hks hkc (by decide) rfl (kp _ _ (KX _ _ lk)) rfl har rfl (X1 _ _ hcode) rfl hvs (hfile _ _ _ _ _ _ hcode hvs) htop ?_
  obtain ⟨mb, hb1, hb2⟩ := I.mod.blt
  refine ks_loadName_global S.kind hks (Calls.loadGlobal_builtin (I.mod.glob.keeps I.bk) hms (hb1.keeps I.bk) ((hb2 "super" (by decide)).trans (by kernel_rfl)) ⟨rfl, ?_⟩)
  refine wpAny_loadName_free S.kind hkc rfl ⟨_, X1 _ _ hcell, rfl⟩ ?_
  refine wpAny_loadName_local S.kind hka hns hself ?_
  refine ks_wpAny_isType_cls hD1 hD2 ⟨rfl, ?_⟩
  refine ks_wpAny_call_super hD1 hD2 he rfl (fun c z => by cases z) (looks_mroIn X1 G.sub) (fun h2 eso k2 => ?_)
  have X2 : K.In h2 := X1.keeps k2
  have alo : alongIn K "__init__" ((cd.mro.dropWhile (· != .ref C)).drop 1) = some (some (.builtin "ValueError.__init__")) := by
    have z := G.alo
    unfold ks_superIn at z
    rw [hcls] at z
    exact z
  have IA : InstAt h2 a _ C none := ⟨k2 _ _ he, rfl, rfl, trivial⟩
  refine kxs_getMethod kxs_ValueError eso (looks_opaque X2 G.opq) (l₀ := cd.mro) (fun A Q E s k q => wpAny_bind ((looks_clsIn X2 hcls) A _ E s k (wpAny_pure q))) rfl X2 alo (IA.type.andThen (looks_subIn X2 G.subB)) (ks_ne X2 IA hcls) (by decide) ?_
  have I2 : Inv (ncx CX P w K mg base N ⟨name, qual, params, (.Expr (.Call (.Attribute (.Call (.Name "super" p0) [] [] p1) "__init__" p2) es [] p3) p4 :: rest), scope, [("__class__", cc)], cda⟩ f A outer ⟨hp, g, d, tk, os⟩ H E) [] (startF N vs [none]) H ⟨h2.push (kxs_mw "ValueError.__init__" a), g, d, tk + (ps.zip us).length + 1, os⟩ :=
    I.kept (t' := tk + (ps.zip us).length + 1) fun b o e => Heap.get?_push_of_some _ (k2 b o e)
  have hu : (h2.push (kxs_mw "ValueError.__init__" a)).get? h2.objs.size = some (kxs_mw "ValueError.__init__" a) := Heap.get?_push_at rfl rfl
  have hsz : h₁.objs.size ≤ h2.objs.size := by
    obtain ⟨o, e⟩ : ∃ o, h2.get? h₁.objs.size = some o := ⟨_, eso⟩
    exact Nat.le_of_lt (Heap.lt_size e)
  have Hu : H h2.objs.size = none := I.hok.fresh hsz
  have I3 := I2.pins_of (pins' := [(h2.objs.size, kxs_mw "ValueError.__init__" a)]) fun p hp => by
    rw [List.mem_singleton] at hp
    subst hp
    exact ⟨hu, Hu, fun z => Nat.lt_irrefl _ (by have := I.lt; rw [← z] at this; exact Nat.lt_of_lt_of_le this hsz), I.nofs hsz, fun v z => by cases z⟩
  refine kxs_callWith (i := "ValueError.__init__") (x := a) (hplain _) (hev _ _ _ _ _ _ _ ?_)
  refine thn (hpa.run p3 _ _ _ H _ I3 hta) fun us2 s3 ⟨vs2, H2, I4, r2, eH, hl2⟩ => ?_
  subst eH
  have hu4 := (I4.pin (h2.objs.size, kxs_mw "ValueError.__init__" a) (List.mem_append_right _ List.mem_cons_self)).1
  obtain ⟨t1, he4⟩ := exo_at I4.hok ha
  obtain ⟨hp4, g4, d4, tk4, os4⟩ := s3
  refine ⟨hu4, call_bwV (I4.kIn _ _ hC) he4 hu4 (by show us2.length ≤ _; rw [← Paired.length r2, sizeLine_eq]; omega) fun h' t2 k hx => ?_⟩
  have J := I4.write (t' := tk4) (x := a) (e := a) (o := exo a C none) (by rw [ha]; exact True.intro) (.inl rfl) k ⟨_, hx⟩ (exo_ok hx)
  have eu : upd H2 a (exo a C none) = H2 := by
    funext b
    by_cases hb : b = a
    · rw [hb, upd_same, ha]
    · rw [upd_ne hb]
  rw [eu] at J
  have J' := J.pins_of (pins' := []) fun p hp => by cases hp
  refine PySem.wpAt_of_wpAny (wpAny_mono (hpss.run [] _ _ _ _ J' ht) (fun fl s' hs => ?_) fun e s' hs => hs)
  have fin : ∀ {σ' : L2.St} {H' : Hp} {v : V} {u : Value}, Inv (ncx CX P w K mg base N ⟨name, qual, params, (.Expr (.Call (.Attribute (.Call (.Name "super" p0) [] [] p1) "__init__" p2) es [] p3) p4 :: rest), scope, [("__class__", cc)], cda⟩ f A outer ⟨hp, g, d, tk, os⟩ H2 E) [] σ' H' s' → L2.RelV v u → Q v H' → CE outer P w H2 ⟨hp, g, d, tk, os⟩ Q u s' :=
    fun {σ' H' v u} J rv q => ⟨v, H', J.os, J.bare, J.base, J.hok, rv, q⟩
  cases fl with
  | ret u =>
    obtain ⟨v, σ', H', J, rv, q⟩ := hs
    exact fin J rv q
  | next =>
    obtain ⟨σ', H', J, q⟩ := hs
    exact fin (v := V.non) (u := Value.none) J rfl q
  | brk =>
    obtain ⟨_, _, _, q⟩ := hs
    exact False.elim q
  | cont =>
    obtain ⟨_, _, _, q⟩ := hs
    exact False.elim q
end DL
set_option linter.all false
set_option autoImplicit false
set_option maxRecDepth 100000
set_option maxHeartbeats 2000000
/-! DxB: own exceptions made, over data. -/
namespace DL
open PySem PySem.Spec L2 PyProof.Rows PySem.W NdefX
/-- what an own exception's __init__ leaves: the fields fs, each what was passed -/
def xL (fs : List Str) (us : List V) : List (Str × V) := fs.reverse.zip us.reverse
def spI (C : Addr) (fs : List Str) : Sp := fun vs H Q _ => ∃ (a : Addr) (us : List V), vs = .ref a :: us ∧ us.length = fs.length ∧ H a = some (exo a C none) ∧
  ∀ dx H2, H dx = none → dx ≠ a → H2 a = some (exo a C (some dx)) → H2 dx = some (exd dx (xL fs us)) → (∀ b, b ≠ a → b ≠ dx → H2 b = H b) → Q .non H2
def spI0 (C : Addr) : Sp := fun vs H Q _ => ∃ a : Addr, vs = [.ref a] ∧ H a = some (exo a C none) ∧ Q .non H
section
variable {CX : CXT} {P : Program} {w : World} {K : Frag} {mg : Str → Option Value} {base : Heap} {k : Nat} {f C cc cda : Addr} {qual : Str} {params : Arguments} {scope : Scope} {dV kV doc pm ct oc : Value} {an od : Option Addr}
    {osl : Array (Option Value)} {p0 p1 p2 p3 p4 q0 q1 q2 q3 q4 q5 q6 q7 q8 q9 : Pos} {ar : Arg} {self a1 a2 : Str}
theorem init0 (lk : K.lookup f = some ⟨oc, od, .func (fnX "__init__" qual params [.Expr (.Call (.Attribute (.Call (.Name "super" p0) [] [] p1) "__init__" p2) [] [] p3) p4] scope [("__class__", cc)] dV kV doc pm an (.ref cda) ct), osl⟩) (hcd : codeIn K (.ref cda) qual = true) (G : SupC K C cc cda) (hfile : FileOk K P cda) (hms : mg "super" = none)
    (S : NScope ["self", "__class__"] ["self"] ["__class__"] scope) (hks : scope.names.lookup ("super" : Str) = some .globalImplicit) (htop : (P.main.scope.names.lookup ("super" : Str)).isSome = false) (har : (params.posonlyargs ++ params.args).head? = some ar) (har0 : ar.arg = "self")
    (hpl2 : ∀ env : Env, ∃ pl : Sem Bool, eval (.Call (.Attribute (.Call (.Name "super" p0) [] [] p1) "__init__" p2) [] [] p3) env = (do
      let ov ← attributeBase (.Call (.Name "super" p0) [] [] p1) "__init__" env (eval (.Call (.Name "super" p0) [] [] p1) env)
      standAt p2.atName
      let (f, first) ← holding [ov] (getMethod ov "__init__" pl)
      callWith p3 f first (backTo p3 (starEach [] env)) [])) :
    FnOk P w K mg base CX (k + 1) f (fnX "__init__" qual params [.Expr (.Call (.Attribute (.Call (.Name "super" p0) [] [] p1) "__init__" p2) [] [] p3) p4] scope [("__class__", cc)] dV kV doc pm an (.ref cda) ct) ["self"] (spI0 C) := by
  refine fn_sup lk hcd G hfile hms S rfl hks htop har (by rw [har0]; rfl) (fun vs H Q E h => ?_) (fun env => rfl) (fun env M A f Q E s h => ev_nil h) hpl2 (fun A outer s H vs Q E h => ?_)
  · obtain ⟨a, rfl, _⟩ := h; rfl
  · obtain ⟨a, rfl, ha, q⟩ := h
    exact ⟨a, _, _, rfl, ha, pa_nil, pss_nil, ⟨rfl, Nat.zero_le _⟩, q⟩
theorem init1 (lk : K.lookup f = some ⟨oc, od, .func (fnX "__init__" qual params [.Expr (.Call (.Attribute (.Call (.Name "super" p0) [] [] p1) "__init__" p2) [.Name a1 q0] [] p3) p4, .Assign [.Attribute (.Name "self" q1) a1 q2] (.Name a1 q3) q4] scope [("__class__", cc)] dV kV doc pm an (.ref cda) ct), osl⟩)
    (hcd : codeIn K (.ref cda) qual = true) (G : SupC K C cc cda) (hfile : FileOk K P cda) (hms : mg "super" = none)
    (S : NScope ["self", a1, "__class__"] ["self", a1] ["__class__"] scope) (hks : scope.names.lookup ("super" : Str) = some .globalImplicit) (htop : (P.main.scope.names.lookup ("super" : Str)).isSome = false) (har : (params.posonlyargs ++ params.args).head? = some ar) (har0 : ar.arg = "self")
    (hn1 : findIn K (.ref C) a1 = some none) (hd1 : (a1 == ("__debug__" : Str)) = false) (hc1 : (a1 == ("__classdict__" : Str)) = false)
    (hsw : ∀ env : Env, swapsWith (.Name a1 q3) (some (.Attribute (.Name "self" q1) a1 q2)) q4.line env = pure false)
    (hpl2 : ∀ env : Env, ∃ pl : Sem Bool, eval (.Call (.Attribute (.Call (.Name "super" p0) [] [] p1) "__init__" p2) [.Name a1 q0] [] p3) env = (do
      let ov ← attributeBase (.Call (.Name "super" p0) [] [] p1) "__init__" env (eval (.Call (.Name "super" p0) [] [] p1) env)
      standAt p2.atName
      let (f, first) ← holding [ov] (getMethod ov "__init__" pl)
      callWith p3 f first (backTo p3 (starEach [.Name a1 q0] env)) [])) :
    FnOk P w K mg base CX (k + 1) f (fnX "__init__" qual params [.Expr (.Call (.Attribute (.Call (.Name "super" p0) [] [] p1) "__init__" p2) [.Name a1 q0] [] p3) p4, .Assign [.Attribute (.Name "self" q1) a1 q2] (.Name a1 q3) q4] scope [("__class__", cc)] dV kV doc pm an (.ref cda) ct) ["self", a1] (spI C [a1]) := by
  refine fn_sup lk hcd G hfile hms S rfl hks htop har (by rw [har0]; rfl) (fun vs H Q E h => ?_) (fun env => rfl) (fun env M A f Q E s h => Calls.evalArgs_plain h) hpl2 (fun A outer s H vs Q E h => ?_)
  · obtain ⟨a, us, rfl, hl, _⟩ := h; rw [List.length_cons, hl]; rfl
  · obtain ⟨a, us, rfl, hl, ha, q⟩ := h
    obtain ⟨y, rfl⟩ : ∃ y, us = [y] := by
      match us, hl with
      | [y], _ => exact ⟨y, rfl⟩
    have vs' : Vis scope "self" := .inl (S.par "self" (by simp))
    have v1 : Vis scope a1 := .inl (S.par a1 (by simp))
    refine ⟨a, _, _, rfl, ha, pa_cons (pe_var (i := 1) rfl v1 hd1 hc1) pa_nil, pss_one (ps_ost (pe_var (i := 0) rfl vs') (pe_var (i := 1) rfl v1 hd1 hc1) (hsw _)), ⟨y, rfl, rfl, by show 1 ≤ 1000; omega⟩, ?_⟩
    refine ⟨y, rfl, .ref a, rfl, a, C, rfl, G.T, hn1, .inl ⟨ha, fun dx n ne => q dx _ n ne upd_same ?_ fun b hb hd => by rw [upd_ne hb, upd_ne hd]⟩⟩
    rw [upd_ne ne, upd_same]
    rfl
theorem init2 (lk : K.lookup f = some ⟨oc, od, .func (fnX "__init__" qual params [.Expr (.Call (.Attribute (.Call (.Name "super" p0) [] [] p1) "__init__" p2) [.Name a1 q0, .Name a2 q5] [] p3) p4, .Assign [.Attribute (.Name "self" q1) a1 q2] (.Name a1 q3) q4, .Assign [.Attribute (.Name "self" q6) a2 q7] (.Name a2 q8) q9] scope [("__class__", cc)] dV kV doc pm an (.ref cda) ct), osl⟩)
    (hcd : codeIn K (.ref cda) qual = true) (G : SupC K C cc cda) (hfile : FileOk K P cda) (hms : mg "super" = none)
    (S : NScope ["self", a1, a2, "__class__"] ["self", a1, a2] ["__class__"] scope) (hks : scope.names.lookup ("super" : Str) = some .globalImplicit) (htop : (P.main.scope.names.lookup ("super" : Str)).isSome = false) (har : (params.posonlyargs ++ params.args).head? = some ar) (har0 : ar.arg = "self")
    (hn1 : findIn K (.ref C) a1 = some none) (hn2 : findIn K (.ref C) a2 = some none) (hd1 : (a1 == ("__debug__" : Str)) = false) (hc1 : (a1 == ("__classdict__" : Str)) = false) (hd2 : (a2 == ("__debug__" : Str)) = false) (hc2 : (a2 == ("__classdict__" : Str)) = false)
    (hsw : ∀ env : Env, swapsWith (.Name a1 q3) (some (.Attribute (.Name "self" q1) a1 q2)) q4.line env = pure false) (hsw2 : ∀ env : Env, swapsWith (.Name a2 q8) (some (.Attribute (.Name "self" q6) a2 q7)) q9.line env = pure false)
    (hpl2 : ∀ env : Env, ∃ pl : Sem Bool, eval (.Call (.Attribute (.Call (.Name "super" p0) [] [] p1) "__init__" p2) [.Name a1 q0, .Name a2 q5] [] p3) env = (do
      let ov ← attributeBase (.Call (.Name "super" p0) [] [] p1) "__init__" env (eval (.Call (.Name "super" p0) [] [] p1) env)
      standAt p2.atName
      let (f, first) ← holding [ov] (getMethod ov "__init__" pl)
      callWith p3 f first (backTo p3 (starEach [.Name a1 q0, .Name a2 q5] env)) [])) :
    FnOk P w K mg base CX (k + 1) f (fnX "__init__" qual params [.Expr (.Call (.Attribute (.Call (.Name "super" p0) [] [] p1) "__init__" p2) [.Name a1 q0, .Name a2 q5] [] p3) p4, .Assign [.Attribute (.Name "self" q1) a1 q2] (.Name a1 q3) q4, .Assign [.Attribute (.Name "self" q6) a2 q7] (.Name a2 q8) q9] scope [("__class__", cc)] dV kV doc pm an (.ref cda) ct) ["self", a1, a2] (spI C [a1, a2]) := by
  refine fn_sup lk hcd G hfile hms S rfl hks htop har (by rw [har0]; rfl) (fun vs H Q E h => ?_) (fun env => rfl) (fun env M A f Q E s h => Calls.evalArgs_plain h) hpl2 (fun A outer s H vs Q E h => ?_)
  · obtain ⟨a, us, rfl, hl, _⟩ := h; rw [List.length_cons, hl]; rfl
  · obtain ⟨a, us, rfl, hl, ha, q⟩ := h
    obtain ⟨y, z, rfl⟩ : ∃ y z, us = [y, z] := by
      match us, hl with
      | [y, z], _ => exact ⟨y, z, rfl⟩
    have vs' : Vis scope "self" := .inl (S.par "self" (by simp))
    have v1 : Vis scope a1 := .inl (S.par a1 (by simp))
    have v2 : Vis scope a2 := .inl (S.par a2 (by simp))
    refine ⟨a, _, _, rfl, ha, pa_cons (pe_var (i := 1) rfl v1 hd1 hc1) (pa_cons (pe_var (i := 2) rfl v2 hd2 hc2) pa_nil), pss_cons (ps_ost (pe_var (i := 0) rfl vs') (pe_var (i := 1) rfl v1 hd1 hc1) (hsw _)) (pss_one (ps_ost (pe_var (i := 0) rfl vs') (pe_var (i := 2) rfl v2 hd2 hc2) (hsw2 _))), ⟨y, rfl, z, rfl, rfl, by show 2 ≤ 1000; omega⟩, ?_⟩
    refine ⟨y, rfl, .ref a, rfl, a, C, rfl, G.T, hn1, .inl ⟨ha, fun dx n ne => ?_⟩⟩
    refine ⟨z, rfl, .ref a, rfl, a, C, rfl, G.T, hn2, .inr ⟨dx, [(a1, y)], upd_same, by rw [upd_ne ne, upd_same], by show 1 ≤ 900; omega, ?_⟩⟩
    refine q dx _ n ne (by rw [upd_ne (Ne.symm ne), upd_same]) upd_same fun b hb hd => by rw [upd_ne hd, upd_ne hb, upd_ne hd]
end
end DL
set_option linter.all false
set_option autoImplicit false
set_option maxRecDepth 100000
set_option maxHeartbeats 2000000
/-! DxC: raise, defs that may raise, their calls. -/
namespace DL
open PySem PySem.Spec L2 PyProof.Rows
theorem raises_of {X : Cx} {C : Addr} (T : OexC X.K C) : Raises X (.ref C) := raises_own T.exC T.tyC
section
variable {X : Cx} {pins : List (Addr × Obj)} {σ : L2.St} {H1 H2 : Hp} {hp hp2 h2 : Heap} {g1 g2 : Array GenState} {d1 d2 : Drawn} {t1 t2 : Nat} {os1 os2 : OsState} {a C : Addr} {Q : XK}
/-- the end of C() that leaves no field -/
theorem mk_endN (T : Raises X (.ref C)) (I1 : Inv X pins σ H1 ⟨hp, g1, d1, t1, os1⟩)
    (ha : hp.objs.size ≤ a) (k : ∀ b o, hp.get? b = some o → hp2.get? b = some o) (un : Un (frs X.stack) [] (upd H1 a (exo a C none)) H2 hp2 h2) (hok : HOk X.prog X.w H2 h2) (ho : os2 = os1) (hb : AllBare g2)
    (ea : H2 a = some (exo a C none)) (q : Q (.ref C) none (L2.del H2 a)) : MkP X pins σ Q (.ref a) ⟨h2, g2, d2, t2, os2⟩ := by
  obtain ⟨t0, hoe⟩ := exo_at hok ea
  have hn : H1 a = none := I1.hok.fresh ha
  obtain ⟨G, g1', g2'⟩ := restrict h2 fun b => decide (b ≠ a)
  have gk : ∀ b, b ≠ a → G.get? b = h2.get? b := fun b hb => g1' b (decide_eq_true hb)
  have ge : G.get? a = none := g2' a (by simp)
  have nha : ∀ {b : Addr} {o : Obj}, hp.get? b = some o → b ≠ a := fun {b o} z => Nat.ne_of_lt (Nat.lt_of_lt_of_le (Heap.lt_size z) ha)
  have up : ∀ {b : Addr}, b ≠ a → H1 b = none → upd H1 a (exo a C none) b = none := fun {b} hb n => by rw [upd_ne hb]; exact n
  have U : Un (frs X.stack) [] H1 (L2.del H2 a) hp G := {
    keep := fun b o z n hf hx => by
      rw [gk b (nha z)]
      exact un.keep b o (k b o z) (up (nha z) n) hf hx
    slot := fun b o z n hf hx => by
      rw [gk b (nha z)]
      exact un.slot b o (k b o z) (up (nha z) n) hf hx
    free := fun b o z n hx => by
      rw [L2.del_ne (nha z)]
      exact un.free b o (k b o z) (up (nha z) n) hx
    there := fun b o z hx => by
      rw [gk b (nha z)]
      exact un.there b o (k b o z) hx
    tups := fun b xs z => by
      rw [L2.del_ne (ne_of_none z hn)]
      exact un.tups b xs (by rw [upd_ne (ne_of_none z hn)]; exact z)
    frzs := fun b o v z => by
      rw [L2.del_ne (ne_of_none z hn)]
      exact un.frzs b o v (by rw [upd_ne (ne_of_none z hn)]; exact z)
    tbls := fun b ps z => by
      rw [L2.del_ne (ne_of_none z hn)]
      exact un.tbls b ps (by rw [upd_ne (ne_of_none z hn)]; exact z) }
  have hok3 : HOk X.prog X.w (L2.del H2 a) G := fun b o z => by
    have hba : b ≠ a := fun e => by
      rw [e, L2.del_same] at z
      cases z
    rw [L2.del_ne hba] at z
    have noa : ∀ {c : Addr}, H2 c = some (.own b) → c ≠ a := fun {c} hc => at_ne ea hc exo_own
    exact (hok b o z).stay (fun c v hc y => by
        have hca : c ≠ a := by
          rcases hc with hc | hc
          · rw [hc]
            exact hba
          · exact noa hc
        rw [gk c hca]
        exact y)
      (fun c hc => by rw [L2.del_ne (noa hc)]; exact hc) (fun c xs hc => by rw [L2.del_ne (at_ne ea hc exo_tup)]; exact hc)
  have J : Inv X pins σ (L2.del H2 a) ⟨G, g2, d2, t2, os2⟩ := I1.call' (ch := []) ho U hok3 hb (fun b z => absurd z (by simp))
  refine ⟨a, _, _, ⟨G, g2, d2, t2, os2⟩, _, .ref C, none, rfl, J, fun b o z => ?_, ge, hoe, ⟨rfl, rfl⟩, rfl, rfl, L2.del_same, rfl, hb, T, q⟩
  by_cases hba : b = a
  · rw [hba, ge] at z
    cases z
  · exact (gk b hba).symm.trans z
/-- C(), C's own __init__ leaving no field -/
def tMk0 (C : Addr) : L2.St → Hp → XK → Prop := fun σ H Q => Q (.ref C) none H
theorem pmk_oex0 {CX : CXT} {x : Str} {C fI : Addr} {k : Nat} {fd : FuncData} {p pos : Pos} (T : OexC X.K C) (iC : PySem.W.findIn X.K (.ref C) "__init__" = some (some (.ref fI))) (tI : PySem.W.typeIn X.K (.ref fI) = some (.type "function"))
    (F1 : FnOk X.prog X.w X.K X.mg X.base CX k fI fd ["self"] (spI0 C)) (hr : Room (k + 1) X.A) (hb : Binds X.K fd ["self"] []) (hx : Passes CX X (fun _ _ _ => False)) (hg : Gl X x) (hm : X.mg x = some (.ref C))
    (hdb : (x == ("__debug__" : Str)) = false := by decide) :
    PMk X (.Call (.Name x p) [] [] pos) (tMk0 C) := by
  intro pins s σ H Q I h
  obtain ⟨nm, q, N, bs, bm, sn, sub, ab, col, dd, k0, k1, k2, k3, k5, hC, hbm⟩ := T.cls
  refine wpAny_Call_Name_kw (ld_glob I hg hm ?_ hdb)
  refine PySem.W.callWith_K0 I.kIn T.kC ?_
  show wpAny _ _ (call (.ref C) []) _ _ _
  obtain ⟨hp, g, dr, tk, os⟩ := s
  have hsz : hp.objs.size ≤ hp.objs.size + 1 := Nat.le_succ _
  have hn : H (hp.objs.size + 1) = none := I.hok.fresh hsz
  have kk : ∀ b o, hp.get? b = some o → ((hp.push (PySem.W.kdv_tup [])).push (PySem.HandSPX.excO C hp.objs.size)).get? b = some o := fun b o e => Heap.get?_push_of_some _ (Heap.get?_push_of_some _ e)
  have hget : ((hp.push (PySem.W.kdv_tup [])).push (PySem.HandSPX.excO C hp.objs.size)).get? (hp.objs.size + 1) = some (PySem.HandSPX.excO C hp.objs.size) := by heap_get
  have I2 : Inv X pins σ (upd H (hp.objs.size + 1) (exo (hp.objs.size + 1) C none)) ⟨(hp.push (PySem.W.kdv_tup [])).push (PySem.HandSPX.excO C hp.objs.size), g, dr, tk, os⟩ :=
    I.laid (t' := tk) (a := hp.objs.size + 1) (o := exo (hp.objs.size + 1) C none) (h' := (hp.push (PySem.W.kdv_tup [])).push (PySem.HandSPX.excO C hp.objs.size)) kk hsz (exo_ok hget)
  have r2 : Vals [V.ref (hp.objs.size + 1)] [Value.ref (hp.objs.size + 1)] := .cons rfl .nil
  refine wpAny_call (PySem.HandSPX.call_own F.excBase_ValueError (fun Y => PySem.HandSPX.refsVE_contains Y bm hbm) (I.kIn _ _ hC) (PySem.W.looks_findIn I.kIn iC) (fun self => PySem.W.bind_fn I.kIn self tI) (Nat.zero_le _)
    (codeAny_mono (F1.run _ X.stack _ _ ⟨[Value.ref (hp.objs.size + 1)], []⟩ [Value.ref (hp.objs.size + 1)] _ (fun v H2 => v = .non ∧ H2 = upd H (hp.objs.size + 1) (exo (hp.objs.size + 1) C none)) (fun _ _ _ => False) (hr.make C [] []) (I2.env0.make C [] []) (hb _ [Value.ref (hp.objs.size + 1)] I2.kIn rfl) r2 ⟨_, rfl, upd_same, rfl, rfl⟩) fun r s' hq' => ?_))
  cases r with
  | error er => exact hx pins σ _ _ er s' I2 hq'
  | ok fl =>
    cases fl with
    | ret u =>
      obtain ⟨v, H2, os2, bare2, un2, hok2, rv, ev, eH⟩ := hq'
      subst ev
      obtain ⟨h2, g2, d2, t2, os'⟩ := s'
      subst eH
      refine ⟨rv, mk_endN (raises_own T.exC T.tyC) I hsz kk un2 hok2 os2 bare2 upd_same ?_⟩
      have e : L2.del (upd H (hp.objs.size + 1) (exo (hp.objs.size + 1) C none)) (hp.objs.size + 1) = H := by
        funext b
        by_cases hb : b = hp.objs.size + 1
        · rw [hb, L2.del_same, hn]
        · rw [L2.del_ne hb, upd_ne hb]
      rw [e]
      exact h
    | next => exact False.elim hq'
    | brk => exact False.elim hq'
    | cont => exact False.elim hq'
end
/-! ### mirrors -/
inductive Ro where
  | ok (d : D) | exn (x : Ex)
def runX (N : Nat) (m : SM) : List D → Option Ro := fun ds => match m (iniP N ds) with
  | .rt d _ => some (.ok d)
  | .nx _ => some (.ok .non)
  | .exn x _ => some (.exn x)
  | _ => none
def spX (K : PySem.W.Frag) (n : Nat) (F : List D → Option Ro) : Sp := fun vs H Q E => ∃ (ds : List D) (U : Addr → Prop) (r : Ro), ds.length = n ∧ UOk K H U ∧ Reps K (Hm H U) ds vs ∧ F ds = some r ∧
  (∀ z, r = .ok z → ∀ u H', LeT K H H' → Rep K (Hm H' U) z u → Q u H') ∧ (∀ x, r = .exn x → ∀ cls dd H', LeT K H H' → XRep K (Hm H' U) x cls dd → E cls dd H')
section
variable {P : Program} {w : World} {K : PySem.W.Frag} {mg : Str → Option Value} {base : Heap} {x qual : Str} {params : Arguments} {body : List Stmt} {scope : Scope} {f : Addr} {fd : FuncData} {N ps : List Str} {k n : Nat} {m : SM}
theorem fnEx (F : FunD K x qual params body scope [] [] f fd) (sc : FnScope N ps scope) (hn : ps.length = n)
    (hb : ∀ (cdv : Value) (A : Around) (outer : List Env) (s : Shared) (H : Hp) (E : XK), Room k (A.deeper (PyProof.Rows.envOfC qual scope s.heap.objs.size f cdv)) → ∃ t, PSs (cxOf (L2.CX P w) P w K mg base N qual scope f cdv A outer s H E) body t ∧ SX K (fun cls d _ H' => E cls d H') t m) :
    FnOk P w K mg base (L2.CX P w) (k + 1) f fd ps (spX K n (runX N.length m)) := by
  have hpl : ps.length ≤ N.length := by have := congrArg List.length sc.pre; rw [List.length_take] at this; omega
  refine F.ok sc (fun vs H Q E h => ?_) (fun cdv A outer s H vs Q E hr h => ?_)
  · obtain ⟨ds, U, z, h1, h2, h3, _⟩ := h
    rw [← h3.length, h1, hn]
  · obtain ⟨ds, U, z, h1, h2, h3, h4, h5, h6⟩ := h
    obtain ⟨t, ht, hm⟩ := hb cdv A outer s H E hr
    refine ⟨t, ht, ?_⟩
    have hl : vs.length ≤ N.length := by rw [← h3.length, h1, ← hn]; exact hpl
    obtain ⟨s0, l0⟩ := sim_ini (N := N) h3 h2 hl
    refine hm.ok _ _ _ _ _ s0 ?_
    unfold runX at h4
    have fl : ∀ {s' : List S} {σ' : L2.St} {H' : Hp}, Sim K ⟨H, none, U, none⟩ s' σ' H' → Le (fz ⟨H, none, U, none⟩ s' σ' H') (Hm H' U) ∧ LeT K H H' := fun {s' σ' H'} i =>
      ⟨Hm_sub fun b q => .inl q, ⟨fun b o e n => i.frm b o e n (fun q => by cases q) Ct.xs_none, i.tab⟩⟩
    cases e : m (iniP N.length ds) with
    | rt d s' =>
      rw [e] at h4
      cases h4
      exact fun v σ' H' i1 r1 _ => h5 _ rfl v H' (fl i1).2 (r1.le (fl i1).1)
    | nx s' =>
      rw [e] at h4
      cases h4
      exact fun σ' H' i1 _ => h5 _ rfl .non H' (fl i1).2 .non
    | exn x s' =>
      rw [e] at h4
      cases h4
      exact fun cls dd σ' H' i1 r1 _ => h6 _ rfl cls dd H' (fl i1).2 (r1.le (fl i1).1)
    | _ => rw [e] at h4; cases h4
end
/-! ### a def that may raise, called -/
def DnX (P : Program) (w : World) (K : PySem.W.Frag) (mg : Str → Option Value) (base : Heap) (k : Nat) (x : Str) (ps : List Str) (sp : Sp) : Prop :=
  ∃ f fd, FnOk P w K mg base (L2.CX P w) k f fd ps sp ∧ mg x = some (.ref f) ∧ PySem.W.keepIn K (.ref f) = true ∧ Binds K fd ps []
theorem DnX.mk {P : Program} {w : World} {K : PySem.W.Frag} {mg : Str → Option Value} {base : Heap} {k : Nat} {x qual : Str} {params : Arguments} {body : List Stmt} {scope : Scope} {f : Addr} {fd : FuncData} {ps : List Str} {sp : Sp}
    (F : FunD K x qual params body scope [] [] f fd) (g : mg x = some (.ref f)) (ok : FnOk P w K mg base (L2.CX P w) k f fd ps sp)
    (h : ∀ (kV doc pm : Value) (an : Option Addr) (cdv ct : Value) (us : List Value), us.length = ps.length → bindArgs (PySem.W.fnOf x qual params body scope .none kV doc pm an cdv ct) ⟨us, []⟩ = pure (ps.zip us)) : DnX P w K mg base k x ps sp :=
  ⟨f, fd, ok, g, F.kp, F.bindsN h⟩
theorem pe_callX {X : Cx} {W : WX} {k : Nat} {x : Str} {ps : List Str} {sp : Sp} {e : Expr} {es : List Expr} {t : TA} {p pos : Pos} (tk : Takes X W) (d : DnX X.prog X.w X.K X.mg X.base k x ps sp) (hr : Room k X.A) (hg : Gl X x) (ha : PA X (e :: es) t)
    (hdb : (x == ("__debug__" : Str)) = false := by decide) (he : starEach (e :: es) X.env = (false, eval e X.env) :: starEach es X.env := by rfl) (hpl : (backTo pos (starEach es X.env)).any (·.1) = false := by rfl) :
    PE X (.Call (.Name x p) (e :: es) [] pos) (tCallS sp (WE W) t) := by
  obtain ⟨f, fd, F, gm, kp, b⟩ := d
  exact pe_callS F hr hg gm kp b (fun σ => passAt tk σ) ha hdb he hpl
def roR (r : Option Ro) (s : List S) : ER D := match r with
  | some (.ok z) => .ok z s
  | some (.exn x) => .exn x s
  | none => .bad
def cCallX (n : Nat) (F : List D → Option Ro) (m : AM) : EM := fun sl => (m sl).bind fun ds s => roR (if ds.length = n then F ds else none) s
instance callX_ex {K : PySem.W.Frag} {W : WX} {n : Nat} {ta : TA} {ma : AM} {F : List D → Option Ro} [ha : AX K W ta ma] : EX K W (tCallS (spX K n F) (WE W) ta) (cCallX n F ma) := ⟨fun c σ H sl Q s h => by
  refine ha.ok c σ H sl _ s (h.split.imp fun x H1 ⟨ds, s1, _, i1, r1, l1, h1⟩ => ?_)
  by_cases hl : ds.length = n
  · simp only [hl, if_true] at h1
    cases e : F ds with
    | none => rw [e] at h1; exact h1.elim
    | some r =>
      rw [e] at h1
      refine ⟨ds, Hid c s1 σ, r, hl, i1.uok, r1, e, fun z q u H2 l2 r2 => ?_, fun x q cls dd H2 l2 r2 => ?_⟩
      · subst q
        exact h1 u H2 (i1.le l2.le l2.tab) r2 (fz_same l2.le)
      · subst q
        exact h1 cls dd H2 (i1.le l2.le l2.tab) r2 (fz_same l2.le)
  · simp only [hl, if_false] at h1
    exact h1.elim⟩
/-! ### raise -/
def cRaise (C : Addr) (fs : List Str) (m : AM) : SM := fun sl => bSR (m sl) fun ds s => if ds.length = fs.length ∧ fs.length ≤ 1000 then .exn ⟨C, fs.reverse, ds.reverse⟩ s else .bad
def cRaise0 (C : Addr) : SM := fun sl => .exn ⟨C, [], []⟩ sl
/-- the reading of raise C(e, ..) -/
def tRz (W : WX) (t : L2.St → Hp → XK → Prop) : TS := fun _ σ H => t σ H fun cls d H' => W cls d σ H'
theorem ps_raiseW {X : Cx} {W : WX} {e : Expr} {t : L2.St → Hp → XK → Prop} {pos : Pos} (hc : X.calm = true) (tk : Takes X W) (he : PMk X e t) : PS X (.Raise (some e) none pos) (tRz W t) := ps_raise hc tk he
theorem xL_eq {fs : List Str} {us : List V} : xL fs us = fs.reverse.zip us.reverse := rfl
instance raise_sx {K : PySem.W.Frag} {W : WX} {C : Addr} {fs : List Str} {ta : TA} {ma : AM} [ha : AX K W ta ma] : SX K W (tRz W (tMkO C (spI C fs) [] ta)) (cRaise C fs ma) := ⟨fun c σ H sl Dn s h => by
  refine ha.ok c σ H sl _ s (h.split.imp fun us H1 ⟨ds, s1, _, i1, r1, l1, h1⟩ => ?_)
  by_cases hl : ds.length = fs.length ∧ fs.length ≤ 1000
  · simp only [if_pos hl] at h1
    have ul : us.length = fs.length := by rw [← r1.length]; exact hl.1
    refine ⟨by omega, fun a na => ⟨a, us, by rw [List.append_nil], ul, upd_same, fun dx H2 nd ne ea ed eb => ?_⟩⟩
    rw [upd_ne ne] at nd
    have eH : upd (L2.del H2 a) dx (.xd (xL fs us)) = upd H1 dx (.xd (xL fs us)) := by
      funext b
      by_cases hb : b = dx
      · rw [hb, upd_same, upd_same]
      · rw [upd_ne hb, upd_ne hb]
        by_cases ha : b = a
        · rw [ha, L2.del_same, na]
        · rw [L2.del_ne ha, eb b ha hb, upd_ne ha]
    refine ⟨rfl, dx, xL fs us, ea, ed, nd, ?_⟩
    rw [eH]
    have e : Same H1 (upd H1 dx (.xd (xL fs us))) := same_upd nd
    have l2 : Le (fz c s1 σ H1) (fz c s1 σ (upd H1 dx (.xd (xL fs us)))) := fz_same (Le.of_same e)
    exact h1 (.ref C) (some dx) σ _ (i1.same e) ⟨rfl, .inr ⟨dx, us.reverse, rfl, Hm_some.mpr ⟨i1.fresh nd, upd_same⟩, by rw [List.length_reverse, List.length_reverse, ul], (Reps.reverse r1).le l2⟩⟩ l2
  · simp only [if_neg hl] at h1
    exact h1.elim⟩
instance raise0_sx {K : PySem.W.Frag} {W : WX} {C : Addr} : SX K W (tRz W (tMk0 C)) (cRaise0 C) := ⟨fun c σ H sl Dn s h => h (.ref C) none σ H s ⟨rfl, .inl ⟨rfl, rfl⟩⟩ Le.rfl⟩
end DL
set_option linter.all false
set_option autoImplicit false
set_option maxRecDepth 100000
set_option maxHeartbeats 2000000
/-! DxD: try .. except; repr; fields of what is caught. -/
namespace DL
open PySem PySem.Spec L2 PyProof.Rows
/-! ### a slot forgotten -/
theorem Sim.noX {K : PySem.W.Frag} {c : Ct} {σ : L2.St} {H : Hp} {sl : List S} (i : Nat) (x : Option V) (s : Sim K c sl σ H) : Sim K c (sS sl i .no) (σ.set i x) H ∧ Le (fz c sl σ H) (fz c (sS sl i .no) (σ.set i x) H) := by
  rw [sS_set]
  have key : ∀ (j : Nat) (x : S), (sl.set i .no)[j]? = some x -> x ≠ .no -> j ≠ i ∧ sl[j]? = some x := fun j x e n => by
    by_cases q : j = i
    · subst q
      have hl : j < sl.length := by
        have := (List.getElem?_eq_some_iff.mp e).1
        rw [List.length_set] at this
        exact this
      rw [List.getElem?_set_self hl] at e
      exact absurd (Option.some.inj e).symm n
    · rw [List.getElem?_set_ne (Ne.symm q)] at e
      exact ⟨q, e⟩
  have oσ : ∀ (j : Nat), j ≠ i -> (σ.set i x)[j]? = σ[j]? := fun j q => List.getElem?_set_ne (Ne.symm q)
  have sub : ∀ b, Hid c (sl.set i .no) (σ.set i x) b -> Hid c sl σ b := fun b hb => hb.elim .inl fun ⟨j, m', h1, h2⟩ => by
    obtain ⟨q, h1⟩ := key j _ h1 (fun q => nomatch q)
    rw [oσ j q] at h2
    exact .inr ⟨j, m', h1, h2⟩
  have le : Le (fz c sl σ H) (fz c (sl.set i .no) (σ.set i x) H) := Hm_sub sub
  refine ⟨⟨by rw [List.length_set, List.length_set]; exact s.len, fun j d' e => ?_, fun j m' e => ?_, fun j k m1 m2 b h1 h2 h3 h4 => ?_, fun b m' p e => ?_, s.frm, s.uh, s.pex, s.tab, s.ne.mv rfl (fun _ q => q) (fun _ _ _ _ e _ => e) le fun j n e => (fun ⟨q, e⟩ => ⟨e, fun w hw => by rw [oσ j q]; exact hw⟩) (set_q e fun _ h => nomatch h)⟩, le⟩
  · obtain ⟨q, e⟩ := key j _ e (fun q => nomatch q)
    obtain ⟨w, h1, h2⟩ := s.val j d' e
    exact ⟨w, by rw [oσ j q]; exact h1, h2.le le⟩
  · obtain ⟨q, e⟩ := key j _ e (fun q => nomatch q)
    obtain ⟨b, o', h1, h2, h3, h4, h5⟩ := s.own j m' e
    exact ⟨b, o', by rw [oσ j q]; exact h1, h2, h3, h4, h5.le le⟩
  · obtain ⟨q1, h1⟩ := key j _ h1 (fun q => nomatch q)
    obtain ⟨q2, h2⟩ := key k _ h2 (fun q => nomatch q)
    rw [oσ j q1] at h3
    rw [oσ k q2] at h4
    exact s.dis j k m1 m2 b h1 h2 h3 h4
  · obtain ⟨q, e⟩ := key 0 _ e (fun q => nomatch q)
    rw [oσ 0 q]
    exact s.par b m' p e

/-! ### repr of a number, a bool, None -/
def rRepr1 : List V → Hp → VK → Prop := fun xs H Q => (∃ i, xs = [.int i] ∧ i.natAbs.log2 < 1920 ∧ Q (.str (toString i)) H) ∨ (∃ k : Bool, xs = [.bl k] ∧ Q (.str (if k then "True" else "False")) H) ∨ (xs = [.non] ∧ Q (.str "None") H)
theorem cr_repr1 {X : Cx} : CallR X (.builtin "repr") rRepr1 := by
  intro pins s σ H xs us Q I r h
  rcases h with ⟨i, rfl, hz, q⟩ | ⟨k, rfl, q⟩ | ⟨rfl, q⟩
  · obtain ⟨u, rfl, t, rfl⟩ := vals1 r
    exact PySem.P.repr_of_int hz ⟨.str _, H, I.tok _, ⟨_, rfl⟩, q⟩
  · obtain ⟨u, rfl, r1⟩ := vals1 r
    cases r1
    exact PySem.P.repr_of_bool ⟨.str _, H, I.tok _, ⟨_, rfl⟩, q⟩
  · obtain ⟨u, rfl, r1⟩ := vals1 r
    cases r1
    exact PySem.P.repr_of_none ⟨.str _, H, I.tok _, ⟨_, rfl⟩, q⟩
def reprF : List D → Option D
  | [.int i] => if i.natAbs.log2 < 1920 then some (.str (toString i)) else none
  | [.bl k] => some (.str (if k then "True" else "False"))
  | [.non] => some (.str "None")
  | _ => none
instance (K : PySem.W.Frag) : OpL K rRepr1 reprF := ⟨fun H U xs as z Q hU r e h => by
  cases r with
  | nil => cases e
  | cons ra rr =>
    cases rr with
    | cons _ _ => cases ra <;> cases e
    | nil =>
      cases ra with
      | int i =>
        unfold reprF at e
        by_cases q : i.natAbs.log2 < 1920
        · simp only [q, if_true] at e
          cases e
          exact .inl ⟨i, rfl, q, h _ H (Same.refl _) (.str _)⟩
        · simp only [q, if_false] at e; cases e
      | bl k => cases e; exact .inr (.inl ⟨k, rfl, h _ H (Same.refl _) (.str _)⟩)
      | non => cases e; exact .inr (.inr ⟨rfl, h _ H (Same.refl _) (.str _)⟩)
      | _ => cases e⟩

/-! ### expressions where an exception is in hand -/
class HEX (K : PySem.W.Frag) (i : Nat) (t : Addr → Value → Option Addr → TE) (m : outParam (Ex → EM)) : Prop where
  ok : ∀ (a : Addr) (cls : Value) (dd : Option Addr) (x : Ex) (c : Ct) (σ : L2.St) (H : Hp) (sl : List S) (Q : VK), Sim K c sl σ H → σ[i]? = some (some (.ref a)) → XRep K (fz c sl σ H) x cls dd → POk K W0 c σ (Rep K) H sl (m x sl) Q → t a cls dd σ H Q
class HAX (K : PySem.W.Frag) (i : Nat) (t : Addr → Value → Option Addr → TA) (m : outParam (Ex → AM)) : Prop where
  ok : ∀ (a : Addr) (cls : Value) (dd : Option Addr) (x : Ex) (c : Ct) (σ : L2.St) (H : Hp) (sl : List S) (Q : List V → Hp → Prop), Sim K c sl σ H → σ[i]? = some (some (.ref a)) → XRep K (fz c sl σ H) x cls dd → POk K W0 c σ (Reps K) H sl (m x sl) Q → t a cls dd σ H Q
class HX (K : PySem.W.Frag) (i : Nat) (t : Addr → Value → Option Addr → TS) (m : outParam (Ex → SM)) : Prop where
  ok : ∀ (a : Addr) (cls : Value) (dd : Option Addr) (x : Ex) (c : Ct) (σ : L2.St) (H : Hp) (sl : List S) (Dn : Ends), Sim K c sl σ H → σ[i]? = some (some (.ref a)) → XRep K (fz c sl σ H) x cls dd → SOk K W0 c σ H sl (m x sl) Dn → t a cls dd Dn σ H
def cXf (C : Addr) (f : Str) (x : Ex) : EM := fun sl => if x.C = C ∧ x.ns.length = x.ds.length then ofO (lookD x.ns x.ds f) sl else .bad
section
variable {K : PySem.W.Frag} {i : Nat}
instance (priority := low) hex_ex {t : TE} {m : EM} [h : EX K W0 t m] : HEX K i (fun _ _ _ => t) (fun _ => m) := ⟨fun a cls dd x c σ H sl Q s _ _ h1 => h.ok c σ H sl Q s h1⟩
instance hex_xf {C : Addr} {f : Str} : HEX K i (fun a cls d => tXf a cls d C f (tVar i)) (cXf C f) := ⟨fun a cls dd x c σ H sl Q s hi r h => by
  refine ⟨.ref a, hi, rfl, ?_⟩
  unfold cXf at h
  by_cases q : x.C = C ∧ x.ns.length = x.ds.length
  · rw [if_pos q] at h
    obtain ⟨e1, e2⟩ := r
    refine ⟨by rw [e1, q.1], ?_⟩
    cases w : lookD x.ns x.ds f with
    | none => rw [w] at h; exact h.elim
    | some d =>
      rw [w] at h
      rcases e2 with ⟨n1, n2⟩ | ⟨p, vs, rfl, e3, e4, e5⟩
      · rw [n1] at w
        cases w
      · obtain ⟨v, e6, e7⟩ := lookD_rep e5 w
        exact ⟨p, _, v, rfl, (Hm_some.mp e3).2, e6, h v H s e7 Le.rfl⟩
  · rw [if_neg q] at h
    exact h.elim⟩
instance hax_nil : HAX K i (fun _ _ _ => tNil) (fun _ => cNil) := ⟨fun a cls dd x c σ H sl Q s _ _ h => h [] H s .nil Le.rfl⟩
instance hax_cons {ta : Addr → Value → Option Addr → TE} {tr : Addr → Value → Option Addr → TA} {ma : Ex → EM} {mr : Ex → AM} [ha : HEX K i ta ma] [hr : HAX K i tr mr] : HAX K i (fun a cls d => tCons (ta a cls d) (tr a cls d)) (fun x => cCons (ma x) (mr x)) := ⟨fun a cls dd x c σ H sl Q s hi r h => by
  refine ha.ok a cls dd x c σ H sl _ s hi r (h.split.imp fun y H1 ⟨d, s1, _, i1, r1, l1, h1⟩ => ?_)
  refine hr.ok a cls dd x c σ H1 s1 _ i1 hi (r.le l1) (h1.split.imp fun ys H2 ⟨ds, s2, _, i2, r2, l2, h2⟩ => ?_)
  exact h2 _ H2 i2 (.cons (r1.le l2) r2) Le.rfl⟩
instance hex_tup {tr : Addr → Value → Option Addr → TA} {mr : Ex → AM} [ha : HAX K i tr mr] : HEX K i (fun a cls d => tTup (tr a cls d)) (fun x => cTup (mr x)) := ⟨fun a cls dd x c σ H sl Q s hi r h => by
  refine ha.ok a cls dd x c σ H sl _ s hi r (h.split.imp fun xs H1 ⟨ds, s1, _, i1, r1, l1, h1⟩ => ?_)
  by_cases z : ds.length ≤ sizeLine
  · rw [if_pos z] at h1
    refine ⟨by rw [← r1.length]; exact z, fun p hp => ?_⟩
    have e : Same H1 (upd H1 p (.tup xs)) := same_upd hp
    have l2 : Le (fz c s1 σ H1) (fz c s1 σ (upd H1 p (.tup xs))) := fz_same (Le.of_same e)
    exact h1 _ _ (i1.same e) (.tup (Hm_some.mpr ⟨i1.fresh hp, upd_same⟩) (r1.le l2)) l2
  · rw [if_neg z] at h1; exact h1.elim⟩
instance hex_cb {r : List V → Hp → VK → Prop} {f : List D → Option D} {tr : Addr → Value → Option Addr → TA} {mr : Ex → AM} [ha : HAX K i tr mr] [ho : OpL K r f] : HEX K i (fun a cls d => tCB r (tr a cls d)) (fun x => cCB f (mr x)) := ⟨fun a cls dd x c σ H sl Q s hi rx h => by
  refine ha.ok a cls dd x c σ H sl _ s hi rx (h.split.imp fun xs H1 ⟨ds, s1, _, i1, r1, l1, h1⟩ => ?_)
  cases e : f ds with
  | none => rw [e] at h1; exact h1.elim
  | some z => rw [e] at h1; exact ho.ok H1 _ xs ds z Q i1.hid r1 e (h1.op i1)⟩
instance hex_op {r : R2} {f : D → D → Option D} {ta tb : Addr → Value → Option Addr → TE} {ma mb : Ex → EM} [ha : HEX K i ta ma] [hb : HEX K i tb mb] [ho : Op2 K r f] : HEX K i (fun a cls d => tOp r (ta a cls d) (tb a cls d)) (fun x => cOp2 f (ma x) (mb x)) := ⟨fun a cls dd x c σ H sl Q s hi rx h => by
  refine ha.ok a cls dd x c σ H sl _ s hi rx (h.split.imp fun y H1 ⟨d, s1, _, i1, r1, l1, h1⟩ => ?_)
  refine hb.ok a cls dd x c σ H1 s1 _ i1 hi (rx.le l1) (h1.split.imp fun z H2 ⟨e, s2, _, i2, r2, l2, h2⟩ => ?_)
  cases q : f d e with
  | none => rw [q] at h2; exact h2.elim
  | some w => rw [q] at h2; exact ho.ok H2 _ y z d e w Q i2.hid (r1.le l2) r2 q (h2.op i2)⟩
instance hx_ret {t : Addr → Value → Option Addr → TE} {m : Ex → EM} [h : HEX K i t m] : HX K i (fun a cls d => tRet (t a cls d)) (fun x => cRet (m x)) := ⟨fun a cls dd x c σ H sl Dn s hi r q => by
  refine h.ok a cls dd x c σ H sl _ s hi r (q.split.imp fun v H1 ⟨d, s1, _, i1, r1, l1, h1⟩ => ?_)
  exact h1 v σ H1 i1 r1 Le.rfl⟩
end

/-! ### try -/
/-- an exception of one of the classes Cs is caught by 'except C' just if it is C's own -/
class XcOk (K : PySem.W.Frag) (Cs : List Addr) (C : Addr) : Prop where
  ok : ∀ C2 ∈ Cs, PySem.W.exmOne K (.ref C2) (.ref C) = some (decide (C2 = C))
theorem SOk.noW {K : PySem.W.Frag} {W W' : WX} {c : Ct} {σ : L2.St} {H : Hp} {sl : List S} {r : SR} {Dn : Ends} (hn : ∀ x s, r ≠ .exn x s) (h : SOk K W c σ H sl r Dn) : SOk K W' c σ H sl r Dn := by
  cases r with
  | exn x s => exact absurd rfl (hn x s)
  | _ => exact h
def tTryO (K : PySem.W.Frag) (Cs : List Addr) (C : Addr) (ts : Addr → Value → Option Addr → TS) (Wout : WX) (tb : WX → TS) : TS := fun Dn σ H => tb (wOnly K (.ref C) ts Wout Dn) Dn σ H
def tTryA (K : PySem.W.Frag) (Cs : List Addr) (C : Addr) (i : Nat) (ts : Addr → Value → Option Addr → TS) (Wout : WX) (tb : WX → TS) : TS := fun Dn σ H => tb (wAs K (.ref C) i ts Wout Dn) Dn σ H
def cTryO (Cs : List Addr) (C : Addr) (mb mh : SM) : SM := fun sl => match mb sl with
  | .exn x s => if x.C ∈ Cs then (if x.C = C then mh s else .exn x s) else .bad
  | r => r
def fixA (i : Nat) (r : SR) : SR := match r with
  | .nx s => .nx (sS s i .no)
  | .bk s => .bk (sS s i .no)
  | .ct s => .ct (sS s i .no)
  | .rt d s => .rt d s
  | _ => .bad
def cTryA (Cs : List Addr) (C : Addr) (i : Nat) (mb : SM) (mh : Ex → SM) : SM := fun sl => match mb sl with
  | .exn x s => if x.C ∈ Cs ∧ i < s.length then (if x.C = C then fixA i (mh x (sS s i .no)) else .exn x s) else .bad
  | r => r
section
variable {K : PySem.W.Frag} {Cs : List Addr} {C : Addr} {Wout : WX} {tb : WX → TS} {mb : SM}
instance tryo_sx {th : TS} {mh : SM} [hb : ∀ W : WX, SX K W (tb W) mb] [hh : SX K Wout th mh] [hc : XcOk K Cs C] : SX K Wout (tTryO K Cs C (fun _ _ _ => th) Wout tb) (cTryO Cs C mb mh) := ⟨fun c σ H sl Dn s h => by
  refine (hb _).ok c σ H sl Dn s ?_
  unfold cTryO at h
  cases e : mb sl with
  | exn x s' =>
    rw [e] at h
    simp only at h
    intro cls dd σ' H' s1 r1 l1
    by_cases q : x.C ∈ Cs
    · rw [if_pos q] at h
      refine ⟨decide (x.C = C), by rw [r1.1]; exact hc.ok _ q, fun z a na => ?_, fun z => ?_⟩
      · rw [if_pos (of_decide_eq_true z)] at h
        exact hh.ok c σ' H' s' Dn s1 (SOk.le l1 h)
      · rw [if_neg (of_decide_eq_false z)] at h
        exact h cls dd σ' H' s1 r1 l1
    · rw [if_neg q] at h
      exact h.elim
  | _ =>
    rw [e] at h
    exact SOk.noW (fun x s => by intro z; cases z) h⟩
instance trya_sx {i : Nat} {th : Addr → Value → Option Addr → TS} {mh : Ex → SM} [hb : ∀ W : WX, SX K W (tb W) mb] [hh : HX K i th mh] [hc : XcOk K Cs C] : SX K Wout (tTryA K Cs C i th Wout tb) (cTryA Cs C i mb mh) := ⟨fun c σ H sl Dn s h => by
  refine (hb _).ok c σ H sl Dn s ?_
  unfold cTryA at h
  cases e : mb sl with
  | exn x s' =>
    rw [e] at h
    simp only at h
    intro cls dd σ' H' s1 r1 l1
    by_cases q : x.C ∈ Cs ∧ i < s'.length
    · rw [if_pos q] at h
      refine ⟨decide (x.C = C), by rw [r1.1]; exact hc.ok _ q.1, fun z a na => ?_, fun z => ?_⟩
      · rw [if_pos (of_decide_eq_true z)] at h
        obtain ⟨s2, l2⟩ := s1.noX i (some (.ref a))
        have hi : (σ'.set i (some (V.ref a)))[i]? = some (some (.ref a)) := List.getElem?_set_self (by rw [← s1.len]; exact q.2)
        refine hh.ok a cls dd x c _ H' _ _ s2 hi (r1.le l2) ?_
        have lx := l1.trans l2
        cases w : mh x (sS s' i .no) with
        | nx s3 =>
          rw [w] at h
          intro σ3 H3 i3 l3
          obtain ⟨i4, l4⟩ := i3.noX i none
          exact h _ H3 i4 ((lx.trans l3).trans l4)
        | bk s3 =>
          rw [w] at h
          intro σ3 H3 i3 l3
          obtain ⟨i4, l4⟩ := i3.noX i none
          exact h _ H3 i4 ((lx.trans l3).trans l4)
        | ct s3 =>
          rw [w] at h
          intro σ3 H3 i3 l3
          obtain ⟨i4, l4⟩ := i3.noX i none
          exact h _ H3 i4 ((lx.trans l3).trans l4)
        | rt d s3 =>
          rw [w] at h
          exact fun v σ3 H3 i3 r3 l3 => h v σ3 H3 i3 r3 (lx.trans l3)
        | exn x2 s3 =>
          rw [w] at h
          exact h.elim
        | bad => rw [w] at h; exact h
      · rw [if_neg (of_decide_eq_false z)] at h
        exact h cls dd σ' H' s1 r1 l1
    · rw [if_neg q] at h
      exact h.elim
  | _ =>
    rw [e] at h
    exact SOk.noW (fun x s => by intro z; cases z) h⟩
end
end DL
set_option linter.all false
set_option autoImplicit false
set_option maxRecDepth 100000
set_option maxHeartbeats 2000000
/-! DxE: what the head tells of own exceptions. -/
namespace DL
open PySem PySem.Spec L2 PyProof.Rows PySem.W NdefX
abbrev FnI : Type := Option (Str × Str × Arguments × FuncBody × Scope × Addr × List Str × Addr)
structure IniD where
  cls : Str
  qual : Str
  params : Arguments
  body : List Stmt
  scope : Scope
  fs : List Str
def iniA (K : Frag) (x : Str) : Addr := He.ma K (He.ga K x) "__init__"
def iniObs (K : Frag) (x : Str) : FnI := match K.lookup (iniA K x) with
  | some ⟨_, _, .func fd, _⟩ => some (fd.name, fd.qualname, fd.params, fd.body, fd.scope, fd.globals, fd.closure.map (·.1), fd.builtins)
  | _ => none
def IniD.val (d : IniD) : FnI := some ("__init__", d.qual, d.params, .stmts d.body, d.scope, mainGlobals, ["__class__"], builtinsNs)
def oexB (K : Frag) (C : Addr) : Bool := match K.lookup C with
  | some ⟨.type t, dd, .cls cd, sl⟩ => t == "type" && (match cd.mro, sl.toList with
    | .ref C' :: bm, [k0, k1, k2, k3, some (.builtin n), k5] => C' == C && (n == "ValueError.__new__" && (!cd.hasDel && (cd.hasDict && PySem.HandSPX.refsVE bm)))
    | _, _ => false)
  | _ => false
theorem oexB_cls {K : Frag} {C : Addr} (h : oexB K C = true) : ∃ nm q N bs bm sn sub ab col dd k0 k1 k2 k3 k5, K.lookup C = some (excClassObj nm q C N bs bm true sn sub ab col dd k0 k1 k2 k3 k5 "ValueError.__new__") ∧ PySem.HandSPX.refsVE bm = true := by
  unfold oexB at h
  split at h
  · next t dd cd sl ho =>
    obtain ⟨ht, h⟩ := He.ba h
    split at h
    · next C' bm k0 k1 k2 k3 n k5 hm hs =>
      obtain ⟨h1, h⟩ := He.ba h
      obtain ⟨h2, h⟩ := He.ba h
      obtain ⟨h3, h⟩ := He.ba h
      obtain ⟨h4, h5⟩ := He.ba h
      obtain ⟨nm, bs, mro, ns, qn, hd, sn, sb, ab, col, del⟩ := cd
      simp only at hm h3 h4
      obtain rfl := eq_of_beq ht
      obtain rfl := eq_of_beq h1
      obtain rfl := eq_of_beq h2
      subst hm
      rw [Bool.not_eq_true'] at h3
      subst h3
      subst h4
      obtain ⟨sl⟩ := sl
      simp only at hs
      subst hs
      exact ⟨nm, qn, ns, bs, bm, sn, sb, ab, col, dd, k0, k1, k2, k3, k5, ho, h5⟩
    · cases h
  · cases h
def cellB (K : Frag) (a : Addr) (C : Addr) : Bool := match K.lookup a with
  | some ⟨_, _, .cell (some (.ref D)), _⟩ => D == C
  | _ => false
def fileB (K : Frag) (cda : Addr) (file : Str) : Bool := match K.lookup cda with
  | some ⟨_, _, .fields vs, _⟩ => (match (vs[2]? : Option Value) with
    | some (.str f _) => file == f
    | _ => false)
  | _ => false
def iniB (K : Frag) (file : Str) (d : IniD) : Bool := match K.lookup (iniA K d.cls) with
  | some ⟨oc, _, .func fd, _⟩ => (match fd.code, fd.closure with
    | .ref cda, [(_, cc)] => codeIn K (.ref cda) d.qual && (cellB K cc (He.ga K d.cls) && (fileB K cda file && (decide (oc = .type "function") && decide (fd.defaults = .none))))
    | _, _ => false) && (oexB K (He.ga K d.cls) && (decide (findIn K (.ref (He.ga K d.cls)) "__setattr__" = some (some (.builtin "object.__setattr__"))) && (decide (subIn K (.ref (He.ga K d.cls)) (.type "BaseException") = some true) &&
      (decide (typeIn K (.ref (He.ga K d.cls)) = some (.type "type")) && (keepIn K (.ref (He.ga K d.cls)) && (decide (findIn K (.ref (He.ga K d.cls)) "__init__" = some (some (.ref (iniA K d.cls)))) && (decide (mroIn K (He.ga K d.cls) (.ref (He.ga K d.cls)) = some true) &&
      (decide (ks_superIn K (He.ga K d.cls) (He.ga K d.cls) "__init__" = some (some (.builtin "ValueError.__init__"))) && (decide (nsIn K cStatics "thirdparty.any" = some none) && (decide (subIn K (.ref (He.ga K d.cls)) (.type "ValueError") = some true) && (xfB K (He.ga K d.cls) && (d.fs.all fun f => decide (findIn K (.ref (He.ga K d.cls)) f = some none)))))))))))))
  | _ => false
/-- what is known of an exception class and its __init__ -/
structure IniOk (K : Frag) (P : Program) (d : IniD) (cc cda : Addr) (fd : FuncData) : Prop where
  lk : ∃ oc od kV doc pm an ct osl, fd = fnX "__init__" d.qual d.params d.body d.scope [("__class__", cc)] .none kV doc pm an (.ref cda) ct ∧ K.lookup (iniA K d.cls) = some ⟨oc, od, .func fd, osl⟩
  cd : codeIn K (.ref cda) d.qual = true
  G : SupC K (He.ga K d.cls) cc cda
  file : FileOk K P cda
  ini : findIn K (.ref (He.ga K d.cls)) "__init__" = some (some (.ref (iniA K d.cls)))
  ty : typeIn K (.ref (iniA K d.cls)) = some (.type "function")
  xf : XfC K (He.ga K d.cls)
  nof : ∀ f ∈ d.fs, findIn K (.ref (He.ga K d.cls)) f = some none
theorem cls_some {K : Frag} {C : Addr} {o : Obj} {c : ClassData} (h : K.lookup C = some o) (hd : o.data = .cls c) : ∃ cd, clsIn K C = some cd := by
  obtain ⟨oc, od, dt, sl⟩ := o
  cases hd
  unfold clsIn
  rw [h]
  exact ⟨_, rfl⟩
theorem iniB_ok {K : Frag} {P : Program} {d : IniD} (e : iniObs K d.cls = d.val) (h : iniB K P.main.file d = true) : ∃ cc cda fd, IniOk K P d cc cda fd := by
  unfold iniB at h
  unfold iniObs at e
  split at h
  · next oc od fd osl ho =>
    rw [ho] at e
    simp only at e
    obtain ⟨h0, h⟩ := He.ba h
    obtain ⟨h1, h⟩ := He.ba h
    obtain ⟨h2, h⟩ := He.ba h
    obtain ⟨h3, h⟩ := He.ba h
    obtain ⟨h4, h⟩ := He.ba h
    obtain ⟨h5, h⟩ := He.ba h
    obtain ⟨h6, h⟩ := He.ba h
    obtain ⟨h7, h⟩ := He.ba h
    obtain ⟨h8, h⟩ := He.ba h
    obtain ⟨h9, h⟩ := He.ba h
    obtain ⟨h10, h⟩ := He.ba h
    obtain ⟨h11, h12⟩ := He.ba h
    obtain ⟨nm, qn, pr, bd, sc, gl, cl, df, kd, dc, pm, an, cdv, ct, bt⟩ := fd
    unfold IniD.val at e
    simp only [Option.some.injEq, Prod.mk.injEq] at e
    obtain ⟨e1, e2, e3, e4, e5, e6, e7, e8⟩ := e
    subst e1 e2 e3 e4 e5 e6 e8
    have key : ∃ cda n cc, cdv = .ref cda ∧ cl = [(n, cc)] ∧ (codeIn K (.ref cda) d.qual && (cellB K cc (He.ga K d.cls) && (fileB K cda P.main.file && (decide (oc = .type "function") && decide (df = .none))))) = true := by
      cases cdv with
      | ref cda =>
        cases cl with
        | nil => exact absurd h0 Bool.false_ne_true
        | cons q r =>
          cases r with
          | nil => exact ⟨cda, q.1, q.2, rfl, rfl, h0⟩
          | cons _ _ => exact absurd h0 Bool.false_ne_true
      | _ => exact absurd h0 Bool.false_ne_true
    obtain ⟨cda, n, cc, rfl, rfl, h0⟩ := key
    simp only [List.map_cons, List.map_nil, List.cons.injEq, and_true] at e7
    subst e7
    · skip
      obtain ⟨g1, h0⟩ := He.ba h0
      obtain ⟨g2, h0⟩ := He.ba h0
      obtain ⟨g3, h0⟩ := He.ba h0
      obtain ⟨g4, g5⟩ := He.ba h0
      obtain rfl : df = .none := of_decide_eq_true g5
      obtain ⟨nm, q, NN, bs, bm, sn, sub, ab, col, dd, k0, k1, k2, k3, k5, hC, hbm⟩ := oexB_cls h1
      refine ⟨cc, cda, _, ⟨oc, od, _, _, _, _, _, osl, rfl, ho⟩, g1, ⟨⟨⟨nm, q, NN, bs, bm, sn, sub, ab, col, dd, k0, k1, k2, k3, k5, hC, hbm⟩, of_decide_eq_true h2, of_decide_eq_true h3, of_decide_eq_true h4, h5⟩, ?_, ?_, cls_some hC rfl, of_decide_eq_true h7, of_decide_eq_true h8, of_decide_eq_true h9, of_decide_eq_true h10⟩, ?_, of_decide_eq_true h6, ?_, xfB_ok h11, fun f hf => of_decide_eq_true (List.all_eq_true.mp h12 f hf)⟩
      · unfold cellB at g2
        split at g2
        · next c od D sl hl =>
          rw [eq_of_beq g2] at hl
          exact ⟨c, od, sl, hl⟩
        · cases g2
      · unfold fileB at g3
        split at g3
        · next c od vs sl hl =>
          split at g3
          · next f t hv => exact ⟨c, od, vs, sl, f, t, hl, hv⟩
          · cases g3
        · cases g3
      · intro ccl cdd vs ccs file tf hl hv
        unfold fileB at g3
        rw [hl] at g3
        simp only at g3
        rw [hv] at g3
        exact g3
      · show (K.lookup (iniA K d.cls)).map (·.cls) = _
        rw [ho, of_decide_eq_true g4] <;> rfl
  · cases h
/-! ### the hook -/
abbrev AlY : Type := He.AlX × List FnI × Bool
def asY (g : Addr → Option Obj) (n : Nat) : List Addr := He.asD g n ++ [cStatics, sysModules]
def obsY (n : Nat) (fa : List He.Fa) (fn : List He.DefD) (tf : List He.Defn) (ex : Frag → Bool) (file : Str) (ini : List IniD) (g : Addr → Option Obj) : AlY :=
  ((He.obsT fa fn [] (He.frT g (asY g n)), ex (He.frT g (asY g n)) && He.tabsB g tf (He.frT g (asY g n))), ini.map (fun d => iniObs (He.frT g (asY g n)) d.cls), ini.all fun d => iniB (He.frT g (asY g n)) file d)
def valY (fn : List He.DefD) (ini : List IniD) (w : World) : AlY := (He.valX fn [] w, ini.map IniD.val, true)
structure SaysY (fa : List He.Fa) (fn : List He.DefD) (tf : List He.Defn) (ex : Frag → Bool) (file : Str) (ini : List IniD) (w : World) (h : Heap) (K : Frag) : Prop where
  x : He.SaysX fa fn [] tf ex w h K
  obs : ini.map (fun d => iniObs K d.cls) = ini.map IniD.val
  ok : (ini.all fun d => iniB K file d) = true
theorem saysY_of {n : Nat} {fa : List He.Fa} {fn : List He.DefD} {tf : List He.Defn} {ex : Frag → Bool} {file : Str} {ini : List IniD} {w : World} {h : Heap} (e : obsY n fa fn tf ex file ini h.get? = valY fn ini w) : SaysY fa fn tf ex file ini w h (He.frT h.get? (asY h.get? n)) := by
  have e2 : (ex (He.frT h.get? (asY h.get? n)) && He.tabsB h.get? tf (He.frT h.get? (asY h.get? n))) = true := congrArg (fun z : AlY => z.1.2) e
  have e3 := (Bool.and_eq_true_iff.mp e2).2
  have at_ : ∀ p ∈ tf, PySem.W.codeHdIn (He.frT h.get? (asY h.get? n)) (He.cT (He.frT h.get? (asY h.get? n)) p).1 (He.cT (He.frT h.get? (asY h.get? n)) p).2 = true ∧ ∃ o, h.get? (He.cT (He.frT h.get? (asY h.get? n)) p).2 = some o ∧ He.emptyTab o = true := fun p hp => by
    obtain ⟨h3, h4⟩ := Bool.and_eq_true_iff.mp (List.all_eq_true.mp e3 p hp)
    cases q : h.get? (He.cT (He.frT h.get? (asY h.get? n)) p).2 with
    | none => rw [q] at h4; cases h4
    | some o => rw [q] at h4; exact ⟨h3, o, rfl, h4⟩
  exact ⟨⟨congrArg (fun z : AlY => z.1.1) e, (Bool.and_eq_true_iff.mp e2).1, fun p hp => (at_ p hp).1, fun p hp => (at_ p hp).2.elim fun o z => He.frT_none z.1 z.2, fun p hp => (at_ p hp).2.elim fun o z => by rw [z.1, He.emptyTab_eq z.2]⟩,
    congrArg (fun z : AlY => z.2.1) e, congrArg (fun z : AlY => z.2.2) e⟩
def hookY (n : Nat) (fa : List He.Fa) (fn : List He.DefD) (tf : List He.Defn) (ex : Frag → Bool) (file : Str) (ini : List IniD) : PySem.W.Hook where
  α := AlY
  obs := fun s => obsY n fa fn tf ex file ini s.heap.get?
  val := fun w => valY fn ini w
  says := fun w h => ∃ K : Frag, K.In h ∧ SaysY fa fn tf ex file ini w h K
  of := fun _ _ e => ⟨_, He.frT_in, saysY_of e⟩
  keeps := fun _ _ _ ⟨K, hK, c⟩ k => ⟨K, PySem.W.Frag.In.keeps hK k, ⟨⟨c.x.t, c.x.more, c.x.hd, c.x.out, fun p hp => k _ _ (c.x.empty p hp)⟩, c.obs, c.ok⟩⟩
theorem obsY_eq {n : Nat} {fa : List He.Fa} {fn : List He.DefD} {tf : List He.Defn} {ex : Frag → Bool} {file : Str} {ini : List IniD} {g : Addr → Option Obj} {s : Shared} (h : ∀ a, g a = s.heap.get? a) : obsY n fa fn tf ex file ini g = (hookY n fa fn tf ex file ini).obs s := by
  have e : g = s.heap.get? := funext h
  rw [e] <;> rfl
theorem SaysY.ini {fa : List He.Fa} {fn : List He.DefD} {tf : List He.Defn} {ex : Frag → Bool} {P : Program} {ini : List IniD} {w : World} {h : Heap} {K : Frag} (c : SaysY fa fn tf ex P.main.file ini w h K) (k : Nat) {d : IniD} (hd : ini[k]? = some d) : ∃ cc cda fd, IniOk K P d cc cda fd := by
  refine iniB_ok (d := d) ?_ (List.all_eq_true.mp c.ok d (List.mem_of_getElem? hd))
  have e2 : (ini.map fun d => iniObs K d.cls)[k]? = (ini.map IniD.val)[k]? := by rw [c.obs]
  rw [List.getElem?_map, List.getElem?_map, hd] at e2
  exact Option.some.inj e2
end DL
set_option linter.all false
set_option autoImplicit false
set_option maxRecDepth 100000
set_option maxHeartbeats 2000000
/-! DxF: the rules for own exceptions, as the printed walks name them. -/
namespace DL
open PySem PySem.Spec L2 PyProof.Rows PySem.W
/-- an own exception class x stands in the module at C, made with values for the fields fs -/
structure Xn (P : Program) (w : World) (K : Frag) (mg : Str → Option Value) (base : Heap) (k : Nat) (x : Str) (C : Addr) (fs : List Str) (sp : Sp) : Prop where
  T : OexC K C
  mkr : ∃ fI fd, findIn K (.ref C) "__init__" = some (some (.ref fI)) ∧ typeIn K (.ref fI) = some (.type "function") ∧ FnOk P w K mg base C8.CX0 k fI fd ("self" :: fs) sp ∧ Binds K fd ("self" :: fs) []
  at_ : mg x = some (.ref C)
  xf : XfC K C
  nof : ∀ f ∈ fs, findIn K (.ref C) f = some none
section
variable {X : Cx} {k : Nat} {x : Str} {C : Addr} {fs : List Str} {p pos : Pos}
theorem pmk_x {e : Expr} {es : List Expr} {ta : TA} (d : Xn X.prog X.w X.K X.mg X.base k x C fs (spI C fs)) (hr : Room (k + 1) X.A) (ha : PA X (e :: es) ta) (hg : Gl X x := by rfl)
    (hdb : (x == ("__debug__" : Str)) = false := by decide) (he : starEach (e :: es) X.env = (false, eval e X.env) :: starEach es X.env := by rfl) (hpl : (backTo pos (starEach es X.env)).any (·.1) = false := by rfl) :
    PMk X (.Call (.Name x p) (e :: es) [] pos) (tMkO C (spI C fs) [] ta) := by
  obtain ⟨fI, fd, h1, h2, h3, h4⟩ := d.mkr
  exact pmk_oex d.T h1 h2 h3 hr h4 .nil C8.pass0 hg d.at_ ha hdb he hpl
theorem pmk_x0 (d : Xn X.prog X.w X.K X.mg X.base k x C [] (spI0 C)) (hr : Room (k + 1) X.A) (hg : Gl X x := by rfl) (hdb : (x == ("__debug__" : Str)) = false := by decide) : PMk X (.Call (.Name x p) [] [] pos) (tMk0 C) := by
  obtain ⟨fI, fd, h1, h2, h3, h4⟩ := d.mkr
  exact pmk_oex0 d.T h1 h2 h3 hr h4 C8.pass0 hg d.at_ hdb
theorem kps_try_only (K : Frag) (Cs : List Addr) (C : Addr) {x : Str} {body suite : List Stmt} {b₀ : Stmt} {np pos pos' : Pos} {tb : WX → TS} {ts : Addr → Value → Option Addr → TS} {Wout : WX} (hm : X.mg x = some (.ref C)) (tk : Takes X Wout)
    (hb : ∀ (W : WX) (pn : List (Addr × Obj)) (xe : Value → Shared → Prop), Takes (X.tr pn xe) W → PassesOwn (model X.prog X.w) X.A X.env xe → PSs (X.tr pn xe) body (tb W))
    (hsu : ∀ (a : Addr) (oe : Obj) (cls : Value) (d : Option Addr) (pn : List (Addr × Obj)), Zc cls d oe → (∃ vs, oe.data = .fields vs) → PSs (X.suite a ((a, oe) :: pn)) (b₀ :: suite) (ts a cls d))
    (hg : Gl X x := by rfl) (hdb : (x == ("__debug__" : Str)) = false := by decide) (hs : X.stack = X.env :: X.outer := by rfl) (hf : X.env.frame = some X.env.locals := by rfl) (hK : X.K = K := by rfl) :
    PS X (.Try body [.ExceptHandler (some (.Name x np)) none (b₀ :: suite) pos'] [] [] pos) (tTryO K Cs C ts Wout tb) := by
  subst hK
  exact ps_try_only hs hf ⟨hg, hdb, .inl hm⟩ tk hb hsu
theorem kps_try_as (K : Frag) (Cs : List Addr) (C : Addr) {i : Nat} {x n : Str} {body suite : List Stmt} {b₀ : Stmt} {np pos pos' : Pos} {tb : WX → TS} {ts : Addr → Value → Option Addr → TS} {Wout : WX} (hN : X.N.Nodup) (hm : X.mg x = some (.ref C)) (tk : Takes X Wout)
    (hb : ∀ (W : WX) (pn : List (Addr × Obj)) (xe : Value → Shared → Prop), Takes (X.tr pn xe) W → PassesOwn (model X.prog X.w) X.A X.env xe → PSs (X.tr pn xe) body (tb W))
    (hsu : ∀ (a : Addr) (oe : Obj) (cls : Value) (d : Option Addr) (pn : List (Addr × Obj)), Zc cls d oe → (∃ vs, oe.data = .fields vs) → PSs (X.suite a ((a, oe) :: pn)) (b₀ :: suite) (ts a cls d))
    (hi : X.N[i]? = some n := by rfl) (hln : X.env.kindOf n = some .local := by rfl)
    (hg : Gl X x := by rfl) (hdb : (x == ("__debug__" : Str)) = false := by decide) (hs : X.stack = X.env :: X.outer := by rfl) (hf : X.env.frame = some X.env.locals := by rfl) (hK : X.K = K := by rfl) :
    PS X (.Try body [.ExceptHandler (some (.Name x np)) (some n) (b₀ :: suite) pos'] [] [] pos) (tTryA K Cs C i ts Wout tb) := by
  subst hK
  exact ps_try_as hs hf hN hi hln ⟨hg, hdb, .inl hm⟩ tk hb hsu
theorem kpe_xf {a : Addr} {oe : Obj} {cls : Value} {d : Option Addr} {pn : List (Addr × Obj)} {e : Expr} {te : TE} {n : Str} {P : Program} {w : World} {mg : Str → Option Value} {base : Heap} {sp : Sp} (D : Xn P w X.K mg base k x C fs sp) (hn : n ∈ fs)
    (hz : Zc cls d oe) (hf : ∃ vs, oe.data = .fields vs) (he : PE (X.suite a ((a, oe) :: pn)) e te) (hb : attributeBase e n X.env (eval e X.env) = eval e X.env := by rfl) :
    PE (X.suite a ((a, oe) :: pn)) (.Attribute e n pos) (tXf a cls d C n te) := pe_xf D.xf (D.nof n hn) hz hf he hb
end
theorem xm_ne {K : Frag} {a b : Addr} (h1 : exmOne K (.ref b) (.ref b) = some true) (h2 : exmOne K (.ref a) (.ref b) = some false) : exmOne K (.ref a) (.ref b) = some (decide (a = b)) := by
  have : ¬ a = b := fun e => by
    rw [e, h1] at h2
    cases h2
  rw [h2, decide_eq_false this]
/-! ### from the head -/
theorem Xn.of0 {P : Program} {w : World} {K : Frag} {mg : Str → Option Value} {base : Heap} {d : IniD} {cc cda : Addr} {fd : FuncData} {p0 p1 p2 p3 p4 : Pos} {ar : Arg} (I : IniOk K P d cc cda fd) (hm : mg d.cls = some (.ref (He.ga K d.cls))) (hms : mg "super" = none)
    (hbd : d.body = [.Expr (.Call (.Attribute (.Call (.Name "super" p0) [] [] p1) "__init__" p2) [] [] p3) p4]) (hf : d.fs = [])
    (S : NdefX.NScope ["self", "__class__"] ["self"] ["__class__"] d.scope) (hks : d.scope.names.lookup ("super" : Str) = some .globalImplicit) (htop : (P.main.scope.names.lookup ("super" : Str)).isSome = false) (har : (d.params.posonlyargs ++ d.params.args).head? = some ar) (har0 : ar.arg = "self")
    (hpl2 : ∀ env : Env, ∃ pl : Sem Bool, eval (.Call (.Attribute (.Call (.Name "super" p0) [] [] p1) "__init__" p2) [] [] p3) env = (do
      let ov ← attributeBase (.Call (.Name "super" p0) [] [] p1) "__init__" env (eval (.Call (.Name "super" p0) [] [] p1) env)
      standAt p2.atName
      let (f, first) ← holding [ov] (getMethod ov "__init__" pl)
      callWith p3 f first (backTo p3 (starEach [] env)) []))
    (hbind : ∀ (kV doc pm : Value) (an : Option Addr) (cl : List (Str × Addr)) (cdv ct : Value) (us : List Value), us.length = 1 → bindArgs (fnX "__init__" d.qual d.params d.body d.scope cl .none kV doc pm an cdv ct) ⟨us, []⟩ = pure ((["self"] : List Str).zip us)) :
    Xn P w K mg base 1 d.cls (He.ga K d.cls) [] (spI0 (He.ga K d.cls)) := by
  obtain ⟨oc, od, kV, doc, pm, an, ct, osl, rfl, lk⟩ := I.lk
  refine ⟨I.G.T, ⟨iniA K d.cls, _, I.ini, I.ty, ?_, .all fun us hl => hbind kV doc pm an [("__class__", cc)] (.ref cda) ct us hl⟩, hm, I.xf, fun f hf => by cases hf⟩
  rw [hbd] at lk ⊢
  exact init0 (k := 0) lk I.cd I.G I.file hms S hks htop har har0 hpl2
theorem Xn.of1 {P : Program} {w : World} {K : Frag} {mg : Str → Option Value} {base : Heap} {d : IniD} {cc cda : Addr} {fd : FuncData} {p0 p1 p2 p3 p4 q0 q1 q2 q3 q4 : Pos} {ar : Arg} {a1 : Str} (I : IniOk K P d cc cda fd) (hm : mg d.cls = some (.ref (He.ga K d.cls))) (hms : mg "super" = none)
    (hbd : d.body = [.Expr (.Call (.Attribute (.Call (.Name "super" p0) [] [] p1) "__init__" p2) [.Name a1 q0] [] p3) p4, .Assign [.Attribute (.Name "self" q1) a1 q2] (.Name a1 q3) q4]) (hf : d.fs = [a1])
    (S : NdefX.NScope ["self", a1, "__class__"] ["self", a1] ["__class__"] d.scope) (hks : d.scope.names.lookup ("super" : Str) = some .globalImplicit) (htop : (P.main.scope.names.lookup ("super" : Str)).isSome = false) (har : (d.params.posonlyargs ++ d.params.args).head? = some ar) (har0 : ar.arg = "self")
    (hd1 : (a1 == ("__debug__" : Str)) = false) (hc1 : (a1 == ("__classdict__" : Str)) = false) (hsw : ∀ env : Env, swapsWith (.Name a1 q3) (some (.Attribute (.Name "self" q1) a1 q2)) q4.line env = pure false)
    (hpl2 : ∀ env : Env, ∃ pl : Sem Bool, eval (.Call (.Attribute (.Call (.Name "super" p0) [] [] p1) "__init__" p2) [.Name a1 q0] [] p3) env = (do
      let ov ← attributeBase (.Call (.Name "super" p0) [] [] p1) "__init__" env (eval (.Call (.Name "super" p0) [] [] p1) env)
      standAt p2.atName
      let (f, first) ← holding [ov] (getMethod ov "__init__" pl)
      callWith p3 f first (backTo p3 (starEach [.Name a1 q0] env)) []))
    (hbind : ∀ (kV doc pm : Value) (an : Option Addr) (cl : List (Str × Addr)) (cdv ct : Value) (us : List Value), us.length = 2 → bindArgs (fnX "__init__" d.qual d.params d.body d.scope cl .none kV doc pm an cdv ct) ⟨us, []⟩ = pure ((["self", a1] : List Str).zip us)) :
    Xn P w K mg base 1 d.cls (He.ga K d.cls) [a1] (spI (He.ga K d.cls) [a1]) := by
  obtain ⟨oc, od, kV, doc, pm, an, ct, osl, rfl, lk⟩ := I.lk
  refine ⟨I.G.T, ⟨iniA K d.cls, _, I.ini, I.ty, ?_, .all fun us hl => hbind kV doc pm an [("__class__", cc)] (.ref cda) ct us hl⟩, hm, I.xf, fun f hf' => I.nof f (by rw [hf]; exact hf')⟩
  have n1 := I.nof a1 (by rw [hf]; exact List.mem_cons_self)
  rw [hbd] at lk ⊢
  exact init1 (k := 0) lk I.cd I.G I.file hms S hks htop har har0 n1 hd1 hc1 hsw hpl2
theorem Xn.of2 {P : Program} {w : World} {K : Frag} {mg : Str → Option Value} {base : Heap} {d : IniD} {cc cda : Addr} {fd : FuncData} {p0 p1 p2 p3 p4 q0 q1 q2 q3 q4 q5 q6 q7 q8 q9 : Pos} {ar : Arg} {a1 a2 : Str} (I : IniOk K P d cc cda fd) (hm : mg d.cls = some (.ref (He.ga K d.cls))) (hms : mg "super" = none)
    (hbd : d.body = [.Expr (.Call (.Attribute (.Call (.Name "super" p0) [] [] p1) "__init__" p2) [.Name a1 q0, .Name a2 q5] [] p3) p4, .Assign [.Attribute (.Name "self" q1) a1 q2] (.Name a1 q3) q4, .Assign [.Attribute (.Name "self" q6) a2 q7] (.Name a2 q8) q9]) (hf : d.fs = [a1, a2])
    (S : NdefX.NScope ["self", a1, a2, "__class__"] ["self", a1, a2] ["__class__"] d.scope) (hks : d.scope.names.lookup ("super" : Str) = some .globalImplicit) (htop : (P.main.scope.names.lookup ("super" : Str)).isSome = false) (har : (d.params.posonlyargs ++ d.params.args).head? = some ar) (har0 : ar.arg = "self")
    (hd1 : (a1 == ("__debug__" : Str)) = false) (hc1 : (a1 == ("__classdict__" : Str)) = false) (hd2 : (a2 == ("__debug__" : Str)) = false) (hc2 : (a2 == ("__classdict__" : Str)) = false)
    (hsw : ∀ env : Env, swapsWith (.Name a1 q3) (some (.Attribute (.Name "self" q1) a1 q2)) q4.line env = pure false) (hsw2 : ∀ env : Env, swapsWith (.Name a2 q8) (some (.Attribute (.Name "self" q6) a2 q7)) q9.line env = pure false)
    (hpl2 : ∀ env : Env, ∃ pl : Sem Bool, eval (.Call (.Attribute (.Call (.Name "super" p0) [] [] p1) "__init__" p2) [.Name a1 q0, .Name a2 q5] [] p3) env = (do
      let ov ← attributeBase (.Call (.Name "super" p0) [] [] p1) "__init__" env (eval (.Call (.Name "super" p0) [] [] p1) env)
      standAt p2.atName
      let (f, first) ← holding [ov] (getMethod ov "__init__" pl)
      callWith p3 f first (backTo p3 (starEach [.Name a1 q0, .Name a2 q5] env)) []))
    (hbind : ∀ (kV doc pm : Value) (an : Option Addr) (cl : List (Str × Addr)) (cdv ct : Value) (us : List Value), us.length = 3 → bindArgs (fnX "__init__" d.qual d.params d.body d.scope cl .none kV doc pm an cdv ct) ⟨us, []⟩ = pure ((["self", a1, a2] : List Str).zip us)) :
    Xn P w K mg base 1 d.cls (He.ga K d.cls) [a1, a2] (spI (He.ga K d.cls) [a1, a2]) := by
  obtain ⟨oc, od, kV, doc, pm, an, ct, osl, rfl, lk⟩ := I.lk
  refine ⟨I.G.T, ⟨iniA K d.cls, _, I.ini, I.ty, ?_, .all fun us hl => hbind kV doc pm an [("__class__", cc)] (.ref cda) ct us hl⟩, hm, I.xf, fun f hf' => I.nof f (by rw [hf]; exact hf')⟩
  have n1 := I.nof a1 (by rw [hf]; exact List.mem_cons_self)
  have n2 := I.nof a2 (by rw [hf]; exact List.mem_cons_of_mem _ List.mem_cons_self)
  rw [hbd] at lk ⊢
  exact init2 (k := 0) lk I.cd I.G I.file hms S hks htop har har0 n1 n2 hd1 hc1 hd2 hc2 hsw hsw2 hpl2
end DL
set_option linter.all false
set_option autoImplicit false
set_option maxRecDepth 100000
set_option maxHeartbeats 2000000
/-! DxG: three names stored at once; evaluation lemmas for what is new. -/
namespace DL
open PySem PySem.Spec L2
def cPar3 (i j l : Nat) (m : AM) : SM := fun sl => bSR (m sl) fun ds s => match ds with
  | [a, b, d] => if i < s.length ∧ j < s.length ∧ l < s.length then .nx (sS (sS (sS s i (.v a)) j (.v b)) l (.v d)) else .bad
  | _ => .bad
theorem sS_len (sl : List S) (i : Nat) (x : S) : (sS sl i x).length = sl.length := by rw [sS_set, List.length_set]
instance par3_sx {K : PySem.W.Frag} {W : WX} {ta : TA} {ma : AM} {i j l : Nat} [ha : AX K W ta ma] : SX K W (tPar3 i j l ta) (cPar3 i j l ma) := ⟨fun c σ H sl Dn s h => by
  refine ha.ok c σ H sl _ s (h.split.imp fun xs H1 ⟨ds, s1, _, i1, r1, l1, h1⟩ => ?_)
  cases r1 with
  | nil => exact h1.elim
  | cons ra rr =>
    cases rr with
    | nil => exact h1.elim
    | cons rb rr =>
      cases rr with
      | nil => exact h1.elim
      | cons rd rr =>
        cases rr with
        | cons _ _ => exact h1.elim
        | nil =>
          simp only at h1
          by_cases q : i < s1.length ∧ j < s1.length ∧ l < s1.length
          · rw [if_pos q] at h1
            obtain ⟨s2, l2⟩ := i1.setV ra q.1
            obtain ⟨s3, l3⟩ := s2.setV (rb.le l2) (by rw [sS_len]; exact q.2.1)
            obtain ⟨s4, l4⟩ := s3.setV ((rd.le l2).le l3) (by rw [sS_len, sS_len]; exact q.2.2)
            exact ⟨_, _, _, rfl, h1 _ H1 s4 ((l2.trans l3).trans l4)⟩
          · rw [if_neg q] at h1
            exact h1.elim⟩
section
variable (sl s : List S) (a b : SM) (m : EM) (mr : AM) (d : D) (i j : Nat)
def par3K (i j l : Nat) (ds : List D) (s : List S) : SR := match ds with
  | [a, b, d] => if i < s.length ∧ j < s.length ∧ l < s.length then .nx (sS (sS (sS s i (.v a)) j (.v b)) l (.v d)) else .bad
  | _ => .bad
theorem a_par3 (l : Nat) : cPar3 i j l mr sl = bSR (mr sl) (par3K i j l) := rfl
theorem par3K_ok (l : Nat) (x y z : D) : par3K i j l [x, y, z] s = ifK (hasS s i && hasS s j && hasS s l) (.nx (sS (sS (sS s i (.v x)) j (.v y)) l (.v z))) .bad := by
  unfold par3K ifK
  simp only [Bool.and_eq_true, hasS_iff, and_assoc]
def lenX (n : Nat) (F : List D → Option Ro) (ds : List D) : Option Ro := if ds.length = n then F ds else none
theorem lenX_1 (F : List D → Option Ro) (x : D) : lenX 1 F [x] = F [x] := rfl
theorem lenX_2 (F : List D → Option Ro) (x y : D) : lenX 2 F [x, y] = F [x, y] := rfl
theorem lenX_3 (F : List D → Option Ro) (x y z : D) : lenX 3 F [x, y, z] = F [x, y, z] := rfl
def kCallX (n : Nat) (F : List D → Option Ro) : List D → List S → ER D := fun ds s => roR (lenX n F ds) s
theorem a_callX (n : Nat) (F : List D → Option Ro) : cCallX n F mr sl = ER.bind (mr sl) (kCallX n F) := rfl
theorem a_kCallX (n : Nat) (F : List D → Option Ro) (ds : List D) : kCallX n F ds s = roR (lenX n F ds) s := rfl
theorem roR_ok : roR (some (.ok d)) s = .ok d s := rfl
theorem roR_exn (x : Ex) : roR (some (.exn x)) s = .exn x s := rfl
def kRaise (C : Addr) (fs : List Str) : List D → List S → SR := fun ds s => if ds.length = fs.length ∧ fs.length ≤ 1000 then .exn ⟨C, fs.reverse, ds.reverse⟩ s else .bad
theorem a_raise (C : Addr) (fs : List Str) : cRaise C fs mr sl = bSR (mr sl) (kRaise C fs) := rfl
theorem kRaise_1 (C : Addr) (f : Str) (x : D) : kRaise C [f] [x] s = .exn ⟨C, [f], [x]⟩ s := rfl
theorem kRaise_2 (C : Addr) (f g : Str) (x y : D) : kRaise C [f, g] [x, y] s = .exn ⟨C, [g, f], [y, x]⟩ s := rfl
theorem a_raise0 (C : Addr) : cRaise0 C sl = .exn ⟨C, [], []⟩ sl := rfl
def tryK (Cs : List Addr) (C : Addr) (mh : SM) (r : SR) : SR := match r with
  | .exn x s => if x.C ∈ Cs then (if x.C = C then mh s else .exn x s) else .bad
  | r => r
theorem a_tryo (Cs : List Addr) (C : Addr) : cTryO Cs C a b sl = tryK Cs C b (a sl) := rfl
theorem tryK_nx (Cs : List Addr) (C : Addr) : tryK Cs C b (.nx s) = .nx s := rfl
theorem tryK_rt (Cs : List Addr) (C : Addr) : tryK Cs C b (.rt d s) = .rt d s := rfl
theorem tryK_hit (Cs : List Addr) (C : Addr) (ns : List Str) (ds : List D) : tryK (C :: Cs) C b (.exn ⟨C, ns, ds⟩ s) = b s := by
  unfold tryK
  simp
def tryaK (Cs : List Addr) (C : Addr) (i : Nat) (mh : Ex → SM) (r : SR) : SR := match r with
  | .exn x s => if x.C ∈ Cs ∧ i < s.length then (if x.C = C then fixA i (mh x (sS s i .no)) else .exn x s) else .bad
  | r => r
theorem a_trya (Cs : List Addr) (C : Addr) (mh : Ex → SM) : cTryA Cs C i a mh sl = tryaK Cs C i mh (a sl) := rfl
theorem tryaK_nx (Cs : List Addr) (C : Addr) (mh : Ex → SM) : tryaK Cs C i mh (.nx s) = .nx s := rfl
theorem tryaK_rt (Cs : List Addr) (C : Addr) (mh : Ex → SM) : tryaK Cs C i mh (.rt d s) = .rt d s := rfl
theorem tryaK_hit (Cs : List Addr) (C : Addr) (mh : Ex → SM) (ns : List Str) (ds : List D) : tryaK (C :: Cs) C i mh (.exn ⟨C, ns, ds⟩ s) = ifK (hasS s i) (fixA i (mh ⟨C, ns, ds⟩ (sS s i .no))) .bad := by
  unfold tryaK ifK
  simp [hasS_iff]
theorem fixA_rt : fixA i (.rt d s) = .rt d s := rfl
theorem fixA_nx : fixA i (.nx s) = .nx (sS s i .no) := rfl
theorem a_xf1 (C : Addr) (f : Str) (x : D) : cXf C f ⟨C, [f], [x]⟩ sl = .ok x sl := by
  unfold cXf lookD
  simp [ofO]
def pK4 (r : SR) : Option Ro := match r with
  | .rt d _ => some (.ok d)
  | .nx _ => some (.ok .non)
  | .exn x _ => some (.exn x)
  | _ => none
theorem a_runX (N : Nat) (f : SM) (ds : List D) : runX N f ds = pK4 (f (iniP N ds)) := rfl
theorem pK4_rt : pK4 (.rt d s) = some (.ok d) := rfl
theorem pK4_nx : pK4 (.nx s) = some (.ok .non) := rfl
theorem pK4_exn (x : Ex) : pK4 (.exn x s) = some (.exn x) := rfl
theorem repr_bl (k : Bool) : reprF [.bl k] = some (.str (if k then "True" else "False")) := rfl
theorem repr_non : reprF [.non] = some (.str "None") := rfl
end
def MSx := And.intro @a_par3 (And.intro @a_callX (And.intro @a_kCallX (And.intro @a_raise (And.intro @a_raise0 (And.intro @a_tryo (And.intro @a_trya (And.intro @a_xf1 @a_runX)))))))
def MSy := And.intro @par3K_ok (And.intro @lenX_1 (And.intro @lenX_2 (And.intro @lenX_3 (And.intro @roR_ok (And.intro @roR_exn (And.intro @kRaise_1 (And.intro @kRaise_2 (And.intro @tryK_nx (And.intro @tryK_rt (And.intro @tryK_hit (And.intro @tryaK_nx (And.intro @tryaK_rt (And.intro @tryaK_hit (And.intro @fixA_rt (And.intro @fixA_nx (And.intro @pK4_rt (And.intro @pK4_nx (And.intro @pK4_exn (And.intro @repr_bl @repr_non)))))))))))))))))))
/-- a comprehension within a comprehension -/
theorem look_relabel {env : Env} {n : Str} : ∀ l : List (Str × NameKind), l.lookup n = some .cell ∨ l.lookup n = some .free →
    (l.map fun x => match x with
      | (n, k) => if (k == NameKind.free && env.scope.kind == ScopeKind.function && env.kindOf n == some NameKind.cell) = true then (n, NameKind.cell) else (n, k)).lookup n = some .cell ∨
    (l.map fun x => match x with
      | (n, k) => if (k == NameKind.free && env.scope.kind == ScopeKind.function && env.kindOf n == some NameKind.cell) = true then (n, NameKind.cell) else (n, k)).lookup n = some .free
  | [], h => by rcases h with h | h <;> cases h
  | (m, k) :: r, h => by
    rw [List.lookup_cons] at h
    rw [List.map_cons]
    by_cases q : (n == m) = true
    · rw [q] at h
      by_cases c : (k == NameKind.free && env.scope.kind == ScopeKind.function && env.kindOf m == some NameKind.cell) = true
      · simp only [if_pos c]
        rw [List.lookup_cons, q]
        exact .inl rfl
      · simp only [if_neg c]
        rw [List.lookup_cons, q]
        exact h
    · have q := eq_false_of_ne_true q
      rw [q] at h
      have i := look_relabel (env := env) r h
      by_cases c : (k == NameKind.free && env.scope.kind == ScopeKind.function && env.kindOf m == some NameKind.cell) = true
      · simp only [if_pos c]
        rw [List.lookup_cons, q]
        exact i
      · simp only [if_neg c]
        rw [List.lookup_cons, q]
        exact i
theorem blkOk_in {X : Cx} {scope0 : PySem.Scope} {s : Shared} {H : Hp} {C : Addr} {cl : List (Str × Addr)} {fp : List Addr} {N : List Str} {scope : PySem.Scope} {own : List (Str × Nat)} (hN : X.N = N) (h : L2.blkC N scope0 scope own = true) :
    L2.BlkOk (inB X scope0 s H C cl fp).N (inB X scope0 s H C cl fp).env.scope scope own := by
  subst hN
  have b := L2.blkOk_by h
  exact ⟨b.kind, b.uniq, b.ix, fun y hy e => look_relabel _ (b.free y hy e), b.own⟩
end DL
set_option linter.all false
set_option autoImplicit false
set_option maxRecDepth 100000
set_option maxHeartbeats 2000000
/-! DxL: a lambda handed to a def that calls it within a try. -/
namespace DL
open PySem PySem.Spec L2 PyProof.Rows PySem.W
/-- what is known where the lambda has told something: it can be made an answer that F gives -/
def BV (K : Frag) (F : Ro → Option D) (Q : VK) : VK := fun v H1 => ∃ (U : Addr → Prop) (d z : D), UOk K H1 U ∧ Rep K (Hm H1 U) d v ∧ F (.ok d) = some z ∧ ∀ u H2, LeT K H1 H2 → Rep K (Hm H2 U) z u → Q u H2
/-- .. where it has raised -/
def BX (K : Frag) (F : Ro → Option D) (Q : VK) : XK := fun cls dd H1 => ∃ (U : Addr → Prop) (x : Ex) (z : D), UOk K H1 U ∧ XRep K (Hm H1 U) x cls dd ∧ F (.exn x) = some z ∧ ∀ u H2, LeT K H1 H2 → Rep K (Hm H2 U) z u → Q u H2
def TTf (K : Frag) (F : Ro → Option D) : (XK → Hp → VK → Prop) → Hp → VK → Prop := fun tl H Q => ∀ (E1 : XK) (Q1 : VK), (∀ cls dd H1, BX K F Q cls dd H1 → E1 cls dd H1) → (∀ v H1, BV K F Q v H1 → Q1 v H1) → tl E1 H Q1
abbrev WE' (E : XK) : WX := fun cls d _ H => E cls d H
def cLam (F : Ro → Option D) (m : EM) : EM := fun sl => match m sl with
  | .ok d s => ofO (F (.ok d)) s
  | .exn x s => ofO (F (.exn x)) s
  | .bad => .bad
instance lam_ex {K : Frag} {W : WX} {F : Ro → Option D} {t : XK → TE} {m : EM} [ht : ∀ E : XK, EX K (WE' E) (t E) m] : EX K W (LamX.tLam (LT K) (TTf K F) t) (cLam F m) := ⟨fun c σ H sl Q s h => by
  refine ⟨s.tab, fun H1 eN T1 E1 Q1 hE hQ => ?_⟩
  have le : Le H H1 := fun b o e n => eN b o e n
  have s1 : Sim K c sl σ H1 := s.le le T1
  refine (ht E1).ok c σ H1 sl Q1 s1 ?_
  unfold cLam at h
  cases e : m sl with
  | bad => rw [e] at h; exact h.elim
  | ok d s' =>
    rw [e] at h
    simp only at h
    intro v H2 i2 r2 l2
    cases q : F (.ok d) with
    | none => rw [q] at h; exact h.elim
    | some z =>
      rw [q] at h
      exact hQ v H2 ⟨Hid c s' σ, d, z, i2.uok, r2, q, fun u H3 l3 r3 => h u H3 (i2.le l3.le l3.tab) r3 (((fz_same le).trans l2).trans (fz_same l3.le))⟩
  | exn x s' =>
    rw [e] at h
    simp only at h
    intro cls dd H2 i2 r2 l2
    cases q : F (.exn x) with
    | none => rw [q] at h; exact h.elim
    | some z =>
      rw [q] at h
      exact hE cls dd H2 ⟨Hid c s' σ, x, z, i2.uok, r2, q, fun u H3 l3 r3 => h u H3 (i2.le l3.le l3.tab) r3 (((fz_same le).trans l2).trans (fz_same l3.le))⟩⟩
theorem Takes.atLen {X : Cx} {W : WX} {n : Nat} (t : Takes X W) (hn : X.N.length = n) : Takes X (fun cls d σ H => σ.length = n → W cls d σ H) := fun u s' ⟨a, B, sI, pins, σ, H, cls, d, e, I, nb, up, sky, na, os, ag, w⟩ =>
  t u s' ⟨a, B, sI, pins, σ, H, cls, d, e, I, nb, up, sky, na, os, ag, w (by rw [← hn]; exact I.len)⟩
/-- slots of which nothing is known -/
theorem sim_no {K : Frag} {H : Hp} {U : Addr → Prop} {n : Nat} {σ : L2.St} (uo : UOk K H U) (hl : σ.length = n) : Sim K ⟨H, none, U, none⟩ (List.replicate n .no) σ H ∧ Le (Hm H U) (fz ⟨H, none, U, none⟩ (List.replicate n .no) σ H) := by
  have no : ∀ (i : Nat) (x : S), (List.replicate n S.no)[i]? = some x → x = .no := fun i x e => (List.mem_replicate.mp (List.mem_of_getElem? e)).2
  exact ⟨⟨by rw [List.length_replicate]; exact hl.symm, fun i d e => (nomatch no i _ e), fun i m e => (nomatch no i _ e), fun i j m m' a e => (nomatch no i _ e), fun a m p => (nomatch p), fun b o e _ _ _ => e, fun b h => ⟨fun p => (nomatch p), uo.at_ b h⟩, fun a p => (nomatch p), uo.tab, NSt.none fun j n e => (nomatch no j _ e)⟩,
    Hm_sub fun b h => h.elim id fun ⟨i, m, e, _⟩ => (nomatch no i _ e)⟩
def fdK (r : SR) : Option D := match r with
  | .rt d _ => some d
  | _ => none
theorem fdK_some {r : SR} {z : D} (h : fdK r = some z) : ∃ s, r = .rt z s := by
  cases r with
  | rt d s => cases h; exact ⟨s, rfl⟩
  | _ => cases h
/-- a handler's end, from nothing but the exception -/
theorem hx_end {K : Frag} {n : Nat} {i : Nat} {th : Addr → Value → Option Addr → TS} {mh : Ex → SM} [hh : HX K i th mh] {F : Ro → Option D} {Q : VK} {cls : Value} {dd : Option Addr} {H1 : Hp} {U : Addr → Prop} {x : Ex} {z : D} {a : Addr} {σ : L2.St} {Dn : Ends}
    (uo : UOk K H1 U) (xr : XRep K (Hm H1 U) x cls dd) (hz : fdK (mh x (List.replicate n .no)) = some z) (k : ∀ u H2, LeT K H1 H2 → Rep K (Hm H2 U) z u → Q u H2) (hl : σ.length = n) (hi : σ[i]? = some (some (.ref a))) (hD : Dn.rt = Q) : th a cls dd Dn σ H1 := by
  obtain ⟨s0, l0⟩ := sim_no uo hl
  obtain ⟨s', e⟩ := fdK_some hz
  refine hh.ok a cls dd x _ σ H1 _ Dn s0 hi (xr.le l0) ?_
  rw [e]
  intro v σ' H2 i2 r2 _
  rw [hD]
  exact k v H2 ⟨fun b o e n => i2.frm b o e n (fun q => by cases q) Ct.xs_none, i2.tab⟩ (r2.le (Hm_sub fun b h => .inl h))
section
variable {X : Cx}
def foundA (C : Addr) (mh : Ex → SM) : Ro → Option D
  | .ok d => some d
  | .exn x => if x.C = C then fdK (mh x [.no, .no, .no]) else none
/-- try: y = a() / except C as n: .. return / return y -/
theorem found_as {Ng : List Str} {x a y e n q : Str} {sg : Scope} {g C : Addr} {cdg : Value} {b₀ : Stmt} {suite : List Stmt} {p1 p2 p3 p4 p5 p6 p7 p8 p9 : Pos} {ts : Addr → Value → Option Addr → TS} {mh : Ex → SM} (hh : HX X.K 2 ts mh)
    (hN : Ng.Nodup) (hl : Ng.length = 3) (h1 : Ng[1]? = some y) (h2 : Ng[2]? = some n) (h0 : ∀ f : Addr, L2.start Ng [V.ref f] = [some (.ref f), none, none]) (hm : X.mg e = some (.ref C)) (hx : exmOne X.K (.ref C) (.ref C) = some true)
    (hge : sg.names.lookup e = some .globalImplicit) (hde : (e == ("__debug__" : Str)) = false) (hly : sg.names.lookup y = some .local) (hdy : (y == ("__debug__" : Str)) = false) (hcy : (y == ("__classdict__" : Str)) = false)
    (hln : ∀ (s : Shared) (H : Hp), (cxOf C8.CX0 X.prog X.w X.K X.mg X.base Ng x sg g cdg X.A X.stack s H C8.E0).nox.env.kindOf n = some .local)
    (hsu : ∀ (s : Shared) (H : Hp) (a : Addr) (oe : Obj) (cls : Value) (d : Option Addr) (pn : List (Addr × Obj)), Zc cls d oe → (∃ vs, oe.data = .fields vs) →
      PSs ((cxOf C8.CX0 X.prog X.w X.K X.mg X.base Ng x sg g cdg X.A X.stack s H C8.E0).nox.suite a ((a, oe) :: pn)) (b₀ :: suite) (ts a cls d)) :
    LamX.GivesTo X Ng x sg g cdg [.Try [.Assign [.Name y p1] (.Call (.Name a p2) [] [] p3) p4] [.ExceptHandler (some (.Name e p5)) (some n) (b₀ :: suite) p6] [] [] p7, .Return (some (.Name y p8)) p9] a q (TTf X.K (foundA C mh)) := by
  intro f c' s H Q tl act hc h
  have vy : Vis sg y := .inl hly
  refine ⟨_, pss_cons (kps_try_as X.K [C] C (X := (cxOf C8.CX0 X.prog X.w X.K X.mg X.base Ng x sg g cdg X.A X.stack s H C8.E0).nox) (i := 2) (Wout := fun _ _ _ _ => False)
      (tb := fun W D σ H => σ[0]? = some (some (.ref f)) ∧ H c' = some (LamX.CodeO c' q) ∧ tl (fun cls d H' => ∀ σ' : L2.St, σ'.length = 3 → W cls d σ' H') H fun v H1 => D.nx (σ.set 1 (some v)) H1)
      hN hm LamX.takes0 (fun W pn xe tk _ => ?_) (hsu s H) h2 (hln s H) hge hde) (pss_one (ps_ret (pe_var (i := 1) h1 vy hdy hcy))), ?_⟩
  · refine ⟨fun pins s' σ H' D I h' => ?_⟩
    have hp := act _ pn xe (fun cls d H' => ∀ σ' : L2.St, σ'.length = 3 → W cls d σ' H') p2 p3 (Takes.atLen (n := 3) tk hl) fun cls d σ' H' z hl => z σ' hl
    exact (pss_one (ps_asg (pos := p4) hp (pg_name (pos := p1) hN h1 (.inl hly)))).run pins s' σ H' D I h'
  · refine ⟨by rw [h0]; rfl, hc, ?_⟩
    refine h _ _ (fun cls dd H1 ⟨U, x, z, uo, xr, hz, k⟩ σ' hl' => ?_) (fun v H1 ⟨U, d, z, uo, r, hz, k⟩ => ?_)
    · have hz : (if x.C = C then fdK (mh x [.no, .no, .no]) else none) = some z := hz
      by_cases w : x.C = C
      · rw [if_pos w] at hz
        refine ⟨true, by rw [xr.1, w]; exact hx, fun _ a na => ?_, fun z => by cases z⟩
        refine hx_end (n := 3) (Q := Q) (F := foundA C mh) uo xr hz k (by rw [List.length_set]; exact hl') (List.getElem?_set_self (by omega)) rfl
      · rw [if_neg w] at hz; cases hz
    · cases hz
      refine ⟨v, ?_, k v H1 ⟨Le.rfl, uo.tab⟩ r⟩
      rw [h0]
      rfl
def foundO (C : Addr) (mh : SM) : Ro → Option D
  | .ok d => some d
  | .exn x => if x.C = C then fdK (mh [.no, .no]) else none
theorem sx_end {K : Frag} {n : Nat} {th : TS} {mh : SM} [hh : SX K W0 th mh] {Q : VK} {H1 : Hp} {U : Addr → Prop} {z : D} {σ : L2.St} {Dn : Ends}
    (uo : UOk K H1 U) (hz : fdK (mh (List.replicate n .no)) = some z) (k : ∀ u H2, LeT K H1 H2 → Rep K (Hm H2 U) z u → Q u H2) (hl : σ.length = n) (hD : Dn.rt = Q) : th Dn σ H1 := by
  obtain ⟨s0, l0⟩ := sim_no uo hl
  obtain ⟨s', e⟩ := fdK_some hz
  refine hh.ok _ σ H1 _ Dn s0 ?_
  rw [e]
  intro v σ' H2 i2 r2 _
  rw [hD]
  exact k v H2 ⟨fun b o e n => i2.frm b o e n (fun q => by cases q) Ct.xs_none, i2.tab⟩ (r2.le (Hm_sub fun b h => .inl h))
/-- try: y = a() / except C: return .. / return y -/
theorem found_only {Ng : List Str} {x a y e q : Str} {sg : Scope} {g C : Addr} {cdg : Value} {b₀ : Stmt} {suite : List Stmt} {p1 p2 p3 p4 p5 p6 p7 p8 p9 : Pos} {th : TS} {mh : SM} (hh : SX X.K W0 th mh)
    (hN : Ng.Nodup) (hl : Ng.length = 2) (h1 : Ng[1]? = some y) (h0 : ∀ f : Addr, L2.start Ng [V.ref f] = [some (.ref f), none]) (hm : X.mg e = some (.ref C)) (hx : exmOne X.K (.ref C) (.ref C) = some true)
    (hge : sg.names.lookup e = some .globalImplicit) (hde : (e == ("__debug__" : Str)) = false) (hly : sg.names.lookup y = some .local) (hdy : (y == ("__debug__" : Str)) = false) (hcy : (y == ("__classdict__" : Str)) = false)
    (hsu : ∀ (s : Shared) (H : Hp) (a : Addr) (oe : Obj) (cls : Value) (d : Option Addr) (pn : List (Addr × Obj)), Zc cls d oe → (∃ vs, oe.data = .fields vs) →
      PSs ((cxOf C8.CX0 X.prog X.w X.K X.mg X.base Ng x sg g cdg X.A X.stack s H C8.E0).nox.suite a ((a, oe) :: pn)) (b₀ :: suite) th) :
    LamX.GivesTo X Ng x sg g cdg [.Try [.Assign [.Name y p1] (.Call (.Name a p2) [] [] p3) p4] [.ExceptHandler (some (.Name e p5)) none (b₀ :: suite) p6] [] [] p7, .Return (some (.Name y p8)) p9] a q (TTf X.K (foundO C mh)) := by
  intro f c' s H Q tl act hc h
  have vy : Vis sg y := .inl hly
  refine ⟨_, pss_cons (kps_try_only X.K [C] C (X := (cxOf C8.CX0 X.prog X.w X.K X.mg X.base Ng x sg g cdg X.A X.stack s H C8.E0).nox) (Wout := fun _ _ _ _ => False) (ts := fun _ _ _ => th)
      (tb := fun W D σ H => σ[0]? = some (some (.ref f)) ∧ H c' = some (LamX.CodeO c' q) ∧ tl (fun cls d H' => ∀ σ' : L2.St, σ'.length = 2 → W cls d σ' H') H fun v H1 => D.nx (σ.set 1 (some v)) H1)
      hm LamX.takes0 (fun W pn xe tk _ => ?_) (hsu s H) hge hde) (pss_one (ps_ret (pe_var (i := 1) h1 vy hdy hcy))), ?_⟩
  · refine ⟨fun pins s' σ H' D I h' => ?_⟩
    have hp := act _ pn xe (fun cls d H' => ∀ σ' : L2.St, σ'.length = 2 → W cls d σ' H') p2 p3 (Takes.atLen (n := 2) tk hl) fun cls d σ' H' z hl => z σ' hl
    exact (pss_one (ps_asg (pos := p4) hp (pg_name (pos := p1) hN h1 (.inl hly)))).run pins s' σ H' D I h'
  · refine ⟨by rw [h0]; rfl, hc, ?_⟩
    refine h _ _ (fun cls dd H1 ⟨U, x, z, uo, xr, hz, k⟩ σ' hl' => ?_) (fun v H1 ⟨U, d, z, uo, r, hz, k⟩ => ?_)
    · have hz : (if x.C = C then fdK (mh [.no, .no]) else none) = some z := hz
      by_cases w : x.C = C
      · rw [if_pos w] at hz
        refine ⟨true, by rw [xr.1, w]; exact hx, fun _ a na => ?_, fun z => by cases z⟩
        exact sx_end (n := 2) (Q := Q) uo hz k hl' rfl
      · rw [if_neg w] at hz; cases hz
    · cases hz
      refine ⟨v, ?_, k v H1 ⟨Le.rfl, uo.tab⟩ r⟩
      rw [h0]
      rfl
end
/-! ### the def that calls what it got, the maker of the lambda -/
structure DnL (P : Program) (w : World) (K : Frag) (mg : Str → Option Value) (base : Heap) (x a : Str) (FF : Ro → Option D) : Prop where
  ex : ∃ (g : Addr) (oc : Value) (od : Option Addr) (pg : Arguments) (bg : List Stmt) (sg : Scope) (dV kV doc pm cdv ct : Value) (an : Option Addr) (osl : Array (Option Value)) (Ng : List Str),
    mg x = some (.ref g) ∧ keepIn K (.ref g) = true ∧ K.lookup g = some ⟨oc, od, .func (fnOf x x pg bg sg dV kV doc pm an cdv ct), osl⟩ ∧ codeIn K cdv x = true ∧ L2.Binds K (fnOf x x pg bg sg dV kV doc pm an cdv ct) [a] [] ∧
    FnScope Ng [a] sg ∧ Ng[0]? = some a ∧ Vis sg a ∧ ∀ (X : Cx) (q : Str), X.prog = P → X.w = w → X.K = K → X.mg = mg → X.base = base → LamX.GivesTo X Ng x sg g cdv bg a q (TTf K FF)
theorem DnL.mk' {P : Program} {w : World} {K : Frag} {mg : Str → Option Value} {base : Heap} {x a : Str} {FF : Ro → Option D} {pg : Arguments} {bg : List Stmt} {sg : Scope} {g : Addr} {fd : FuncData} {Ng : List Str} (F : FunD K x x pg bg sg [] [] g fd) (gm : mg x = some (.ref g))
    (S : FnScope Ng [a] sg) (h0 : Ng[0]? = some a) (hv : Vis sg a)
    (hb : ∀ (kV doc pm : Value) (an : Option Addr) (cdv ct : Value) (us : List Value), us.length = 1 → bindArgs (fnOf x x pg bg sg .none kV doc pm an cdv ct) ⟨us, []⟩ = pure (([a] : List Str).zip us))
    (hG : ∀ (cdv : Value) (X : Cx) (q : Str), X.prog = P → X.w = w → X.K = K → X.mg = mg → X.base = base → LamX.GivesTo X Ng x sg g cdv bg a q (TTf K FF)) : DnL P w K mg base x a FF := by
  have b := F.bindsN (ps := [a]) hb
  obtain ⟨oc, od, dV, kV, doc, pm, an, cdv, ct, osl, rfl, lk, hcd, _, _⟩ := F.ex
  exact ⟨g, oc, od, pg, bg, sg, dV, kV, doc, pm, cdv, ct, an, osl, Ng, gm, F.kp, lk, hcd, b, S, h0, hv, hG cdv⟩
section
variable {X : Cx}
theorem pe_lam {k : Nat} {x a : Str} {FF : Ro → Option D} {c P : Addr} {params : Arguments} {body : Expr} {scope : Scope} {t : XK → TE} {p lpos pos : Pos} (d : DnL X.prog X.w X.K X.mg X.base x a FF) (hg : Gl X x) (TB : LamX.TabB X.base X.mg c P) (hcode : X.env.code = .ref c)
    (hP : LT X.K = [(P, X.env.qual ++ "<lambda>")]) (hr : Room (k + 2) X.A) (L : LamX.LamS X.env.scope scope)
    (hbody : ∀ (A : Around) (outer : List Env) (s : Shared) (H : Hp) (E : XK) (f c' : Addr), Room k (A.deeper (LamX.lamEnv X scope s.heap.objs.size f c')) → PE (LamX.lamCx X A outer s H E scope f c') body (t E))
    (hdef : defaultsOf params X.env = ([], []) := by rfl) (hbind : ∀ (q : Str) (cl : List (Str × Addr)) (pm cv ctv : Value), bindArgs (PySem.W.kla_fn "<lambda>" q params body scope cl pm cv ctv) ⟨[], []⟩ = pure [] := by intros; rfl)
    (hdb : (x == ("__debug__" : Str)) = false := by decide) (hd : (a == ("__debug__" : Str)) = false := by decide) (hcd : (a == ("__classdict__" : Str)) = false := by decide) :
    PE X (.Call (.Name x p) [.Lambda params body scope lpos] [] pos) (LamX.tLam (LT X.K) (TTf X.K FF) t) := by
  obtain ⟨g, oc, od, pg, bg, sg, dV, kV, doc, pm, cdv, ct, an, osl, Ng, h1, h2, h3, h4, h5, h6, h7, h8, h9⟩ := d.ex
  exact LamX.pe_lamcall hg h1 h2 h3 h4 h5 h6 h7 h8 (h9 X _ rfl rfl rfl rfl rfl) TB hcode (by rw [hP]; exact List.mem_singleton.mpr rfl) (fun p hp _ => by
    rw [hP] at hp
    rw [List.mem_singleton.mp hp]) hr L hdef hbind hbody hdb hd hcd
end
section
variable {X : Cx}
theorem kpe_lam (K : Frag) {k : Nat} {x a : Str} {FF : Ro → Option D} {c P : Addr} {params : Arguments} {body : Expr} {scope : Scope} {t : XK → TE} {p lpos pos : Pos} (d : DnL X.prog X.w X.K X.mg X.base x a FF) (hg : Gl X x) (TB : LamX.TabB X.base X.mg c P) (hcode : X.env.code = .ref c)
    (hP : LT X.K = [(P, X.env.qual ++ "<lambda>")]) (hr : Room (k + 2) X.A) (L : LamX.LamS X.env.scope scope)
    (hbody : ∀ (A : Around) (outer : List Env) (s : Shared) (H : Hp) (E : XK) (f c' : Addr), Room k (A.deeper (LamX.lamEnv X scope s.heap.objs.size f c')) → PE (LamX.lamCx X A outer s H E scope f c') body (t E))
    (hdef : defaultsOf params X.env = ([], []) := by rfl) (hbind : ∀ (q : Str) (cl : List (Str × Addr)) (pm cv ctv : Value), bindArgs (PySem.W.kla_fn "<lambda>" q params body scope cl pm cv ctv) ⟨[], []⟩ = pure [] := by intros; rfl)
    (hdb : (x == ("__debug__" : Str)) = false := by decide) (hd : (a == ("__debug__" : Str)) = false := by decide) (hcd : (a == ("__classdict__" : Str)) = false := by decide) (h : X.K = K := by rfl) :
    PE X (.Call (.Name x p) [.Lambda params body scope lpos] [] pos) (LamX.tLam (LT K) (TTf K FF) t) := by
  subst h
  exact pe_lam d hg TB hcode hP hr L hbody hdef hbind hdb hd hcd
end
section
variable {P : Program} {w : World} {K : PySem.W.Frag} {mg : Str → Option Value} {base : Heap} {x qual : Str} {params : Arguments} {body : List Stmt} {scope : Scope} {fd : FuncData} {N ps : List Str} {k n : Nat} {m : SM}
/-- a def of data alone, its code object known -/
theorem fnPL (F : FunD K x qual params body scope [] [] (He.fAd K (x, none)) fd) (sc : FnScope N ps scope) (hn : ps.length = n)
    (hb : ∀ (A : Around) (outer : List Env) (s : Shared) (H : Hp) (E : XK), Room k (A.deeper (PyProof.Rows.envOfC qual scope s.heap.objs.size (He.fAd K (x, none)) (.ref (He.cT K (x, none)).1))) → ∃ t, PSs (cxOf CX0 P w K mg base N qual scope (He.fAd K (x, none)) (.ref (He.cT K (x, none)).1) A outer s H E).nox body t ∧ SX K W0 t m) :
    FnOk P w K mg base CX0 (k + 1) (He.fAd K (x, none)) fd ps (spP K n (runP N.length m)) := by
  have hpl : ps.length ≤ N.length := by have := congrArg List.length sc.pre; rw [List.length_take] at this; omega
  obtain ⟨oc, od, dV, kV, doc, pm, an, cdv, ct, osl, rfl, lk, hcd, _, _⟩ := F.ex
  obtain ⟨c, rfl⟩ := He.codeIn_ref hcd
  have ec : (He.cT K (x, none)).1 = c := He.codeOf_eq lk rfl
  rw [ec] at hb
  refine fn_of lk hcd sc (fun vs H Q E h => ?_) fun A outer s H vs Q E hr h => ?_
  · obtain ⟨ds, U, z, h1, h2, h3, _⟩ := h
    rw [← h3.length, h1, hn]
  · obtain ⟨ds, U, z, h1, h2, h3, h4, h5⟩ := h
    obtain ⟨t, ht, hm⟩ := hb A outer s H E hr
    refine ⟨t, ht.nox, ?_⟩
    have hl : vs.length ≤ N.length := by rw [← h3.length, h1, ← hn]; exact hpl
    obtain ⟨s0, l0⟩ := sim_ini (N := N) h3 h2 hl
    refine hm.ok _ _ _ _ _ s0 ?_
    unfold runP at h4
    have fin : ∀ {d : D} {s' : List S} {v : V} {σ' : L2.St} {H' : Hp}, Sim K ⟨H, none, U, none⟩ s' σ' H' → Rep K (fz ⟨H, none, U, none⟩ s' σ' H') d v → Rep K (Hm H' U) d v ∧ LeT K H H' := fun {d s' v σ' H'} i r =>
      ⟨r.le (Hm_sub fun b q => .inl q), ⟨fun b o e n => i.frm b o e n (fun q => by cases q) Ct.xs_none, i.tab⟩⟩
    cases e : m (iniP N.length ds) with
    | rt d s' =>
      rw [e] at h4
      cases h4
      exact fun v σ' H' i1 r1 _ => h5 v H' (fin i1 r1).2 (fin i1 r1).1
    | nx s' =>
      rw [e] at h4
      cases h4
      exact fun σ' H' i1 _ => h5 .non H' (fin i1 .non).2 .non
    | _ => rw [e] at h4; cases h4
end
end DL
set_option linter.all false
set_option maxRecDepth 100000
set_option maxHeartbeats 2000000
/-! DxR: t[::-1] of a tuple. -/
namespace HT
open PySem PyProof.Rows PySem.SeqAt PySem.MeetsSeq PySem.MeetsSeq2 PySem.MeetsSeq3
section
variable {prog : Program} {w : World} {A : Around} {E : Value → Shared → Prop} {s : Shared}
theorem adj_back (n : Nat) : Builtin.Slice.sliceAdjust none none (-1) (n : Int) = ((n : Int) - 1, -1) := by
  unfold Builtin.Slice.sliceAdjust
  simp
theorem pl_back (n : Nat) : Builtin.Slice.slicePlaces ((n : Int) - 1) (-1) (-1) = n := by
  unfold Builtin.Slice.slicePlaces
  simp
  omega
/-- what a slice from the end is applied as -/
theorem applied_back {sl : Addr} {vs : Value} {n : Nat} {Q : Int × Int × Nat → Shared → Prop} (hs : s.heap.IsSliceOf sl .none .none vs) (ps : IsPart vs (some (-1))) (h : Q ((n : Int) - 1, -1, n) s) : wpAny (model prog w) A (Builtin.Slice.sliceApplied (.ref sl) (pure (n : Int))) Q E s := by
  obtain ⟨o, h1, _, h2⟩ := id hs
  unfold Builtin.Slice.sliceApplied Builtin.Slice.sliceFields
  refine wpAny_bind (wpAny_bind (wpAny_field h1 h2 (x := .none) rfl (wpAny_bind (wpAny_field h1 h2 (x := .none) rfl (wpAny_bind (wpAny_field h1 h2 (x := vs) rfl (wpAny_pure ?_)))))))
  refine wpAny_bind (slicePart_ ps ?_)
  show wpAny _ _ (if ((-1 : Int) == 0) = true then _ else _) _ _ s
  rw [if_neg (by decide)]
  refine wpAny_bind (slicePart_none (wpAny_bind (slicePart_none (wpAny_bind (wpAny_pure ?_)))))
  show wpAny _ _ (match Builtin.Slice.sliceAdjust none none (-1) (n : Int) with | (a, b) => pure (a, (-1 : Int), Builtin.Slice.slicePlaces a b (-1))) _ _ s
  rw [adj_back]
  show wpAny _ _ (pure ((n : Int) - 1, (-1 : Int), Builtin.Slice.slicePlaces ((n : Int) - 1) (-1) (-1))) _ _ s
  rw [pl_back]
  exact wpAny_pure h
theorem pick_back (xs : Array Value) : ((List.range xs.size).filterMap fun (k : Nat) => xs[((xs.size : Int) - 1 + (k : Int) * -1).toNat]?).toArray = xs.toList.reverse.toArray := by
  have e : (fun (k : Nat) => xs[((xs.size : Int) - 1 + (k : Int) * -1).toNat]?) = (xs[·]?) ∘ fun k => xs.size - 1 - k := by
    funext k
    have : ((xs.size : Int) - 1 + (k : Int) * -1).toNat = xs.size - 1 - k := by omega
    rw [this] <;> rfl
  rw [e, ← List.filterMap_map, PySem.W.krv_range, List.filterMap_reverse, PySem.W.krv_all]
theorem get_back {t sl : Addr} {items : Array Value} {vs : Value} {Q : Value → Shared → Prop} (ht : IsTup s.heap t items) (hs : s.heap.IsSliceOf sl .none .none vs) (ps : IsPart vs (some (-1)))
    (h : Q (.ref s.heap.objs.size) { s with heap := s.heap.push { cls := .type "tuple", data := .seq items.toList.reverse.toArray } }) (hsz : items.size ≤ sizeLine) : wpAny (model prog w) A (getItem (.ref t) (.ref sl)) Q E s := by
  have hz : sizeOk (.seq items.toList.reverse.toArray) := by
    show items.toList.reverse.toArray.size ≤ sizeLine
    rw [List.size_toArray, List.length_reverse, Array.length_toList]
    exact hsz
  obtain ⟨o, h1, h2, h3⟩ := id hs
  have hT : s.TypeIs (.ref sl) "slice" := ⟨o, h1, h2⟩
  unfold getItem
  try with_reducible refine wpAny_holding ?_
  first | refine wpAny_bind (wpAny_pure ?_) | skip
  refine wpAny_bind (wpAny_sequenceKey ht.typeIs (by decide) ?_)
  refine wpAny_bind (wpAny_callSpecial?_slot (name := Str.ofString "__getitem__") ht.typeIs slot_tuple_getitem (wpAny_call_entry slot_tuple_getitem ht.typeIs entry_tuple_getitem ?_ (args_tuple_getitem _ _)))
  show wpAny _ _ (Builtin.Tuple.tupleItemsOf (.ref t) >>= _) _ _ s
  refine wpAny_bind (tupleItemsOf_ ht (wpAny_bind (wpAny_typeOf hT ?_)))
  rw [if_pos (by decide)]
  refine wpAny_bind (applied_back hs ps ?_)
  have hno : ¬ (((((items.size : Int) - 1) == 0) && ((-1 : Int) == 1) && (items.size == items.size)) = true) := by
    rw [show ((-1 : Int) == 1) = false from rfl, Bool.and_false, Bool.false_and]
    exact Bool.false_ne_true
  show wpAny _ _ (if ((((items.size : Int) - 1) == 0) && ((-1 : Int) == 1) && (items.size == items.size)) = true then _ else _) _ _ s
  rw [if_neg hno, pick_back]
  first
    | exact wpAny_bind (m := Builtin.Tuple.tupleExact _) (wpAny_newObj_type (wpAny_pure ⟨_, rfl, wpAny_pure h⟩) hz)
    | exact wpAny_bind (m := Builtin.Tuple.tupleExact _) (wpAny_newObj_type (wpAny_bind (wpAny_pure (wpAny_pure ⟨_, rfl, wpAny_pure h⟩))) hz)
    | exact wpAny_bind (wpAny_bind (m := Builtin.Tuple.tupleExact _) (wpAny_newObj_type (wpAny_pure (wpAny_pure ⟨_, rfl, wpAny_pure h⟩)) hz))
    | exact wpAny_bind (wpAny_bind (m := Builtin.Tuple.tupleExact _) (wpAny_newObj_type (wpAny_pure ⟨_, rfl, wpAny_pure h⟩) hz))
end
end HT
namespace L2
open PySem PySem.Spec PyProof.Rows HT
section
variable {X : Cx} {te : TE}
def tRevT (K : PySem.W.Frag) (te : TE) : TE := fun σ H Q => te σ H fun x H1 => ∃ a xs, x = .ref a ∧ SqT K H1 a xs ∧ ∀ p, H1 p = none → Q (.ref p) (upd H1 p (.tup xs.reverse))
theorem pe_revT {e : Expr} {k : Nat} {p1 p2 p3 pos : Pos} (he : PE X e te) : PE X (.Subscript e (.Slice none none (some (.UnaryOp .USub (.Constant (.int 1) k p1) p2)) p3) pos) (tRevT X.K te) := by
  refine ⟨fun pins s σ H Q I h => Subscript_ (thn (he.run pins s σ H _ I h) fun v s1 ⟨x, H1, I1, r1, a, xs, ex, hx, q⟩ => ?_)⟩
  subst ex
  cases r1
  refine wpAny_Slice (thn (po_none.run pins s1 σ H1 (fun o H2 => o = none ∧ H2 = H1) I1 ⟨rfl, rfl⟩) fun vl s2 ⟨l, H2, I2, pl, el, e2⟩ => ?_)
  subst el e2
  refine thn (po_none.run pins s2 σ H2 (fun o H3 => o = none ∧ H3 = H2) I2 ⟨rfl, rfl⟩) fun vu s3 ⟨u, H3, I3, pu, eu, e3⟩ => ?_
  subst eu e3
  refine thn ((po_some (pe_un un_neg pe_int) : PO X (some (.UnaryOp .USub (.Constant (.int 1) k p1) p2)) (tPart (tUn (rU fun i => .int (-i)) (tC (.int 1))))).run pins s3 σ H3 (fun o H4 => o = some (-1) ∧ H4 = H3) I3 ⟨1, rfl, -1, rfl, rfl, rfl⟩) fun vs s4 ⟨o, H4, I4, ps, eo, e4⟩ => ?_
  subst eo e4
  have el : vl = .none := by cases pl; rfl
  have eu : vu = .none := by cases pu; rfl
  subst el eu
  have I5 : Inv X pins σ H4 { s4 with heap := s4.heap.push { cls := .type "slice", data := .fields #[.none, .none, vs] } } := I4.kept (t' := s4.toks) fun b ob z => Heap.get?_push_of_some _ z
  obtain ⟨its, r, ht, hz⟩ := I5.tuple hx
  have hlen := r.length
  show wpAny (model X.prog X.w) X.A (subscriptTail e (.Slice none none (some (.UnaryOp .USub (.Constant (.int 1) k p1) p2)) p3) (.ref a) (.ref s4.heap.objs.size)) (EP X pins σ Q) X.xe { s4 with heap := s4.heap.push { cls := .type "slice", data := .fields #[.none, .none, vs] } }
  refine tail_any (ops := [.ref a, .ref s4.heap.objs.size]) ht.typeIs (PyProof.Rows.slot_tuple_getitem.lookup) ?_ (by with_unfolding_all rfl)
  refine get_back ht (Heap.IsSliceOf.new _ .none .none vs) ps ?_ (by rw [List.size_toArray]; omega)
  refine ⟨.ref _, _, I5.laid (t' := s4.toks) (o := .tup xs.reverse) (fun b ob z => Heap.get?_push_of_some _ z) (Nat.le_refl _) ?_, rfl, q _ (I5.hok.fresh (Nat.le_refl _))⟩
  exact ⟨by rw [List.length_reverse]; exact hz, _, r.reverse, IsTup.new _ _⟩
end
end L2
namespace DL
open PySem PySem.Spec L2
theorem kpe_revT (K : PySem.W.Frag) {X : Cx} {te : TE} {e : Expr} {k : Nat} {p1 p2 p3 pos : Pos} (he : PE X e te) (h : X.K = K := by rfl) : PE X (.Subscript e (.Slice none none (some (.UnaryOp .USub (.Constant (.int 1) k p1) p2)) p3) pos) (tRevT K te) := h ▸ pe_revT he
theorem Reps.rev {K : PySem.W.Frag} {H : Hp} : ∀ {ds : List D} {vs : List V}, Reps K H ds vs → Reps K H ds.reverse vs.reverse
  | _, _, .nil => .nil
  | _, _, .cons a b => by
    rw [List.reverse_cons, List.reverse_cons]
    exact (Reps.rev b).append (.cons a .nil)
def revT : D → Option D
  | .tup xs => some (.tup xs.reverse)
  | _ => none
def cRevT (m : EM) : EM := fun sl => (m sl).bind fun d s => ofO (revT d) s
instance revT_ex {K : PySem.W.Frag} {W : WX} {te : TE} {me : EM} [he : EX K W te me] : EX K W (tRevT K te) (cRevT me) := ⟨fun c σ H sl Q s h => by
  refine he.ok c σ H sl _ s (h.split.imp fun x H1 ⟨d, s1, _, i1, r1, l1, h1⟩ => ?_)
  cases r1 with
  | @tup a vs ds q r =>
    refine ⟨a, vs, rfl, SqT.of (Hm_some.mp q).2, fun p n => ?_⟩
    have n2 : Le (fz c s1 σ H1) (fz c s1 σ (upd H1 p (.tup vs.reverse))) := fz_same (Le.of_same (same_upd n))
    exact h1 _ _ (i1.same (same_upd n)) (.tup (rep_at i1.hid n) (r.rev.le n2)) n2
  | _ => exact h1.elim⟩
section
variable {sl s : List S} {m : EM}
theorem a_revT : cRevT m sl = ER.bind (m sl) fun d s => ofO (revT d) s := rfl
end
end DL
set_option linter.all false
set_option autoImplicit false
set_option maxRecDepth 100000
set_option maxHeartbeats 2000000
/-! DxS: d[k] = v of an own dict. -/
namespace DL
open PySem PySem.Spec L2
def putD (m : MO) (k d : D) : Option MO := match m with
  | .dK ks es => (keyOf k).bind fun q => if ks.length < sizeLine then some (.dK (putKs ks q) (putDs ks es q d)) else none
  | .dT ks es => (tkeyOf k).bind fun q => if ks.length < sizeLine then some (.dT (putKs ks q) (putDs ks es q d)) else none
  | _ => none
def cSetD (i : Nat) (me mi : EM) : SM := fun sl => bSR (me sl) fun d s => match gS s i with
  | .o _ => bSR (mi s) fun k s1 => (match gS s1 i with
    | .o m => (match putD m k d with
      | some m' => .nx (sS s1 i (.o m'))
      | none => .bad)
    | _ => .bad)
  | _ => .bad
theorem putD_ok {K : PySem.W.Frag} {H A : Hp} {a : Addr} {m m' : MO} {o : HO} {k d : D} {y x : V} (hH : H a = some o) (le : Le A H) (hr : HORep K A m o) (rk : Rep K A k y) (rd : Rep K A d x) (e : putD m k d = some m') : ∃ o', DPut H a y x (upd H a o') ∧ HORep K A m' o' := by
  cases m with
  | dK ks es =>
    obtain ⟨ws, rfl, l, q⟩ := hr
    unfold putD at e
    cases w : keyOf k with
    | none => simp only [w, Option.bind] at e; cases e
    | some z =>
      simp only [w, Option.bind] at e
      by_cases n : ks.length < sizeLine
      · rw [if_pos n] at e
        cases e
        obtain ⟨e1, e2⟩ := putK_zip (k := z) (v := x) l
        refine ⟨.dK (putK (ks.zip ws) z x), dkd_K.put H A a _ y x k z hH (by rw [List.length_zip, l]; omega) le rk w, ?_⟩
        rw [e1]
        exact dkd_K.ho A _ _ _ e2 (reps_putDs rd q)
      · rw [if_neg n] at e; cases e
  | dT ks es =>
    obtain ⟨ws, rfl, l, q⟩ := hr
    unfold putD at e
    cases w : tkeyOf k with
    | none => simp only [w, Option.bind] at e; cases e
    | some z =>
      simp only [w, Option.bind] at e
      by_cases n : ks.length < sizeLine
      · rw [if_pos n] at e
        cases e
        obtain ⟨e1, e2⟩ := putK_zip (k := z) (v := x) l
        refine ⟨.dT (putK (ks.zip ws) z x), dkd_T.put H A a _ y x k z hH (by rw [List.length_zip, l]; omega) le rk w, ?_⟩
        rw [e1]
        exact dkd_T.ho A _ _ _ e2 (reps_putDs rd q)
      · rw [if_neg n] at e; cases e
  | _ => cases e
instance setd_sx {K : PySem.W.Frag} {W : WX} {te ti : TE} {me mi : EM} {i : Nat} [he : EX K W te me] [hi : EX K W ti mi] : SX K W (tAsg te (gSub (tVarB i) ti rSetD)) (cSetD i me mi) := ⟨fun c σ H sl Dn s h => by
  refine he.ok c σ H sl _ s (h.split.imp fun x H1 ⟨d, s1, _, i1, r1, l1, h1⟩ => ?_)
  cases g0 : gS s1 i with
  | no => simp only [g0] at h1; exact h1.elim
  | q n => simp only [g0] at h1; exact h1.elim
  | v d => simp only [g0] at h1; exact h1.elim
  | o m0 =>
    simp only [g0] at h1
    obtain ⟨a, o0, hσ, _⟩ := get_o i1 g0
    refine ⟨.ref a, hσ, hi.ok c σ H1 s1 _ i1 (h1.split.imp fun y H2 ⟨k, s2, _, i2, r2, l2, h2⟩ => ?_)⟩
    cases g1 : gS s2 i with
    | no => simp only [g1] at h2; exact h2.elim
    | q n => simp only [g1] at h2; exact h2.elim
    | v d => simp only [g1] at h2; exact h2.elim
    | o m =>
      obtain ⟨a', o, hσ', nU, _, hH, hr⟩ := get_o i2 g1
      rw [hσ] at hσ'
      cases hσ'
      simp only [g1] at h2
      cases e : putD m k d with
      | none => simp only [e] at h2; exact h2.elim
      | some m' =>
        simp only [e] at h2
        obtain ⟨o', dp, hr'⟩ := putD_ok hH Hm_le hr r2 (r1.le l2) e
        obtain ⟨s3, l3⟩ := i2.putO g1 hσ hr'
        exact ⟨a, _, rfl, dp, h2 σ _ s3 l3⟩⟩
/-! ### {} for tuple keys -/
def cDNewT : NM := fun sl => .ok (.dT [] []) sl
instance dnewT_nx {K : PySem.W.Frag} {W : WX} : NX K W tDNewT cDNewT := ⟨fun c σ H sl Q s h => fun p n => h p _ H s n ⟨[], rfl, rfl, .nil⟩ Le.rfl⟩
instance dnewT_ex {K : PySem.W.Frag} {W : WX} : EX K W tDNewT (cFz cDNewT) := (dnewT_nx).ex
section
variable {sl s : List S}
theorem a_dnewT : cDNewT sl = .ok (.dT [] []) sl := rfl
def kSetD1 (i : Nat) (mi : EM) : D → List S → SR := fun d s => match gS s i with
  | .o _ => bSR (mi s) fun k s1 => (match gS s1 i with
    | .o m => (match putD m k d with
      | some m' => .nx (sS s1 i (.o m'))
      | none => .bad)
    | _ => .bad)
  | _ => .bad
theorem a_setd (i : Nat) (me mi : EM) : cSetD i me mi sl = bSR (me sl) (kSetD1 i mi) := rfl
end
end DL
set_option linter.all false
set_option autoImplicit false
set_option maxRecDepth 100000
set_option maxHeartbeats 2000000
/-! DxT: list(d) of an own dict; the walk over an own dict's keys (it is no longer told of then). -/
namespace DL
open PySem PySem.Spec L2
def cKeysB (i : Nat) : NM := fun sl => match gS sl i with
  | .o (.dT ks _) => .ok (.lst (ks.map tkD)) sl
  | .o (.dK ks _) => .ok (.lst (ks.map kD)) sl
  | _ => .bad
section
variable {K : PySem.W.Frag} {W : WX}
instance (priority := high) keysB_nx {i : Nat} : NX K W (tCB (rList1 K) (tCons (tVarB i) tNil)) (cKeysB i) := ⟨fun c σ H sl Q s h => by
  unfold cKeysB at h
  cases g : gS sl i with
  | no => simp only [g] at h; exact h.elim
  | q n => simp only [g] at h; exact h.elim
  | v d => simp only [g] at h; exact h.elim
  | o m =>
    obtain ⟨a, o, hσ, nU, _, hH, hr⟩ := get_o s g
    refine ⟨.ref a, hσ, ?_⟩
    cases m with
    | dT ks es =>
      simp only [g] at h
      obtain ⟨vs, rfl, l, _⟩ := hr
      refine .inr (.inl ⟨a, _, rfl, Rd.of hH, fun p bs n ik => h p _ H s n ⟨_, rfl, ?_⟩ Le.rfl⟩)
      have q := reps_keysT (K := K) s.hid ik
      rw [zip_keysT l] at q
      exact q
    | dK ks es =>
      simp only [g] at h
      obtain ⟨vs, rfl, l, _⟩ := hr
      refine .inr (.inr ⟨a, _, rfl, Rd.of hH, fun p n => h p _ H s n ⟨_, rfl, ?_⟩ Le.rfl⟩)
      rw [zip_keysK l]
      exact reps_kD _
    | lst xs => simp only [g] at h; exact h.elim
    | ins C ns ds => simp only [g] at h; exact h.elim⟩
instance (priority := high) keysB_ex {i : Nat} : EX K W (tCB (rList1 K) (tCons (tVarB i) tNil)) (cFz (cKeysB i)) := (keysB_nx).ex
end
/-! ### a walk over its keys -/
def iKeysL (td : TE) : TI := fun σ H R => td σ H fun x H1 => ∃ d kvs, x = .ref d ∧ H1 d = some (.dT kvs) ∧ ∀ o, R (Itkt d o kvs) (upd H1 d (.frz o (.dT kvs)))
theorem pi_keysL {X : Cx} {tg e : Expr} {td : TE} (he : PE X e td) : PI X tg e (iKeysL td) := by
  refine ⟨fun pins s σ H R I h => ?_⟩
  refine thn (he.run pins s σ H _ I h) fun u s1 ⟨x, H1, I1, rx, d, kvs, ex, hd, q⟩ => ?_
  subst ex
  obtain rfl : u = Value.ref d := rx
  obtain ⟨od, I2⟩ := I1.lock hd trivial
  obtain ⟨hs, hgd, hx, es, ep, hdt, hsz, ent⟩ := I2.frzT upd_same
  refine iter_keys hs hgd hx hdt (pi_one (tk := s1.toks) I2 _ (turn_keysT _ hdt) ⟨_, Heap.get?_push_size _ rfl, rfl, ?_⟩ (q od))
  rw [hsz] <;> rfl
def cKeysO (i : Nat) : AM := fun sl => match gS sl i with
  | .o (.dT ks _) => .ok (ks.map tkD) (sS sl i .no)
  | _ => .bad
section
variable {K : PySem.W.Frag} {W : WX} {c : Ct} {σ : L2.St} {H : Hp} {sl : List S}
/-- the object that slot i owns is left to itself -/
theorem Sim.drop {i : Nat} {m : MO} {a : Addr} {o : HO} (s : Sim K c sl σ H) (h : gS sl i = .o m) (ha : σ[i]? = some (some (.ref a))) (nt : NT o) :
    Sim K c (sS sl i .no) σ (upd H a o) ∧ Le (fz c sl σ H) (fz c (sS sl i .no) σ (upd H a o)) := by
  have hi := gS_some h (fun q => nomatch q)
  rw [sS_set]
  have hlt : i < sl.length := (List.getElem?_eq_some_iff.mp hi).1
  have osl : ∀ (j : Nat), j ≠ i → (sl.set i S.no)[j]? = sl[j]? := fun j q => List.getElem?_set_ne (Ne.symm q)
  obtain ⟨a', o', e1, e2, e3, e4, e5⟩ := s.own i m hi
  rw [ha] at e1
  cases e1
  have hida : Hid c sl σ a := .inr ⟨i, m, hi, ha⟩
  have nei : ∀ (j : Nat) (x : S), (sl.set i S.no)[j]? = some x → x ≠ .no → j ≠ i := fun j x e n q => by
    subst q
    rw [List.getElem?_set_self hlt] at e
    cases e
    exact n rfl
  have sub : ∀ b, Hid c (sl.set i S.no) σ b → Hid c sl σ b := fun b hb => hb.elim .inl fun ⟨j, m1, h1, h2⟩ => by
    have q := nei j _ h1 (fun q => nomatch q)
    rw [osl j q] at h1
    exact .inr ⟨j, m1, h1, h2⟩
  have le : Le (fz c sl σ H) (fz c (sl.set i S.no) σ (upd H a o)) := fun b u e nt => by
    obtain ⟨h1, h2⟩ := Hm_some.mp e
    have nb : b ≠ a := fun q => h1 (by rw [q]; exact hida)
    exact Hm_some.mpr ⟨fun q => h1 (sub b q), by rw [upd_ne nb]; exact h2⟩
  refine ⟨⟨by rw [List.length_set]; exact s.len, fun j d' e => ?_, fun j m1 e => ?_, fun j k m1 m2 b h1 h2 h3 h4 => ?_, fun b m1 q e => ?_, fun b u e nt q x => ?_, s.uh, fun b q => ?_, tabs_upd s.tab e4 e5.nt e5.nc, s.ne.mv rfl (fun _ q => q) (fun b o _ u e _ => by rw [upd_ne (fun q => e2 (by rw [← q]; exact u))]; exact e) le fun j n e => ⟨(set_q e fun _ h => nomatch h).2, fun _ q => q⟩⟩, le⟩
  · rw [osl j (nei j _ e (fun q => nomatch q))] at e
    obtain ⟨w, h1, h2⟩ := s.val j d' e
    exact ⟨w, h1, h2.le le⟩
  · have q := nei j _ e (fun q => nomatch q)
    rw [osl j q] at e
    obtain ⟨b, u, h1, h2, h3, h4, h5⟩ := s.own j m1 e
    have nb : b ≠ a := fun z => q (s.dis j i m1 m a e hi (by rw [← z]; exact h1) ha)
    exact ⟨b, u, h1, h2, h3, by rw [upd_ne nb]; exact h4, h5.le le⟩
  · rw [osl j (nei j _ h1 (fun q => nomatch q))] at h1
    rw [osl k (nei k _ h2 (fun q => nomatch q))] at h2
    exact s.dis j k m1 m2 b h1 h2 h3 h4
  · rw [osl 0 (nei 0 _ e (fun q => nomatch q))] at e
    exact s.par b m1 q e
  · have nb : b ≠ a := fun z => by
      rcases e3 with e3 | e3
      · exact q (by rw [z]; exact e3)
      · exact e3 u (by rw [← z]; exact e) nt
    rw [upd_ne nb]
    exact s.frm b u e nt q x
  · by_cases z : b = a
    · rw [z]
      exact ⟨o, upd_same, nt⟩
    · obtain ⟨u, e, n⟩ := s.pex b q
      exact ⟨u, by rw [upd_ne z]; exact e, n⟩
theorem itOk_keys {a : Addr} {o : Obj} {ks : List (List Key)} {vs : List V} {F0 : Hp} (l : ks.length = vs.length) (h : F0 a = some (.frz o (.dT (ks.zip vs)))) : ItOk K (Itkt a o (ks.zip vs)) (ks.map tkD) F0 := fun i H U le hU => by
  have ha : H a = some (.frz o (.dT (ks.zip vs))) := (Hm_some.mp (le _ _ h nt_frz)).2
  have zl : (ks.zip vs).length = ks.length := by rw [List.length_zip]; omega
  refine ⟨fun q => ⟨ha, by rw [zl]; rw [List.length_map] at q; exact q⟩, fun d e => ?_⟩
  rw [← zip_keysT l, List.getElem?_map] at e
  cases z : (ks.zip vs)[i]? with
  | none => rw [z] at e; cases e
  | some kv =>
    rw [z] at e
    cases e
    refine ⟨⟨ha, (List.getElem?_eq_some_iff.mp z).1⟩, fun x H' y => ?_⟩
    obtain ⟨rfl, k, v, q, e1, rfl, e2⟩ := y
    rw [z] at e1
    cases e1
    exact ⟨Same.refl _, rep_tkD (Hm_some.mpr ⟨hU _ (.inr ⟨_, e2⟩), e2⟩)⟩
instance keysO_ix {i : Nat} : IX K W (iKeysL (tVarB i)) (cKeysO i) := ⟨fun c σ H sl R s h => by
  unfold cKeysO at h
  cases g : gS sl i with
  | no => simp only [g] at h; exact h.elim
  | q n => simp only [g] at h; exact h.elim
  | v d => simp only [g] at h; exact h.elim
  | o m =>
    obtain ⟨a, o, hσ, nU, _, hH, hr⟩ := get_o s g
    refine ⟨.ref a, hσ, ?_⟩
    cases m with
    | dT ks es =>
      simp only [g] at h
      obtain ⟨vs, rfl, l, _⟩ := hr
      refine ⟨a, _, rfl, hH, fun od => ?_⟩
      obtain ⟨s2, l2⟩ := s.drop (o := .frz od (.dT (ks.zip vs))) g hσ nt_frz
      refine h _ _ s2 (itOk_keys l (Hm_some.mpr ⟨fun q => ?_, upd_same⟩)) l2
      obtain ⟨o', e, n⟩ := s2.hiddenU q
      rw [upd_same] at e
      cases e
      rcases q with q | ⟨j, m1, h1, h2⟩
      · exact nU q
      · obtain ⟨b, u, g1, g2, g3, g4, g5⟩ := s2.own j m1 h1
        rw [h2] at g1
        cases g1
        rw [upd_same] at g4
        cases g4
        cases m1 with
        | lst _ => obtain ⟨_, z, _⟩ := g5; cases z
        | dK _ _ => obtain ⟨_, z, _⟩ := g5; cases z
        | dT _ _ => obtain ⟨_, z, _⟩ := g5; cases z
        | ins _ _ _ => obtain ⟨_, _, z, _⟩ := g5; cases z
    | dK ks es => simp only [g] at h; exact h.elim
    | lst xs => simp only [g] at h; exact h.elim
    | ins C ns ds => simp only [g] at h; exact h.elim⟩
/-! ### evaluation -/
theorem a_keysB_T {s : List S} {i : Nat} {ks : List (List Key)} {es : List D} (g : gS s i = .o (.dT ks es)) : cKeysB i s = .ok (.lst (ks.map tkD)) s := by unfold cKeysB; rw [g]
theorem a_keysO_T {s : List S} {i : Nat} {ks : List (List Key)} {es : List D} (g : gS s i = .o (.dT ks es)) : cKeysO i s = .ok (ks.map tkD) (sS s i .no) := by unfold cKeysO; rw [g]
end
end DL
set_option linter.all false
set_option autoImplicit false
set_option maxRecDepth 100000
set_option maxHeartbeats 2000000
/-! DxU: try with several clauses, each with a name of its own for the exception or without. -/
namespace DL
open PySem PySem.Spec L2 PyProof.Rows PySem.W
/-- a clause: the class, the slot of its name, what its suite asks -/
structure Cl where
  c : Value
  at_ : Option Nat
  ts : Addr → Value → Option Addr → TS
def Cl.run (k : Cl) (a : Addr) (cls : Value) (d : Option Addr) : TS := fun D σ H => match k.at_ with
  | none => k.ts a cls d D σ H
  | some i => k.ts a cls d ⟨fun τ J => D.nx (τ.set i none) J, D.rt, fun τ J => D.bk (τ.set i none) J, fun τ J => D.ct (τ.set i none) J⟩ (σ.set i (some (.ref a))) H
def wCl (K : Frag) (W : WX) (D : Ends) : List Cl → WX
  | [] => W
  | k :: r => fun cls d σ H => ∃ b, exmOne K cls k.c = some b ∧ (b = true → ∀ a, H a = none → k.run a cls d D σ H) ∧ (b = false → wCl K W D r cls d σ H)
abbrev SuOk (X : Cx) (b₀ : Stmt) (bs : List Stmt) (ts : Addr → Value → Option Addr → TS) : Prop :=
  ∀ (a : Addr) (ob : Obj) (cls : Value) (d : Option Addr) (pn : List (Addr × Obj)), Zc cls d ob → (∃ vs, ob.data = .fields vs) → PSs (X.suite a ((a, ob) :: pn)) (b₀ :: bs) (ts a cls d)
inductive Cls (X : Cx) : List ExceptHandler → List Cl → Prop
  | nil : Cls X [] []
  | bare {x : Str} {c : Value} {ts : Addr → Value → Option Addr → TS} {b₀ : Stmt} {bs : List Stmt} {p q : Pos} {hs : List ExceptHandler} {l : List Cl} (nm : Names X x c) (su : SuOk X b₀ bs ts) (r : Cls X hs l) :
      Cls X (.ExceptHandler (some (.Name x p)) none (b₀ :: bs) q :: hs) (⟨c, none, ts⟩ :: l)
  | named {x n : Str} {i : Nat} {c : Value} {ts : Addr → Value → Option Addr → TS} {b₀ : Stmt} {bs : List Stmt} {p q : Pos} {hs : List ExceptHandler} {l : List Cl} (nm : Names X x c) (hN : X.N.Nodup) (hi : X.N[i]? = some n) (hk : X.env.kindOf n = some .local)
      (su : SuOk X b₀ bs ts) (r : Cls X hs l) : Cls X (.ExceptHandler (some (.Name x p)) (some n) (b₀ :: bs) q :: hs) (⟨c, some i, ts⟩ :: l)
section
variable {X : Cx} {body : List Stmt} {hd : ExceptHandler} {hs : List ExceptHandler} {l : List Cl} {pos : Pos} {tb : WX → TS} {Wt : WX}
theorem ps_try_cls (hst : X.stack = X.env :: X.outer) (hfm : X.env.frame = some X.env.locals) (tk : Takes X Wt)
    (hb : ∀ (W : WX) (pn : List (Addr × Obj)) (xe : Value → Shared → Prop), Takes (X.tr pn xe) W → PassesOwn (model X.prog X.w) X.A X.env xe → PSs (X.tr pn xe) body (tb W)) (hc : Cls X (hd :: hs) l) : PS X (.Try body (hd :: hs) [] [] pos) (fun D σ H => tb (wCl X.K Wt D l) D σ H) := ⟨fun pins s σ H D I h => by
  have iok := I.ok
  have frm : X.A.frames = some (X.env :: X.outer) := iok.frames.trans (congrArg some hst)
  refine wpAny_Try_except (wpAny_mono ((hb (wCl X.K Wt D l) (X.pn ++ pins) (fun e t₁ => wpAny (model X.prog X.w) X.A (noteFrame e X.env) (fun _ t₂ => wpAny (model X.prog X.w) X.A (setFlight e none) (fun _ t₃ => wpAny (model X.prog X.w) X.A (handleBy e X.env (hd :: hs)) (SP X pins D) X.xe t₃) X.xe t₂) X.xe t₁) (fun u s' xx => ?_) PassesOwn.looking).run [] s σ H D (I.toTry _) h) (fun f s1 hsp => ?_) fun e s1 he => he)
  · obtain ⟨a, B, sI, _, τ, J, cls, d, rfl, JT, nb, up, sky, na, os, ag, w⟩ := xx
    have J0 : Inv X pins τ J sI := JT.ofTry iok
    refine Sky.land Zc.steady frm hfm (hst ▸ sky) fun h3 fl up3 => ?_
    have J3 : Inv X pins τ J { s' with heap := h3 } := J0.landed nb fl.1 (up.trans up3) os ag
    obtain ⟨o3, _, g3, z3, dd3⟩ := fl.there
    have outF : a ∉ frs (X.env :: X.outer) := fun hm => by
      obtain ⟨_, o', e', nf⟩ := fl.2.2.1.mem hm
      rw [g3] at e'; cases e'
      exact nf _ dd3
    have nL : a ≠ X.env.locals := fun z => outF (List.mem_filterMap.mpr ⟨X.env, List.mem_cons_self, hfm.trans (congrArg some z.symm)⟩)
    have nF : a ∉ X.fs := fun hm => let ⟨e, he, q⟩ := List.mem_filterMap.mp hm; outF (List.mem_filterMap.mpr ⟨e, List.mem_cons_of_mem _ he, q⟩)
    have S3 := J3.suite g3 dd3 na nL nF
    have look : Looks (model X.prog X.w) h3 (typeOf (.ref a)) cls := fun A Q E t k q => wpAny_typeOf_ref (k _ _ g3) (z3.1.symm ▸ q)
    have nam : ∀ {x : Str} {c : Value} {p : Pos} {Q E : Value → Shared → Prop}, Names X x c → Q c { s' with heap := h3 } → wpAny (model X.prog X.w) (X.A.mark (some (.ref a))) (eval (.Name x p) X.env) Q E { s' with heap := h3 } := fun nm q => by
      obtain ⟨g, db, m | ⟨m, v, nn⟩⟩ := nm
      · exact ld_glob (X := X.suite a ((a, o3) :: (X.pn ++ pins))) S3 g m q db
      · exact ld_blt (X := X.suite a ((a, o3) :: (X.pn ++ pins))) S3 g m v q nn db
    have go : ∀ {hs' : List ExceptHandler} {l' : List Cl}, Cls X hs' l' → wCl X.K Wt D l' cls d τ J → wpAny (model X.prog X.w) X.A (handleBy (.ref a) X.env hs') (SP X pins D) X.xe { s' with heap := h3 } := fun {hs' l'} hk => by
      induction hk with
      | nil =>
        intro w
        refine wpAny_handleBy_nil ?_
        obtain ⟨_, _, _, oe, vs, T, _, _, ge, _, de, e1, _⟩ := id fl
        unfold PySem.passOn
        refine wpAny_bind (wpAny_field ge de e1 ?_)
        rw [if_neg (by simp)]
        have fin : wpAny (model X.prog X.w) X.A (setFlight (.ref a) X.env.frame) (fun _ t => wpAny (model X.prog X.w) X.A (throw (.ref a) : Sem Flow) (SP X pins D) X.xe t) X.xe { s' with heap := h3 } := by
          rw [hfm]
          exact HandSPX.setFlight_upZ fl fun h4 hh up4 => wpAny_throw (tk _ _ ⟨a, B, sI, pins, τ, J, cls, d, rfl, J0, nb, (up.trans up3).trans up4, .inr (.inr (hst.symm ▸ hh)), na, os, ag, w⟩)
        first | exact wpAny_bind (wpAny_pure (wpAny_bind fin)) | exact wpAny_bind fin
      | bare nm su r ih =>
        intro ⟨b, eb, yes, no⟩
        refine wpAny_handleBy_cons (codeAny_handlers_test (nam nm ((exm_one (M := model X.prog X.w) J3.kIn look eb).here ?_))) (fun q => nomatch q)
        cases b with
        | false => exact ih (no rfl)
        | true =>
          refine codeAny_handlers_suite (HandSPX.lands_againZ fl fun h4 fl4 up4 => ?_)
          have J4 : Inv X pins τ J { s' with heap := h4 } := J0.landed nb fl4.1 ((up.trans up3).trans up4) os ag
          obtain ⟨o4, _, g4, z4, dd4⟩ := fl4.there
          refine wpAny_mono ((su a o4 cls d (X.pn ++ pins) z4 ⟨_, dd4⟩).run [] _ _ J _ (J4.suite g4 dd4 na nL nF) (yes rfl a na)) (fun f s6 q6 => ?_) fun _ _ z => z.elim
          cases f <;> first | exact let ⟨_, _, S6, q⟩ := q6; ⟨_, _, S6.unsuite iok, q⟩ | exact let ⟨_, _, _, S6, r6, q⟩ := q6; ⟨_, _, _, S6.unsuite iok, r6, q⟩
      | @named x n i c ts b₀ bs p q hs' l' nm hN hi hk su r ih =>
        intro ⟨b, eb, yes, no⟩
        refine wpAny_handleBy_cons (codeAny_handlers_test (nam nm ((exm_one (M := model X.prog X.w) J3.kIn look eb).here ?_))) (fun q => nomatch q)
        cases b with
        | false => exact ih (no rfl)
        | true =>
          refine codeAny_handlers_suite_as (HandSPX.lands_againZ fl fun h4 fl4 up4 => ?_)
          have J4 : Inv X pins τ J { s' with heap := h4 } := J0.landed nb fl4.1 ((up.trans up3).trans up4) os ag
          obtain ⟨o4, _, g4, z4, dd4⟩ := fl4.there
          refine store_ok (X := X.suite a ((a, o4) :: (X.pn ++ pins))) (v := .ref a) (J4.suite g4 dd4 na nL nF) hN hi (.inl hk) rfl (fun s5 S5 => ?_) (.inr hk)
          refine wpAny_mono ((su a o4 cls d (X.pn ++ pins) z4 ⟨_, dd4⟩).run [] s5 _ J _ S5 (yes rfl a na)) (fun f s6 q6 => ?_) fun _ _ z => z.elim
          cases f <;> first | exact let ⟨_, _, S6, q⟩ := q6; gone_ok (S6.unsuite iok) hN hi hk fun s7 J7 => ⟨_, _, J7, q⟩ | exact let ⟨_, _, _, S6, r6, q⟩ := q6; gone_ok (S6.unsuite iok) hN hi hk fun s7 J7 => ⟨_, _, _, J7, r6, q⟩
    exact go hc w
  · cases f with
    | next => exact let ⟨_, _, J, q⟩ := hsp; wpAny_execs_nil ⟨_, _, J.ofTry iok, q⟩
    | ret u => exact let ⟨_, _, _, J, r, q⟩ := hsp; ⟨_, _, _, J.ofTry iok, r, q⟩
    | brk => exact let ⟨_, _, J, q⟩ := hsp; ⟨_, _, J.ofTry iok, q⟩
    | cont => exact let ⟨_, _, J, q⟩ := hsp; ⟨_, _, J.ofTry iok, q⟩⟩
end
/-! ### a def that calls what it got, within such a try -/
def foundG (n : Nat) : List (Addr × (Ex → SM)) → Ex → Option D
  | [], _ => none
  | k :: r, x => if x.C = k.1 then fdK (k.2 x (List.replicate n .no)) else foundG n r x
def foundM (n : Nat) (l : List (Addr × (Ex → SM))) : Ro → Option D
  | .ok d => some d
  | .exn x => foundG n l x
structure ClOk (K : Frag) (n : Nat) (k : Cl) (mh : Ex → SM) : Prop where
  go : ∀ {Q : VK} {cls : Value} {dd : Option Addr} {H1 : Hp} {U : Addr → Prop} {x : Ex} {z : D} {a : Addr} {σ : L2.St} {Dn : Ends}, UOk K H1 U → XRep K (Hm H1 U) x cls dd → fdK (mh x (List.replicate n .no)) = some z →
    (∀ u H2, LeT K H1 H2 → Rep K (Hm H2 U) z u → Q u H2) → σ.length = n → Dn.rt = Q → k.run a cls dd Dn σ H1
theorem ClOk.named {K : Frag} {n i : Nat} {c : Value} {ts : Addr → Value → Option Addr → TS} {mh : Ex → SM} (hh : HX K i ts mh) (hi : i < n) : ClOk K n ⟨c, some i, ts⟩ mh :=
  ⟨fun {Q cls dd H1 U x z a σ Dn} uo xr hz k hl hD => hx_end (n := n) (Q := Q) (F := fun _ => none) (th := ts) (mh := mh) (i := i) (a := a) (σ := σ.set i (some (.ref a)))
    (Dn := ⟨fun τ J => Dn.nx (τ.set i none) J, Dn.rt, fun τ J => Dn.bk (τ.set i none) J, fun τ J => Dn.ct (τ.set i none) J⟩) uo xr hz k (by rw [List.length_set]; exact hl) (List.getElem?_set_self (by omega)) hD⟩
theorem ClOk.bare {K : Frag} {n : Nat} {c : Value} {th : TS} {m : SM} (hh : SX K W0 th m) : ClOk K n ⟨c, none, fun _ _ _ => th⟩ (fun _ => m) :=
  ⟨fun {Q cls dd H1 U x z a σ Dn} uo _ hz k hl hD => show th Dn σ H1 from sx_end (th := th) (mh := m) (n := n) (Q := Q) uo hz k hl hD⟩
section
variable {X : Cx}
/-- try: y = a() / except C1 ..: .. return .. / except C2 ..: .. return .. / return y -/
theorem found_two {Ng : List Str} {x a y q : Str} {sg : Scope} {g C1 C2 : Addr} {cdg : Value} {e1 e2 : ExceptHandler} {k1 k2 : Cl} {m1 m2 : Ex → SM} {p1 p2 p3 p4 p7 p8 p9 : Pos} (o1 : ClOk X.K 3 k1 m1) (o2 : ClOk X.K 3 k2 m2) (c1 : k1.c = .ref C1) (c2 : k2.c = .ref C2)
    (hN : Ng.Nodup) (hl : Ng.length = 3) (h1 : Ng[1]? = some y) (h0 : ∀ f : Addr, L2.start Ng [V.ref f] = [some (.ref f), none, none])
    (x11 : exmOne X.K (.ref C1) (.ref C1) = some true) (x22 : exmOne X.K (.ref C2) (.ref C2) = some true) (x21 : exmOne X.K (.ref C2) (.ref C1) = some (decide (C2 = C1)))
    (hly : sg.names.lookup y = some .local) (hdy : (y == ("__debug__" : Str)) = false) (hcy : (y == ("__classdict__" : Str)) = false)
    (cl : ∀ (s : Shared) (H : Hp), Cls (cxOf C8.CX0 X.prog X.w X.K X.mg X.base Ng x sg g cdg X.A X.stack s H C8.E0).nox [e1, e2] [k1, k2]) :
    LamX.GivesTo X Ng x sg g cdg [.Try [.Assign [.Name y p1] (.Call (.Name a p2) [] [] p3) p4] [e1, e2] [] [] p7, .Return (some (.Name y p8)) p9] a q (TTf X.K (foundM 3 [(C1, m1), (C2, m2)])) := by
  intro f c' s H Q tl act hc h
  refine ⟨_, pss_cons (ps_try_cls (X := (cxOf C8.CX0 X.prog X.w X.K X.mg X.base Ng x sg g cdg X.A X.stack s H C8.E0).nox) (Wt := fun _ _ _ _ => False)
      (tb := fun W D σ H => σ[0]? = some (some (.ref f)) ∧ H c' = some (LamX.CodeO c' q) ∧ tl (fun cls d H' => ∀ τ : L2.St, τ.length = 3 → W cls d τ H') H fun v H1 => D.nx (σ.set 1 (some v)) H1)
      rfl rfl LamX.takes0 (fun W pn xe tk _ => ?_) (cl s H)) (pss_one (ps_ret (pe_var (i := 1) h1 (.inl hly) hdy hcy))), ?_⟩
  · refine ⟨fun pins s' σ H' D I h' => ?_⟩
    have hp := act _ pn xe (fun cls d H' => ∀ τ : L2.St, τ.length = 3 → W cls d τ H') p2 p3 (Takes.atLen (n := 3) tk hl) fun cls d τ H' z hl => z τ hl
    exact (pss_one (ps_asg (pos := p4) hp (pg_name (pos := p1) hN h1 (.inl hly)))).run pins s' σ H' D I h'
  · refine ⟨by rw [h0]; rfl, hc, h _ _ (fun cls dd H1 ⟨U, x, z, uo, xr, hz, k⟩ τ hl' => ?_) (fun v H1 ⟨U, d, z, uo, r, hz, k⟩ => ?_)⟩
    · have hz : (if x.C = C1 then fdK (m1 x (List.replicate 3 .no)) else if x.C = C2 then fdK (m2 x (List.replicate 3 .no)) else none) = some z := hz
      by_cases w : x.C = C1
      · rw [if_pos w] at hz
        exact ⟨true, by rw [xr.1, w, c1]; exact x11, fun _ a na => o1.go uo xr hz k hl' rfl, fun z => by cases z⟩
      · rw [if_neg w] at hz
        by_cases w2 : x.C = C2
        · rw [if_pos w2] at hz
          refine ⟨false, by rw [xr.1, w2, c1]; exact x21.trans (by rw [decide_eq_false (fun e => w (w2.trans e))]), (fun z => nomatch z), fun _ => ?_⟩
          exact ⟨true, by rw [xr.1, w2, c2]; exact x22, fun _ a na => o2.go uo xr hz k hl' rfl, fun z => by cases z⟩
        · rw [if_neg w2] at hz; cases hz
    · cases hz
      refine ⟨v, ?_, k v H1 ⟨Le.rfl, uo.tab⟩ r⟩
      rw [h0]
      rfl
end
end DL
set_option linter.all false
set_option autoImplicit false
set_option maxRecDepth 100000
set_option maxHeartbeats 2000000
/-! DxV: min of a list of tuples of ints. -/
namespace DL
open PySem PySem.Spec L2 PyProof.Rows PySem.W
theorem best_least {bt : Nat → Nat → Bool} (irr : ∀ i, bt i i = false) (tr : ∀ i j k, bt i j = true → bt j k = true → bt i k = true) : ∀ n j, j ≤ n → bt j (argBest bt n) = false
  | 0, j, h => by rw [show j = 0 by omega]; exact irr 0
  | n + 1, j, h => by
    have ih := best_least irr tr n
    unfold argBest
    by_cases q : bt (n + 1) (argBest bt n) = true
    · rw [if_pos q]
      by_cases w : j = n + 1
      · rw [w]; exact irr _
      · cases z : bt j (n + 1) with
        | false => rfl
        | true => exact absurd (tr _ _ _ z q) (by rw [ih j (by omega)]; exact Bool.false_ne_true)
    · rw [if_neg q]
      by_cases w : j = n + 1
      · rw [w]; exact Bool.eq_false_iff.mpr q
      · exact ih j (by omega)
theorem best_le {bt : Nat → Nat → Bool} : ∀ n, argBest bt n ≤ n
  | 0 => Nat.le_refl _
  | n + 1 => by
    unfold argBest
    split
    · exact Nat.le_refl _
    · exact Nat.le_succ_of_le (best_le n)
theorem vals_get : ∀ {xs : List V} {us : List Value} {i : Nat} {u : Value}, Vals xs us → us[i]? = some u → ∃ x, xs[i]? = some x ∧ RelV x u
  | _, _, _, _, .nil, e => by simp at e
  | _, _, 0, _, .cons h _, e => by simp at e; subst e; exact ⟨_, rfl, h⟩
  | _, _, i + 1, _, .cons _ t, e => by
    obtain ⟨x, a, b⟩ := vals_get (i := i) t (by simpa using e)
    exact ⟨x, by simpa using a, b⟩
def rMinT (K : Frag) : List V → Hp → VK → Prop := fun vs H Q => ∃ (a : Addr) (xs : List V) (ks : Nat → List Int), vs = [V.ref a] ∧ SqL K H a xs ∧ xs ≠ [] ∧ (∀ i x, xs[i]? = some x → ∃ t, x = V.ref t ∧ SqT K H t ((ks i).map V.int)) ∧
  ∀ i x, xs[i]? = some x → (∀ j, j < xs.length → HT.lexLt (ks j) (ks i) = false) → Q x H
theorem cr_minT {X : Cx} (hc : X.calm = true) (hu : X.A.units + 1 < cLine) : CallR X (.builtin "min") (rMinT X.K) := by
  intro pins s σ H vs us Q I r h
  obtain ⟨a, xs, ks, rfl, hs, hne, hx, q⟩ := h
  obtain ⟨its, rv, hli, hz⟩ := I.list hs
  rw [Vals.ref1 r]
  have hlen : xs.length = its.length := rv.length
  have hp : 0 < xs.length := List.length_pos_iff.mpr hne
  refine call_min_walkH (iter_listW (A := X.A.in1) (I.ok.hd hc) hli.isList fun s₂ e W st hfp hw hk => ?_)
  refine ⟨_, _, _, _, _, _, _, s.heap, (fun i j => HT.lexLt (ks i) (ks j)), rfl, W, st, hfp, by rw [List.size_toArray]; omega, hw, hk, ?_, fun v s' hP m => ?_⟩
  · intro i j vi vj t Q E kp hi hj hq
    rw [List.getElem?_toArray] at hi hj
    obtain ⟨x, e1, r1⟩ := vals_get rv hi
    obtain ⟨y, e2, r2⟩ := vals_get rv hj
    obtain ⟨tx, rfl, sx⟩ := hx i x e1
    obtain ⟨ty, rfl, sy⟩ := hx j y e2
    cases r1
    cases r2
    obtain ⟨ix, rx, px, _⟩ := I.tuple sx
    obtain ⟨iy, ry, py, _⟩ := I.tuple sy
    have kt : ∀ {b : Addr} {z : Array Value}, IsTup s.heap b z → IsTup t.heap b z := fun ⟨o, ho, r⟩ => ⟨o, kp _ _ ho, r⟩
    exact HT.lt_tupInts (kt px) (kt py) (intsAre_of rx) (intsAre_of ry) hu hq
  · obtain ⟨h', tk, rfl, hk'⟩ := moved_old e rfl m
    rw [List.getElem?_toArray] at hP
    obtain ⟨x, e1, r1⟩ := vals_get rv hP
    refine ⟨x, H, I.kept hk', r1, q _ x e1 fun j hj => ?_⟩
    rw [List.size_toArray] at *
    refine best_least (bt := fun i j => HT.lexLt (ks i) (ks j)) (fun i => ?_) (fun i j k a b => lex_tr _ _ _ a b) (its.length - 1) j (by omega)
    cases z : HT.lexLt (ks i) (ks i) with
    | false => rfl
    | true => have := lex_asym _ _ z; rw [z] at this; cases this
def minTD : List D → Option D
  | [.lst xs] => (match tupsI xs with
    | some (k :: r) => some (tD ((srtS HT.lexLt (k :: r)).headD []))
    | _ => none)
  | _ => none
theorem srt_head {k : List Int} {ks : List (List Int)} (hk : k ∈ ks) (h : ∀ j ∈ ks, HT.lexLt j k = false) : (srtS HT.lexLt ks).headD [] = k := by
  have so := srtS_sorted tot_L ks
  have sp := srtS_perm (lt := HT.lexLt) ks
  cases e : srtS HT.lexLt ks with
  | nil =>
    rw [e] at sp
    have := sp.mem_iff.mpr hk
    cases this
  | cons a r =>
    rw [e] at so sp
    show a = k
    have ha : a ∈ ks := sp.mem_iff.mp List.mem_cons_self
    rcases List.mem_cons.mp (sp.mem_iff.mpr hk) with w | w
    · exact w.symm
    · exact tot_L.tot _ _ (h a ha) ((List.pairwise_cons.mp so).1 k w)
instance (K : Frag) : OpL K (rMinT K) minTD := ⟨fun H U vs as z Q hU r e h => by
  cases r with
  | nil => cases e
  | cons ra rr =>
    cases rr with
    | cons _ _ => cases ra <;> cases e
    | nil =>
      cases ra with
      | @lst a ws xs s q =>
        unfold minTD at e
        cases e2 : tupsI xs with
        | none => simp only [e2] at e; cases e
        | some l =>
          cases l with
          | nil => simp only [e2] at e; cases e
          | cons k0 ks =>
            simp only [e2, Option.some.injEq] at e
            subst e
            obtain ⟨ex, hne⟩ := tupsI_eq e2
            subst ex
            have s' := (Hm_some.mp s).2
            have hl : ws.length = (k0 :: ks).length := by rw [← q.length, List.length_map]
            have at_ : ∀ i x, ws[i]? = some x → ∃ t, x = V.ref t ∧ H t = some (.tup (((k0 :: ks).getD i []).map V.int)) ∧ Rep K (Hm H U) (tD ((k0 :: ks).getD i [])) x ∧ (k0 :: ks).getD i [] ∈ k0 :: ks := fun i x hx => by
              have hi : i < (k0 :: ks).length := by rw [← hl]; exact (List.getElem?_eq_some_iff.mp hx).1
              have e3 : ((k0 :: ks).map tD)[i]? = some (tD ((k0 :: ks).getD i [])) := by
                rw [List.getElem?_map, List.getD_eq_getElem?_getD, List.getElem?_eq_getElem hi]
                rfl
              obtain ⟨v, e4, r4⟩ := q.get e3
              rw [hx] at e4
              cases e4
              have mem : (k0 :: ks).getD i [] ∈ k0 :: ks := by
                rw [List.getD_eq_getElem?_getD, List.getElem?_eq_getElem hi]
                exact List.getElem_mem hi
              generalize (k0 :: ks).getD i [] = kk at r4 mem
              cases id r4 with
              | @tup t vs _ ht rt =>
                have := reps_ints rt
                subst this
                exact ⟨t, rfl, (Hm_some.mp ht).2, r4, mem⟩
            refine ⟨a, ws, fun i => (k0 :: ks).getD i [], rfl, SqL.of s', (fun z => by rw [z] at hl; exact nomatch hl), fun i x hx => ?_, fun i x hx mn => ?_⟩
            · obtain ⟨t, e3, e4, _⟩ := at_ i x hx
              exact ⟨t, e3, SqT.of e4⟩
            · obtain ⟨t, e3, e4, e5, e6⟩ := at_ i x hx
              refine h x H (Same.refl _) ?_
              rw [srt_head e6 fun j hj => ?_]
              · exact e5
              · obtain ⟨n, hn, e7⟩ := List.mem_iff_getElem.mp hj
                have w : HT.lexLt ((k0 :: ks).getD n []) ((k0 :: ks).getD i []) = false := mn n (by rw [hl]; exact hn)
                have ej : (k0 :: ks).getD n [] = j := by
                  rw [List.getD_eq_getElem?_getD, List.getElem?_eq_getElem hn]
                  exact e7
                rw [ej] at w
                exact w
      | _ => cases e⟩
theorem kcr_minT {X : Cx} (K : Frag) (hu : X.A.units + 1 < cLine) (hc : X.calm = true := by rfl) (h : X.K = K := by rfl) : CallR X (.builtin "min") (rMinT K) := h ▸ cr_minT hc hu
theorem min_tups {k : List Int} {ks : List (List Int)} (h : ∀ j ∈ k :: ks, j ≠ []) (e : tupsI ((k :: ks).map tD) = some (k :: ks)) : minTD [.lst ((k :: ks).map tD)] = some (tD ((srtS HT.lexLt (k :: ks)).headD [])) := by
  unfold minTD
  simp only [e]
end DL
set_option linter.all false
set_option autoImplicit false
set_option maxRecDepth 100000
set_option maxHeartbeats 2000000
/-! DxW: sorted of tuples of ints of which the first is empty. -/
namespace DlSortE
open PySem PySem.Spec PyProof.Rows Srt SrtO PySem.W
section
variable {prog : Program} {w : World} {A : Around} {E : Value → Shared → Prop} {s : Shared}
abbrev IsIT := DlSort.IsIT
theorem it_type {M : Model} {h : Heap} {v : Value} {ns : List Int} (x : IsIT h v ns) : Looks M h (typeOf v) (.type "tuple") := by
  obtain ⟨a, o, its, n, rfl, ho, hc, _, _⟩ := x
  rw [← hc]
  exact (Looks.ld ho).andThen .now
theorem lt_call {a b : Addr} {da db : Option Addr} {ia ib : Array Value} {na nb : Nat} {la lb : Array (Option Value)} {ns ms : List Int} {Q : Value → Shared → Prop} (ga : s.heap.get? a = some ⟨.type "tuple", da, .seq ia na, la⟩) (gb : s.heap.get? b = some ⟨.type "tuple", db, .seq ib nb, lb⟩)
    (ja : IntsAre ia.toList ns) (jb : IntsAre ib.toList ms) (iv : Looks (model prog w) s.heap (isInstance (.ref a) (.type "tuple")) true) (iu : ∀ M : Model, Looks M s.heap (isInstance (.ref b) (.type "tuple")) true) (h : Q (.bool (HT.lexLt ns ms)) s) :
    wpAny (model prog w) A (call (.builtin "tuple.__lt__") [.ref a, .ref b]) Q E s := by
  refine wpAny_call (codeAny_call_builtin PySem.F.slot_tuple_lt.plain PySem.F.entry_tuple_lt (@check_slot (model prog w) _ _ _ "tuple.__lt__" "tuple" "__lt__" (.ref a) [.ref b] [] _ (by decide +kernel) (by decide +kernel) iv (PySem.F.args_tuple_lt_2 _ _) (wpAny_mono (NtL.nt_lt_ints a b (.type "tuple") (.type "tuple") ia ib na nb da db la lb ns ms ja jb prog w _ (wants Q E) s ⟨ga, gb, iu, h⟩) (fun fin s' q => ?_) fun _ _ z => z)))
  cases fin <;> exact q
theorem lt_it {v u : Value} {ns ms : List Int} {Q : Bool → Shared → Prop} (hu : A.units < cLine) (hv : IsIT s.heap v ns) (hw : IsIT s.heap u ms) (h : Q (HT.lexLt ns ms) s) : wpAny (model prog w) A (keyLt' oneType' v u) Q E s := by
  have tup : isSubtype (.type "tuple") (.type "tuple") = pure true := by rw [isSubtype_type]; kernel_rfl
  have tv : Looks (model prog w) s.heap (typeOf v) (.type "tuple") := it_type hv
  have sp : Looks (model prog w) s.heap (specialOf v "__lt__") (some (.builtin "tuple.__lt__")) := tv.andThen (Looks.of_pure PySem.F.slot_tuple_lt.lookup)
  have iv : Looks (model prog w) s.heap (isInstance v (.type "tuple")) true := tv.andThen (Looks.of_pure tup)
  have iu : ∀ M : Model, Looks M s.heap (isInstance u (.type "tuple")) true := fun M => (it_type (M := M) hw).andThen (Looks.of_pure tup)
  obtain ⟨a, ⟨ca, da, xa, la⟩, ia, na, rfl, ga, ka, ea, ja⟩ := hv
  obtain ⟨b, ⟨cb, db, xb, lb⟩, ib, nb, rfl, gb, kb, eb, jb⟩ := hw
  simp only at ka ea kb eb
  subst ka ea kb eb
  rw [keyLt'_oneType, oneLt'_eq]
  simp only [if_true]
  exact wpAny_bind (wpAny_cRoomFor hu (wpAny_bind (NtL.csib (E := E) sp (PySem.F.slot_tuple_lt.bind _) (lt_call ga gb ja jb iv iu (wpAny_truthy_bool h)))))
theorem it_cmp {vs : List Value} {k : Value → List Int} (hu : A.units < cLine) (hp : ∀ v ∈ vs, IsIT s.heap v (k v)) : Cmp prog w A s oneType' (fun p => p.1 ∈ vs) (lt2 fun v u => HT.lexLt (k v) (k u)) := fun p q hm hm' =>
  lt_it (Q := fun r s' => s' = s ∧ r = HT.lexLt (k p.1) (k q.1)) (E := fun _ _ => False) hu (hp _ hm) (hp _ hm') ⟨rfl, rfl⟩
theorem it_first {M : Model} {v : Value} {ns : List Int} {Q : Option Value → Shared → Prop} (x : IsIT s.heap v ns) (h : ∀ o : Option Value, (o.isSome = !ns.isEmpty) → Q o s) : wpAny M A (firstOfTuple' v) Q E s := by
  have t : Looks M s.heap (typeOf v) (.type "tuple") := it_type x
  obtain ⟨a, o, its, n, rfl, ho, hc, hd, hi⟩ := x
  rw [kas_first_eq]
  refine wpAny_bind (t.here ?_)
  rw [if_neg (by first | decide | simp)]
  refine wpAny_bind (listItems_at ho hd (wpAny_pure (h _ ?_)))
  obtain ⟨l⟩ := its
  cases hi with
  | nil => rfl
  | cons _ _ _ => rfl
theorem it_firsts {M : Model} {k : Value → List Int} : ∀ (vs : List Value) {Q : List (Option Value) → Shared → Prop}, (∀ v ∈ vs, IsIT s.heap v (k v)) → (∀ os : List (Option Value), os.map Option.isSome = vs.map (fun v => !(k v).isEmpty) → Q os s) → wpAny M A (vs.mapM firstOfTuple') Q E s
  | [], _, _, h => by rw [List.mapM_nil]; exact wpAny_pure (h [] rfl)
  | v :: vs, Q, hp, h => by
    rw [List.mapM_cons]
    refine wpAny_bind (it_first (hp v List.mem_cons_self) fun o ho => ?_)
    refine wpAny_bind (it_firsts vs (fun u hu => hp u (List.mem_cons_of_mem _ hu)) fun os hos => wpAny_pure (h _ ?_))
    rw [List.map_cons, List.map_cons, ho, hos]
theorem it_kind {M : Model} {v₀ : Value} {vs : List Value} {k : Value → List Int} {Q : SortKind → Shared → Prop} (hp : ∀ v ∈ v₀ :: vs, IsIT s.heap v (k v)) (h0 : k v₀ = []) (h : Q oneType' s) : wpAny M A (keyKind' (v₀ :: vs).toArray) Q E s := by
  rw [keyKind'_eq, List.mapM_toArray, map_eq_pure_bind]
  refine wpAny_bind (wpAny_bind (it_firsts (k := k) (v₀ :: vs) hp fun os hos => wpAny_pure ?_))
  cases os with
  | nil => cases hos
  | cons o os =>
    rw [List.map_cons, List.map_cons, h0] at hos
    have ho : o.isSome = false := (List.cons.inj hos).1
    have hn : o = none := by
      cases o with
      | none => rfl
      | some _ => cases ho
    subst hn
    rw [if_neg (by simp), if_neg (by simp)]
    rw [oneTypeOnly'_eq, List.mapM_toArray, map_eq_pure_bind]
    refine wpAny_bind (wpAny_bind (wpAny_bind (kas_mapM (r := .type "tuple") _ (fun v hv Q' hq => (it_type (hp v hv)).here hq) (wpAny_pure ?_))))
    have e0 : ((v₀ :: vs).map fun _ => Value.type "tuple").toArray[0]? = some (.type "tuple") := by simp
    have e1 : (((v₀ :: vs).map fun _ => Value.type "tuple").toArray.all fun x => x == .type "tuple") = true := by
      simp only [List.all_toArray, List.all_map, List.all_eq_true]
      intro _ _
      rfl
    rw [e0]
    simp only [e1, if_true]
    exact wpAny_pure (wpAny_pure h)
theorem sorted_tupsE {l : Addr} {v₀ : Value} {vs : List Value} {k : Value → List Int} {Q : Value → Shared → Prop} (hu : A.units + 2 < cLine) (hl : s.heap.IsList l (v₀ :: vs).toArray) (hz : (v₀ :: vs).length ≤ sizeLine) (hp : ∀ v ∈ v₀ :: vs, IsIT s.heap v (k v)) (h0 : k v₀ = [])
    (h : ∀ (h' : Heap) (d : Addr) (out : List Value), Srtd (fun v u => HT.lexLt (k v) (k u)) out → out.Perm (v₀ :: vs) → (∀ b o, s.heap.get? b = some o → h'.get? b = some o) → s.heap.objs.size ≤ d → (∃ n, h'.get? d = some (seqObj "list" out.toArray n)) → Q (.ref d) { s with heap := h' }) :
    wpAny (model prog w) A (call (.builtin "sorted") [.ref l]) Q E s := by
  refine sorted_ord (DlSort.swo_tup k) hl hz (fun h2 h₁ a ha kk => ?_) fun out hs hb => ?_
  · intro h' keep
    have hp' : ∀ v ∈ v₀ :: vs, IsIT h' v (k v) := fun v hm => (hp v hm).keeps fun b o e c => by
      obtain ⟨n1, e1⟩ := kk b o e
      exact keep b o n1 e1
    refine ⟨oneType', fun Q E hq => it_kind (s := { s with heap := h' }) hp' h0 hq, it_cmp (s := { s with heap := h' }) ?_ hp'⟩
    show A.in1.in1.units < cLine
    exact hu
  · exact h _ _ out hs hb.perm (fun b o e => sortedAll_old e) (Nat.le_succ _) (sortedAll_at s.heap (v₀ :: vs) out.toArray)
end
end DlSortE

namespace DL
open PySem PySem.Spec L2
def rSortedTE (K : PySem.W.Frag) : List V → Hp → VK → Prop := fun vs H Q => ∃ (a : Addr) (x₀ : V) (xs : List V), vs = [V.ref a] ∧ SqL K H a (x₀ :: xs) ∧ (∀ x ∈ x₀ :: xs, ∃ (t : Addr) (ns : List Int), x = V.ref t ∧ H t = some (.tup (ns.map V.int))) ∧ kH H x₀ = [] ∧
  ∀ ys p, SortedS (fun x y => HT.lexLt (kH H x) (kH H y)) ys → ys.Perm (x₀ :: xs) → H p = none → Q (.ref p) (upd H p (.lst ys))
theorem cr_sortedTE {X : Cx} (hu : X.A.units + 2 < cLine) : CallR X (.builtin "sorted") (rSortedTE X.K) := by
  intro pins s σ H vs us Q I r h
  obtain ⟨a, x₀, xs, rfl, hs, hx, h0, q⟩ := h
  obtain ⟨its, rv, hl, hz⟩ := I.list hs
  obtain ⟨u, rfl, ru⟩ := vals1 r
  obtain rfl : u = Value.ref a := ru
  obtain ⟨e1, e2⟩ := refs_back rv fun x m => let ⟨t, _, e, _⟩ := hx x m; ⟨t, e⟩
  have hlen := rv.length
  cases its with
  | nil => cases hlen
  | cons v₀ vr =>
    rw [List.map_cons] at e1
    obtain ⟨e3, e4⟩ := List.cons.inj e1
    refine DlSortE.sorted_tupsE (k := fun u => kH H (backV u)) hu hl.isList (by rw [← rv.length]; exact hz) (fun v hv => ?_) (by rw [← e3]; exact h0) fun h' d out h1 h2 kp hd hn => ?_
    · obtain ⟨t, rfl⟩ := e2 v hv
      have hm : V.ref t ∈ x₀ :: xs := by rw [e1]; exact List.mem_map.mpr ⟨_, hv, rfl⟩
      obtain ⟨t', ns, e, ht⟩ := hx _ hm
      cases e
      obtain ⟨_, its2, r2, o, ho, hc, n, hd⟩ := I.hok _ _ ht
      refine ⟨t, o, its2.toArray, n, rfl, ho, hc, hd, ?_⟩
      show PyProof.Rows.IntsAre _ (kH H (V.ref t))
      rw [kH_at ht]
      exact intsAre_of r2
    · have h3 : ∀ u ∈ out, ∃ a, u = Value.ref a := fun u hu => e2 u (h2.mem_iff.mp hu)
      obtain ⟨n, hn⟩ := hn
      have hb : (out.map backV).Perm (x₀ :: xs) := by
        rw [e1]
        exact h2.map backV
      exact ⟨.ref d, upd H d (.lst (out.map backV)), I.laid (t' := s.toks) kp hd ⟨by rw [hb.length_eq]; exact hz, out, n, vals_back h3, hn⟩, rfl, q _ d (List.pairwise_map.mpr h1) hb (I.hok.fresh hd)⟩
def tupsE : List D → Option (List (List Int))
  | [] => some []
  | d :: r => match tupI d, tupsE r with
    | some k, some q => some (k :: q)
    | _, _ => none
theorem tupsE_eq : ∀ {xs : List D} {ks : List (List Int)}, tupsE xs = some ks → xs = ks.map tD
  | [], ks, h => by cases h; rfl
  | d :: r, ks, h => by
    unfold tupsE at h
    cases e1 : tupI d with
    | none => simp only [e1] at h; cases h
    | some k =>
      cases e2 : tupsE r with
      | none => simp only [e1, e2] at h; cases h
      | some q =>
        simp only [e1, e2, Option.some.injEq] at h
        subst h
        rw [List.map_cons, ← tupsE_eq e2]
        cases d with
        | tup ys => rw [show D.tup ys = tD k from by unfold tD; rw [← intsD_eq e1]]
        | _ => cases e1
theorem tupsE_map : ∀ ks : List (List Int), tupsE (ks.map tD) = some ks
  | [] => rfl
  | k :: r => by
    have im : ∀ ns : List Int, intsD (ns.map D.int) = some ns := by
      intro ns
      induction ns with
      | nil => rfl
      | cons a r ih =>
        rw [List.map_cons]
        unfold intsD
        rw [ih] <;> rfl
    rw [List.map_cons]
    unfold tupsE
    rw [tupsE_map r, show tupI (tD k) = some k from im k]
def sortDE : List D → Option MO := fun as => match sortD as with
  | some m => some m
  | none => match as with
    | [.lst xs] => (match tupsE xs with
      | some ([] :: ks) => some (.lst ((srtS HT.lexLt ([] :: ks)).map tD))
      | _ => none)
    | _ => none
def rSortE (K : PySem.W.Frag) : List V → Hp → VK → Prop := fun vs H Q => rSortA K vs H Q ∨ rSortedTE K vs H Q
instance sortE_nx (K : PySem.W.Frag) : OpLN K (rSortE K) sortDE := ⟨fun H U vs as z Q hu r e h => by
  unfold sortDE at e
  cases e0 : sortD as with
  | some m =>
    simp only [e0, Option.some.injEq] at e
    subst e
    exact .inl ((sort_nx K).ok H U vs as m Q hu r e0 h)
  | none =>
    simp only [e0] at e
    cases r with
    | nil => cases e
    | cons ra rr =>
      cases rr with
      | cons _ _ => cases ra <;> cases e
      | nil =>
        cases ra with
        | @lst a ws xs s q =>
          cases e2 : tupsE xs with
          | none => simp only [e2] at e; cases e
          | some kl =>
            cases kl with
            | nil => simp only [e2] at e; cases e
            | cons k0 ks =>
              cases k0 with
              | cons _ _ => simp only [e2] at e; cases e
              | nil =>
                simp only [e2, Option.some.injEq] at e
                subst e
                have ex := tupsE_eq e2
                subst ex
                obtain ⟨h1, h2⟩ := reps_tups Hm_le q
                have s' := (Hm_some.mp s).2
                cases ws with
                | nil => cases h1
                | cons x₀ wr =>
                  rw [List.map_cons] at h1
                  refine .inr ⟨a, x₀, wr, rfl, SqL.of s', fun x hx => ?_, (List.cons.inj h1).1.symm, fun ys p p1 p2 n => ?_⟩
                  · obtain ⟨t, ns, e3, e4, _⟩ := h2 x hx
                    exact ⟨t, ns, e3, e4⟩
                  · have e3 : ys.map (kH H) = srtS HT.lexLt ([] :: ks) := sorted_one tot_L (List.pairwise_map.mpr p1) (srtS_sorted tot_L _) (by rw [h1, ← List.map_cons]; exact (p2.map _).trans (by rw [List.map_cons, ← h1]; exact (srtS_perm _).symm))
                    refine h p _ n ⟨ys, rfl, ?_⟩
                    rw [← e3]
                    exact reps_back Hm_le fun v hv => h2 v (p2.mem_iff.mp hv)
        | _ => cases e⟩
instance sortE_ex {K : PySem.W.Frag} {W : WX} {tr : TA} {mr : AM} [ha : AX K W tr mr] : EX K W (tCB (rSortE K) tr) (cFz (cCBN sortDE mr)) := (cb_nx).ex
theorem kcr_sortE {X : Cx} (K : PySem.W.Frag) (hu : X.A.units + 4 < cLine) (h : X.K = K := by rfl) : CallR X (.builtin "sorted") (rSortE K) := h ▸ fun pins s σ H xs us Q I r h => h.elim (cr_sortA pins s σ H xs us Q I r) (cr_sortedTE (by omega) pins s σ H xs us Q I r)
end DL
set_option linter.all false
set_option autoImplicit false
set_option maxRecDepth 100000
set_option maxHeartbeats 2000000
/-! DxX: isinstance of an own class, and of what may be an instance; t == (); three names at once, the first of them owned. -/
namespace DL
open PySem PySem.Spec L2
/-! ### isinstance -/
def bNames : List String := ["NoneType", "bool", "int", "str", "tuple", "list", "dict"]
def tNames : List String := ["int", "bool", "str", "tuple", "list"]
/-- what isinstance asks of an own class -/
class IsC (K : PySem.W.Frag) (C : Addr) : Prop where
  cls : L2.Cls K C
  ha : PySem.W.findIn K (.ref C) "__class__" = some (some (.builtin "object.__class__"))
  hn : PySem.W.specialIn K (.builtin "object.__class__") "__get__" = some (some (.builtin "getset_descriptor.__get__"))
  htk : PySem.W.takesIn K (.builtin "object.__class__") = some true
  hm : PySem.W.mroIn K C (.type "object") = some true
  self : PySem.W.kitOne K (.ref C) (.ref C) = some true
  own : ∀ n ∈ bNames, PySem.W.kitOne K (.type n) (.ref C) = some false
  ty : ∀ n ∈ tNames, PySem.W.kitOne K (.ref C) (.type n) = some false
def isCB (K : PySem.W.Frag) (C : Addr) : Bool :=
  decide (PySem.W.findIn K (.ref C) "__class__" = some (some (.builtin "object.__class__"))) && (decide (PySem.W.specialIn K (.builtin "object.__class__") "__get__" = some (some (.builtin "getset_descriptor.__get__"))) &&
    (decide (PySem.W.takesIn K (.builtin "object.__class__") = some true) && (decide (PySem.W.mroIn K C (.type "object") = some true) && (decide (PySem.W.kitOne K (.ref C) (.ref C) = some true) &&
      ((bNames.all fun n => decide (PySem.W.kitOne K (.type n) (.ref C) = some false)) && (tNames.all fun n => decide (PySem.W.kitOne K (.ref C) (.type n) = some false)))))))
theorem isC_of {K : PySem.W.Frag} {C : Addr} (cl : L2.Cls K C) (h : isCB K C = true) : IsC K C := by
  unfold isCB at h
  simp only [Bool.and_eq_true, decide_eq_true_eq, List.all_eq_true] at h
  obtain ⟨h1, h2, h3, h4, h5, h6, h7⟩ := h
  exact ⟨cl, h1, h2, h3, h4, h5, h6, h7⟩
def isCD (C : Addr) : D → Option Bool
  | .ins C' _ _ => if C' = C then some true else none
  | .ext _ => none
  | .exv _ _ _ => none
  | _ => some false
def cIsC (C : Addr) (m : EM) : EM := fun sl => (m sl).bind fun d s => ofO ((isCD C d).map D.bl) s
def tyW (C : Addr) (d : D) (l : List String) : Option Bool := match d with
  | .ins C' _ _ => if C' = C then some false else none
  | d => tyB d l
def cIs1W (C : Addr) (n : String) (m : EM) : EM := fun sl => (m sl).bind fun d s => ofO ((tyW C d [n]).map D.bl) s
def cIs2W (C : Addr) (n1 n2 : String) (m : EM) : EM := fun sl => (m sl).bind fun d s => ofO ((tyW C d [n1, n2]).map D.bl) s
theorem tyN_mem {d : D} {b : Bool} {l : List String} (h : tyB d l = some b) : tyN d ∈ bNames := by
  cases d with
  | ins _ _ _ => cases h
  | ext _ => cases h
  | exv _ _ _ => cases h
  | non => exact (by decide : "NoneType" ∈ bNames)
  | bl _ => exact (by decide : "bool" ∈ bNames)
  | int _ => exact (by decide : "int" ∈ bNames)
  | str _ => exact (by decide : "str" ∈ bNames)
  | tup _ => exact (by decide : "tuple" ∈ bNames)
  | lst _ => exact (by decide : "list" ∈ bNames)
  | dK _ _ => exact (by decide : "dict" ∈ bNames)
  | dT _ _ => exact (by decide : "dict" ∈ bNames)
theorem rep_isC {K : PySem.W.Frag} {H : Hp} {C : Addr} [hc : IsC K C] {a dx : Addr} {fs : List (Str × V)} (e : H a = some (.ins C dx fs)) : TyX K H (.ref a) (.ref C) := .base (.ins e hc.cls hc.ha hc.hn hc.htk hc.hm)
def rIsiW (K : PySem.W.Frag) (_ : Addr) : List V → Hp → VK → Prop := rIsi K
def rIsiTW (K : PySem.W.Frag) (_ : Addr) : List V → Hp → VK → Prop := rIsiT K
class TyW (n : String) : Prop where
  mem : n ∈ tNames
instance : TyW "int" := ⟨by decide⟩
instance : TyW "bool" := ⟨by decide⟩
instance : TyW "str" := ⟨by decide⟩
instance : TyW "tuple" := ⟨by decide⟩
instance : TyW "list" := ⟨by decide⟩
section
variable {K : PySem.W.Frag} {W : WX} {ta : TE} {ma : EM}
instance isC_ex {C : Addr} [ha : EX K W ta ma] [hc : IsC K C] : EX K W (tCB (rIsi K) (tCons ta (tCons (tC (.ref C)) tNil))) (cIsC C ma) := ⟨fun c σ H sl Q s h => by
  refine ha.ok c σ H sl _ s (h.split.imp fun x H1 ⟨d, s1, _, i1, r1, l1, h1⟩ => ?_)
  by_cases hi : ∃ C' ns ds, d = .ins C' ns ds
  · obtain ⟨C', ns, ds, rfl⟩ := hi
    by_cases q : C' = C
    · subst q
      have e1 : isCD C' (.ins C' ns ds) = some true := if_pos rfl
      rw [e1] at h1
      cases r1 with
      | @ins a C' dx ns vs ds q l r =>
        exact ⟨.ref a, .ref C', .ref C', .ref C', true, rfl, .own C', rep_isC (Hm_some.mp q).2, hc.self, h1 _ H1 i1 (.bl true) Le.rfl⟩
    · have e1 : isCD C (.ins C' ns ds) = none := if_neg q
      rw [e1] at h1
      exact h1.elim
  · cases e : tyB d ["int"] with
    | none =>
      cases d with
      | ext _ => exact h1.elim
      | exv _ _ _ => exact h1.elim
      | ins C' ns ds => exact absurd ⟨C', ns, ds, rfl⟩ hi
      | _ => cases e
    | some b =>
      have e1 : isCD C d = some false := by
        cases d with
        | ext _ => cases e
        | exv _ _ _ => cases e
        | ins C' ns ds => exact absurd ⟨C', ns, ds, rfl⟩ hi
        | _ => rfl
      rw [e1] at h1
      exact ⟨x, .ref C, .type (tyN d), .ref C, false, rfl, .own C, rep_ty (r1.le Hm_le) e, hc.own _ (tyN_mem e), h1 _ H1 i1 (.bl false) Le.rfl⟩⟩
theorem tyW_or {C : Addr} {d : D} {l : List String} : (∃ ns ds, d = .ins C ns ds) ∨ (tyW C d l = tyB d l ∧ ¬ ∃ C' ns ds, d = .ins C' ns ds) ∨ tyW C d l = none := by
  cases d with
  | ins C' ns ds =>
    by_cases q : C' = C
    · subst q; exact .inl ⟨ns, ds, rfl⟩
    · exact .inr (.inr (if_neg q))
  | _ => exact .inr (.inl ⟨rfl, fun ⟨_, _, _, e⟩ => by cases e⟩)
instance is1W_ex {C : Addr} {n : String} [ha : EX K W ta ma] [hc : IsC K C] [hn : TyName n] [hw : TyW n] : EX K W (tCB (rIsiW K C) (tCons ta (tCons (tC (.ty n)) tNil))) (cIs1W C n ma) := ⟨fun c σ H sl Q s h => by
  refine ha.ok c σ H sl _ s (h.split.imp fun x H1 ⟨d, s1, _, i1, r1, l1, h1⟩ => ?_)
  rcases tyW_or (C := C) (d := d) (l := [n]) with ⟨ns, ds, rfl⟩ | ⟨e0, _⟩ | e0
  · have e1 : tyW C (.ins C ns ds) [n] = some false := if_pos rfl
    rw [e1] at h1
    cases r1 with
    | @ins a C' dx ns vs ds q l r =>
      exact ⟨.ref a, .ty n, .ref C, .type n, false, rfl, .ty n, rep_isC (Hm_some.mp q).2, hc.ty n hw.mem, h1 _ H1 i1 (.bl false) Le.rfl⟩
  · rw [e0] at h1
    cases e : tyB d [n] with
    | none => rw [e] at h1; exact h1.elim
    | some b =>
      rw [e] at h1
      exact ⟨x, .ty n, .type (tyN d), .type n, b, rfl, .ty n, rep_ty (r1.le Hm_le) e, kit_ty (hn.ok d b e), h1 _ H1 i1 (.bl b) Le.rfl⟩
  · rw [e0] at h1
    exact h1.elim⟩
instance is2W_ex {C : Addr} {n1 n2 : String} [ha : EX K W ta ma] [hc : IsC K C] [hn : TyName n1] [hn' : TyName n2] [hw : TyW n1] [hw' : TyW n2] : EX K W (tCB (rIsiTW K C) (tCons ta (tCons (tTup (tCons (tC (.ty n1)) (tCons (tC (.ty n2)) tNil))) tNil))) (cIs2W C n1 n2 ma) := ⟨fun c σ H sl Q s h => by
  refine ha.ok c σ H sl _ s (h.split.imp fun x H1 ⟨d, s1, _, i1, r1, l1, h1⟩ => ?_)
  refine ⟨by show 2 ≤ sizeLine; decide, fun p n => ?_⟩
  have i2 := i1.same (same_upd (o := .tup [.ty n1, .ty n2]) n)
  have l2 : Le (fz c s1 σ H1) (fz c s1 σ (upd H1 p (.tup [.ty n1, .ty n2]))) := fz_same (Le.of_same (same_upd n))
  rcases tyW_or (C := C) (d := d) (l := [n1, n2]) with ⟨ns, ds, rfl⟩ | ⟨e0, _⟩ | e0
  · have e1 : tyW C (.ins C ns ds) [n1, n2] = some false := if_pos rfl
    rw [e1] at h1
    have rr := r1.le l2
    cases rr with
    | @ins a C' dx ns vs ds q l r =>
      refine ⟨.ref a, p, [.ty n1, .ty n2], .ref C, [.type n1, .type n2], false, rfl, upd_same, .cons (.ty n1) (.cons (.ty n2) .nil), rep_isC (Hm_some.mp q).2, ?_, h1 _ _ i2 (.bl false) l2⟩
      refine kitAny_cons (hc.ty n1 hw.mem) (fun _ => ?_) (fun hb => by cases hb)
      refine kitAny_cons (hc.ty n2 hw'.mem) (fun _ => ?_) (fun hb => by cases hb)
      exact kitAny_nil
  · rw [e0] at h1
    cases e : tyB d [n1, n2] with
    | none => rw [e] at h1; exact h1.elim
    | some b =>
      rw [e] at h1
      obtain ⟨b1, b2, e1, e2, e3⟩ := tyB2 e
      have rr := (r1.le l2).le Hm_le
      refine ⟨x, p, [.ty n1, .ty n2], .type (tyN d), [.type n1, .type n2], b, rfl, upd_same, .cons (.ty n1) (.cons (.ty n2) .nil), rep_ty rr e, ?_, h1 _ _ i2 (.bl b) l2⟩
      refine kitAny_cons (kit_ty (hn.ok d b1 e1)) (fun hb => ?_) (fun hb => by rw [e3, hb, Bool.true_or])
      refine kitAny_cons (kit_ty (hn'.ok d b2 e2)) (fun hb2 => ?_) (fun hb2 => by rw [e3, hb2, Bool.or_true])
      rw [e3, hb, hb2]
      exact kitAny_nil
  · rw [e0] at h1
    exact h1.elim⟩
end
theorem kcr_isiW {X : Cx} (K : PySem.W.Frag) (C : Addr) (h : X.K = K := by rfl) : CallR X (.builtin "isinstance") (rIsiW K C) := h ▸ call_isi
theorem kcr_isiTW {X : Cx} (K : PySem.W.Frag) (C : Addr) (h : X.K = K := by rfl) : CallR X (.builtin "isinstance") (rIsiTW K C) := h ▸ call_isiT
/-! ### t == () -/
theorem isTuple_of {h : Heap} {a : Addr} {its : Array Value} (p : PyProof.Rows.IsTup h a its) : h.IsTuple a its := by
  obtain ⟨o, e, c, n, d⟩ := p
  exact ⟨o, e, c, n, d⟩
def rEqE (K : PySem.W.Frag) : R2 := fun x y H Q => ∃ a b xs, x = .ref a ∧ y = .ref b ∧ SqT K H a xs ∧ SqT K H b [] ∧ Q (.bl xs.isEmpty) H
theorem op_eqE {X : Cx} (hu : X.A.units + 64 < cLine) : OpR X (compareOp .Eq) (rEqE X.K) := by
  intro pins s σ H x y v u Q I rx ry h
  obtain ⟨a, b, xs, rfl, rfl, ha, hb, q⟩ := h
  cases (show v = Value.ref a from rx)
  cases (show u = Value.ref b from ry)
  obtain ⟨us, r1, p1, _⟩ := I.tuple ha
  obtain ⟨ws, r2, p2, _⟩ := I.tuple hb
  cases r2
  have h1 : s.heap.IsTuple a us.toArray := isTuple_of p1
  have h2 : s.heap.IsTuple b ([] : List Value).toArray := isTuple_of p2
  have rc := SeqAt.RcAt.tuples (A := X.A) (e := fun _ => true) h1 h2 (by omega) fun j _ j2 => absurd j2 (Nat.not_lt_zero j)
  have e : ((List.range (min us.toArray.size ([] : List Value).toArray.size)).all (fun _ => true) && us.toArray.size == ([] : List Value).toArray.size) = xs.isEmpty := by
    cases r1 with
    | nil => rfl
    | cons _ _ => rfl
  rw [e] at rc
  exact rc _ _ _ _ ⟨.bl xs.isEmpty, H, I, rfl, q⟩
def eqE : D → D → Option D
  | .tup xs, .tup [] => some (.bl xs.isEmpty)
  | _, _ => none
instance eqE_ok (K : PySem.W.Frag) : Op2 K (rEqE K) eqE := ⟨fun H U x y a b z Q hu ra rb e h => by
  cases ra with
  | @tup a vs xs q r =>
    cases rb with
    | @tup b ws es q2 r2 =>
      cases r2 with
      | nil =>
        cases e
        refine ⟨_, _, _, rfl, rfl, .inl (.inl (Hm_some.mp q).2), .inl (.inl (Hm_some.mp q2).2), ?_⟩
        have e : vs.isEmpty = xs.isEmpty := by cases r <;> rfl
        rw [e]
        exact h _ H (Same.refl H) (.bl _)
      | cons _ _ => cases e
    | _ => cases e
  | _ => cases e⟩
theorem kop_eqE {X : Cx} (K : PySem.W.Frag) (hu : X.A.units + 64 < cLine) (h : X.K = K := by rfl) : OpR X (compareOp .Eq) (rEqE K) := h ▸ op_eqE hu
end DL
set_option linter.all false
set_option autoImplicit false
set_option maxRecDepth 100000
set_option maxHeartbeats 2000000
/-! DxY: three names at once, the first of them owned; a dict of the module with text keys; a displayed dict with text keys. -/
namespace DL
open PySem PySem.Spec L2
def tPar3O (i j l : Nat) (t : TA) : TS := tPar3 i j l t
theorem PS.ownedPar3 {X : Cx} {i j l : Nat} {st : Stmt} {t : TA} (h : PS X st (tPar3 i j l t)) : PS X st (tPar3O i j l t) := h
def cPar3O (i j l : Nat) (mn : NM) (mb mc : EM) : SM := fun sl => bSR (mn sl) fun m s => bSR (noxR (mb s)) fun d s1 => bSR (noxR (mc s1)) fun e s2 =>
  if i ≠ 0 ∧ i < s2.length ∧ j < s2.length ∧ l < s2.length ∧ i ≠ j then .nx (sS (sS (sS s2 i (.o m)) j (.v d)) l (.v e)) else .bad
instance par3o_sx {K : PySem.W.Frag} {W : WX} {ta tb tc : TE} {mn : NM} {mb mc : EM} {i j l : Nat} [ha : NX K W ta mn] [hb : EX K W0 tb mb] [hc : EX K W0 tc mc] : SX K W (tPar3O i j l (tCons ta (tCons tb (tCons tc tNil)))) (cPar3O i j l mn mb mc) := ⟨fun c σ H sl Dn s h => by
  unfold tPar3O tPar3
  refine ha.ok c σ H sl _ s ?_
  unfold cPar3O at h
  cases e : mn sl with
  | bad => rw [e] at h; exact h.elim
  | exn x s1 => rw [e] at h; exact fun cls dd H' i1 r1 l1 => h cls dd σ H' i1 r1 l1
  | ok m s1 =>
    rw [e] at h
    intro p o H1 i1 n r1 l1
    have w := i1.new n
    obtain ⟨i2, l2⟩ := i1.hide n r1.nu
    simp only [bSR] at h
    cases eb : noxR (mb s1) with
    | bad => rw [eb] at h; exact h.elim
    | exn x s => exact absurd eb (noxR_ne _ _ _)
    | ok d s2 =>
      rw [eb] at h
      simp only at h
      refine hb.ok _ σ _ _ _ i2 (POk.noxR (W := W0) ?_)
      rw [eb]
      intro v H2 i3 rv l3
      cases ec : noxR (mc s2) with
      | bad => rw [ec] at h; exact h.elim
      | exn x s => exact absurd ec (noxR_ne _ _ _)
      | ok f s3 =>
        rw [ec] at h
        simp only at h
        refine hc.ok _ σ _ _ _ i3 (POk.noxR (W := W0) ?_)
        rw [ec]
        intro u H3 i4 ru l4
        obtain ⟨i5, e5⟩ := i4.unhide w r1.nt r1.nc
        have hp := i4.hid_at w r1.nt
        by_cases q : i ≠ 0 ∧ i < s3.length ∧ j < s3.length ∧ l < s3.length ∧ i ≠ j
        · simp only [if_pos q] at h
          have r2 : HORep K (fz c s3 σ (del H3 p)) m o := by rw [e5]; exact r1.le ((l2.trans l3).trans l4)
          obtain ⟨i6, l6⟩ := i5.setO del_self r2 q.2.1 q.1
          rw [del_upd hp] at i6 l6
          obtain ⟨i7, l7⟩ := i6.setV (i := j) ((show Rep K (fz c s3 σ (del H3 p)) d v by rw [e5]; exact rv.le l4).le l6) (by rw [sS_set, List.length_set]; exact q.2.2.1)
          obtain ⟨i8, l8⟩ := i7.setV (i := l) (((show Rep K (fz c s3 σ (del H3 p)) f u by rw [e5]; exact ru).le l6).le l7) (by rw [sS_len, sS_len]; exact q.2.2.2.1)
          refine ⟨.ref p, v, u, rfl, h _ _ i8 (((l1.trans ((l2.trans l3).trans l4)).trans ?_).trans ((l6.trans l7).trans l8))⟩
          rw [e5]
          exact Le.rfl
        · simp only [if_neg q] at h
          exact h.elim⟩
/-! ### a dict of the module -/
def mapD (kvs : List (Str × Int)) (z : Str) : Option Int := (kvs.find? fun q => q.1 == z).map (·.2)
class MapOk (K : PySem.W.Frag) (a : Addr) (kvs : List (Str × Int)) : Prop where
  ok : ∀ z, (PySem.W.nsIn K a z = some none ∧ mapD kvs z = none) ∨ ∃ i t, PySem.W.nsIn K a z = some (some (.int i t)) ∧ mapD kvs z = some i
def entI (e : DictEntry) : Option (Str × Int) := match e.key, e.val with
  | .str x _, .int i _ => some (x, i)
  | _, _ => none
def mapB (K : PySem.W.Frag) (a : Addr) (kvs : List (Str × Int)) : Bool := match K.lookup a with
  | some ⟨_, _, .dict es _, _⟩ => decide (es.toList.map entI = kvs.map some)
  | _ => false
theorem mapB_ok {K : PySem.W.Frag} {a : Addr} {kvs : List (Str × Int)} (h : mapB K a kvs = true) : MapOk K a kvs := ⟨fun z => by
  unfold mapB at h
  split at h
  · next c d es n sl e =>
    have h := of_decide_eq_true h
    unfold PySem.W.nsIn
    rw [e]
    obtain ⟨l⟩ := es
    simp only at h ⊢
    have key : ∀ (l : List DictEntry) (kvs : List (Str × Int)), l.map entI = kvs.map some → (l.any (·.refKey) = false) ∧ ((l.find? (·.key.isStr z) = none ∧ mapD kvs z = none) ∨ ∃ e i t, l.find? (·.key.isStr z) = some e ∧ e.val = .int i t ∧ mapD kvs z = some i) := by
      intro l
      induction l with
      | nil =>
        intro kvs h
        cases kvs with
        | nil => exact ⟨rfl, .inl ⟨rfl, rfl⟩⟩
        | cons _ _ => cases h
      | cons e r ih =>
        intro kvs h
        cases kvs with
        | nil => cases h
        | cons q qs =>
          rw [List.map_cons, List.map_cons] at h
          obtain ⟨h1, h2⟩ := List.cons.inj h
          obtain ⟨i1, i2⟩ := ih qs h2
          obtain ⟨kx, vx, hx⟩ := e
          unfold entI at h1
          split at h1
          · next x t i t' ek ev =>
            simp only at ek ev
            subst ek ev
            cases h1
            refine ⟨by rw [List.any_cons, i1]; rfl, ?_⟩
            have ef : mapD ((x, i) :: qs) z = if (x == z) = true then some i else mapD qs z := by
              unfold mapD
              rw [List.find?_cons]
              cases x == z <;> rfl
            rw [ef, List.find?_cons]
            cases q : x == z with
            | true =>
              have e1 : (Value.str x t).isStr z = true := q
              rw [e1]
              exact .inr ⟨_, i, t', rfl, rfl, rfl⟩
            | false =>
              have e1 : (Value.str x t).isStr z = false := q
              rw [e1]
              exact i2
          · cases h1
    obtain ⟨k1, k2⟩ := key l kvs h
    rcases k2 with ⟨k2, k3⟩ | ⟨e, i, t, k2, k3, k4⟩
    · rw [k2]
      simp only [k1]
      exact .inl ⟨rfl, k3⟩
    · rw [k2]
      exact .inr ⟨i, t, by rw [← k3], k4⟩
  · cases h⟩
def rInMap (K : PySem.W.Frag) (a : Addr) (_ : List (Str × Int)) : R2 := fun x y H Q => ∃ (z : Str) (r : Option Value), x = .str z ∧ y = .ref a ∧ PySem.W.nsIn K a z = some r ∧ Q (.bl r.isSome) H
def rItMap (K : PySem.W.Frag) (a : Addr) (_ : List (Str × Int)) : R2 := fun x y H Q => ∃ (z : Str) (u0 : Value) (v0 : V), x = .ref a ∧ y = .str z ∧ PySem.W.nsIn K a z = some (some u0) ∧ RelV v0 u0 ∧ Q v0 H
theorem kop_inM {X : Cx} {a : Addr} {es : Array DictEntry} {n : Nat} (kvs : List (Str × Int)) (D : KDict X.K X.w a es n) : OpR X (compareOp .In) (rInMap X.K a kvs) := op_in_kd D
theorem kix_M {X : Cx} {a : Addr} {es : Array DictEntry} {n : Nat} (kvs : List (Str × Int)) (D : KDict X.K X.w a es n) : IxR X (rItMap X.K a kvs) := by
  intro value slice pins s σ H x y v u Q I rx ry h hs
  have hh := h
  obtain ⟨z, u0, v0, rfl, rfl, e, r, q⟩ := h
  have g := op_item_kd D pins s σ H (.ref a) (.str z) v u Q I rx ry ⟨z, u0, v0, rfl, rfl, e, r, q⟩
  cases (show v = Value.ref a from rx)
  exact PyProof.Rows.tail_any (kd_type D I) PySem.F.slot_dict_getitem.lookup g hs
def cInMap (kvs : List (Str × Int)) (m : EM) : EM := fun sl => (m sl).bind fun d s => match d with
  | .str x => .ok (.bl (mapD kvs x).isSome) s
  | _ => .bad
def cItMap (kvs : List (Str × Int)) (m : EM) : EM := fun sl => (m sl).bind fun d s => match d with
  | .str x => ofO ((mapD kvs x).map D.int) s
  | _ => .bad
section
variable {K : PySem.W.Frag} {W : WX} {te : TE} {me : EM} {a : Addr} {kvs : List (Str × Int)}
instance inMap_ex [he : EX K W te me] [hm : MapOk K a kvs] : EX K W (tOp (rInMap K a kvs) te (tC (.ref a))) (cInMap kvs me) := ⟨fun c σ H sl Q s h => by
  refine he.ok c σ H sl _ s (h.split.imp fun x H1 ⟨d, s1, _, i1, r1, l1, h1⟩ => ?_)
  cases r1 with
  | str x =>
    simp only at h1
    rcases hm.ok x with ⟨e1, e2⟩ | ⟨i, t, e1, e2⟩
    · rw [e2] at h1
      exact ⟨x, none, rfl, rfl, e1, h1 _ H1 i1 (.bl false) Le.rfl⟩
    · rw [e2] at h1
      exact ⟨x, _, rfl, rfl, e1, h1 _ H1 i1 (.bl true) Le.rfl⟩
  | _ => exact h1.elim⟩
instance itMap_ex [he : EX K W te me] [hm : MapOk K a kvs] : EX K W (tOp (rItMap K a kvs) (tC (.ref a)) te) (cItMap kvs me) := ⟨fun c σ H sl Q s h => by
  refine he.ok c σ H sl _ s (h.split.imp fun x H1 ⟨d, s1, _, i1, r1, l1, h1⟩ => ?_)
  cases r1 with
  | str x =>
    simp only at h1
    rcases hm.ok x with ⟨e1, e2⟩ | ⟨i, t, e1, e2⟩
    · rw [e2] at h1
      exact h1.elim
    · rw [e2] at h1
      exact ⟨x, _, .int i, rfl, rfl, e1, ⟨t, rfl⟩, h1 _ H1 i1 (.int i) Le.rfl⟩
  | _ => exact h1.elim⟩
end
/-! ### a displayed dict -/
class DispX (trs : List (TE × TE)) (kvs : outParam (List (Str × Int))) : Prop where
  ok : trs = kvs.map fun q => ((tC (.str q.1) : TE), (tC (.int q.2) : TE))
instance : DispX [] [] := ⟨rfl⟩
instance {k : Str} {i : Int} {trs : List (TE × TE)} {kvs : List (Str × Int)} [h : DispX trs kvs] : DispX ((tC (.str k), tC (.int i)) :: trs) ((k, i) :: kvs) := ⟨by rw [h.ok]; rfl⟩
def dispK (kvs : List (Str × Int)) (acc : List L2.Key × List D) : List L2.Key × List D := kvs.foldl (fun a q => (putKs a.1 (.inr q.1), putDs a.1 a.2 (.inr q.1) (.int q.2))) acc
def cDisp (kvs : List (Str × Int)) : NM := fun sl => if kvs.length ≤ 15 then .ok (.dK (dispK kvs ([], [])).1 (dispK kvs ([], [])).2) sl else .bad
theorem tPairs_c (σ : L2.St) (H : Hp) : ∀ (kvs : List (Str × Int)) (Q : List (V × V) → Hp → Prop), Q (kvs.map fun q => (V.str q.1, V.int q.2)) H → tPairs (kvs.map fun q => ((tC (.str q.1) : TE), (tC (.int q.2) : TE))) σ H Q
  | [], Q, h => h
  | q :: r, Q, h => tPairs_c σ H r (fun ps H3 => Q ((V.str q.1, V.int q.2) :: ps) H3) h
theorem disp_rep {K : PySem.W.Frag} {A : Hp} : ∀ (kvs : List (Str × Int)) (ks : List L2.Key) (ds : List D) (vs : List V), ks.length = vs.length → Reps K A ds vs →
    ∃ vs', mergeK (ks.zip vs) (kvs.map fun q => ((.inr q.1 : L2.Key), V.int q.2)) = (dispK kvs (ks, ds)).1.zip vs' ∧ (dispK kvs (ks, ds)).1.length = vs'.length ∧ Reps K A (dispK kvs (ks, ds)).2 vs'
  | [], ks, ds, vs, h, r => ⟨vs, rfl, h, r⟩
  | q :: qs, ks, ds, vs, h, r => by
    obtain ⟨e1, e2⟩ := putK_zip (k := (.inr q.1 : L2.Key)) (v := V.int q.2) h
    obtain ⟨vs', h1, h2, h3⟩ := disp_rep qs (putKs ks (.inr q.1)) (putDs ks ds (.inr q.1) (.int q.2)) (putDs ks vs (.inr q.1) (V.int q.2)) e2 (reps_putDs (.int q.2) r)
    refine ⟨vs', ?_, h2, h3⟩
    rw [← e1] at h1
    exact h1
instance disp_nx {K : PySem.W.Frag} {W : WX} {trs : List (TE × TE)} {kvs : List (Str × Int)} [h : DispX trs kvs] : NX K W (tDisp trs) (cDisp kvs) := ⟨fun c σ H sl Q s hq => by
  unfold cDisp at hq
  by_cases z : kvs.length ≤ 15
  case neg => rw [if_neg z] at hq; exact hq.elim
  rw [if_pos z] at hq
  intro p n
  rw [h.ok]
  refine tPairs_c σ _ kvs _ ⟨upd_same, kvs.map fun q => ((.inr q.1 : L2.Key), V.int q.2), by rw [List.map_map]; rfl, by rw [List.length_map]; exact z, ?_⟩
  obtain ⟨vs', h1, h2, h3⟩ := disp_rep (K := K) (A := fz c sl σ H) kvs [] [] [] rfl .nil
  have h1 : mergeK [] (kvs.map fun q => ((.inr q.1 : L2.Key), V.int q.2)) = _ := h1
  rw [h1]
  have e : upd (upd H p (.dK [])) p (.dK ((dispK kvs ([], [])).1.zip vs')) = upd H p (.dK ((dispK kvs ([], [])).1.zip vs')) := by
    funext b
    unfold upd
    split <;> rfl
  rw [e]
  exact hq p _ H s n ⟨vs', rfl, h2, h3⟩ Le.rfl⟩
instance disp_ex {K : PySem.W.Frag} {W : WX} {trs : List (TE × TE)} {kvs : List (Str × Int)} [h : DispX trs kvs] : EX K W (tDisp trs) (cFz (cDisp kvs)) := (disp_nx).ex
/-! ### d[k] of a dict that is data -/
def lookK (ks : List L2.Key) (ds : List D) (k : L2.Key) : Option D := ((ks.zip ds).find? fun q => decide (q.1 = k)).map (·.2)
def dgetD (d k : D) : Option D := match d with
  | .dK ks ds => (match keyOf k with
    | some q => lookK ks ds q
    | none => none)
  | _ => none
theorem lookK_rep {K : PySem.W.Frag} {A : Hp} {k : L2.Key} {d : D} : ∀ {ks : List L2.Key} {ds : List D} {vs : List V}, Reps K A ds vs → lookK ks ds k = some d → ∃ v, valV (ks.zip vs) k = some v ∧ Rep K A d v
  | [], _, _, _, e => by cases e
  | j :: ks, _, _, .nil, e => by cases e
  | j :: ks, d0 :: ds, v0 :: vs, .cons a b, e => by
    unfold lookK at e
    unfold valV
    rw [List.zip_cons_cons, List.find?_cons] at e ⊢
    by_cases q : j = k
    · simp only [q, decide_true, Option.map_some, Option.some.injEq] at e ⊢
      exact ⟨v0, rfl, e ▸ a⟩
    · simp only [q, decide_false] at e ⊢
      exact lookK_rep b e
def cDGet (md mi : EM) : EM := fun sl => (md sl).bind fun d s => (mi s).bind fun k s1 => ofO (dgetD d k) s1
instance dget_ex {K : PySem.W.Frag} {W : WX} {td ty : TE} {md mi : EM} [hd : EX K W td md] [hi : EX K W ty mi] : EX K W (tDGet td ty) (cDGet md mi) := ⟨fun c σ H sl Q s h => by
  refine hd.ok c σ H sl _ s (h.split.imp fun x H1 ⟨d, s1, _, i1, r1, l1, h1⟩ => ?_)
  refine hi.ok c σ H1 s1 _ i1 (h1.split.imp fun y H2 ⟨k, s2, _, i2, r2, l2, h2⟩ => ?_)
  cases e : dgetD d k with
  | none => rw [e] at h2; exact h2.elim
  | some z =>
    rw [e] at h2
    have r3 := r1.le l2
    unfold dgetD at e
    cases r3 with
    | @dK a ks vs ds q l r =>
      simp only at e
      cases ek : keyOf k with
      | none => simp only [ek] at e; cases e
      | some kk =>
        simp only [ek] at e
        obtain ⟨v, e1, e2⟩ := lookK_rep r e
        have ey : y = kV kk := by
          cases r2 <;> first | (cases ek; rfl) | cases ek
        refine ⟨a, v, rfl, ?_, h2 v H2 i2 e2 Le.rfl⟩
        rw [ey, ← e1]
        exact DGet.k (Hm_some.mp q).2
    | _ => cases e⟩
end DL
set_option linter.all false
set_option autoImplicit false
set_option maxRecDepth 100000
set_option maxHeartbeats 2000000
/-! DxZ: the hook, with dicts of the module. -/
namespace DL
open PySem PySem.Spec L2 PyProof.Rows PySem.W NdefX
def obsZ (n : Nat) (fa : List He.Fa) (fn : List He.DefD) (ts : List He.Tab) (tf : List He.Defn) (ex : Frag → Bool) (file : Str) (ini : List IniD) (g : Addr → Option Obj) : AlY :=
  ((He.obsT fa fn ts (He.frT g (asY g n)), ex (He.frT g (asY g n)) && He.tabsB g tf (He.frT g (asY g n))), ini.map (fun d => iniObs (He.frT g (asY g n)) d.cls), ini.all fun d => iniB (He.frT g (asY g n)) file d)
def valZ (fn : List He.DefD) (ts : List He.Tab) (ini : List IniD) (w : World) : AlY := (He.valX fn ts w, ini.map IniD.val, true)
structure SaysZ (fa : List He.Fa) (fn : List He.DefD) (ts : List He.Tab) (tf : List He.Defn) (ex : Frag → Bool) (file : Str) (ini : List IniD) (w : World) (h : Heap) (K : Frag) : Prop where
  x : He.SaysX fa fn ts tf ex w h K
  obs : ini.map (fun d => iniObs K d.cls) = ini.map IniD.val
  ok : (ini.all fun d => iniB K file d) = true
theorem saysZ_of {n : Nat} {fa : List He.Fa} {fn : List He.DefD} {ts : List He.Tab} {tf : List He.Defn} {ex : Frag → Bool} {file : Str} {ini : List IniD} {w : World} {h : Heap} (e : obsZ n fa fn ts tf ex file ini h.get? = valZ fn ts ini w) : SaysZ fa fn ts tf ex file ini w h (He.frT h.get? (asY h.get? n)) := by
  have e2 : (ex (He.frT h.get? (asY h.get? n)) && He.tabsB h.get? tf (He.frT h.get? (asY h.get? n))) = true := congrArg (fun z : AlY => z.1.2) e
  have e3 := (Bool.and_eq_true_iff.mp e2).2
  have at_ : ∀ p ∈ tf, PySem.W.codeHdIn (He.frT h.get? (asY h.get? n)) (He.cT (He.frT h.get? (asY h.get? n)) p).1 (He.cT (He.frT h.get? (asY h.get? n)) p).2 = true ∧ ∃ o, h.get? (He.cT (He.frT h.get? (asY h.get? n)) p).2 = some o ∧ He.emptyTab o = true := fun p hp => by
    obtain ⟨h3, h4⟩ := Bool.and_eq_true_iff.mp (List.all_eq_true.mp e3 p hp)
    cases q : h.get? (He.cT (He.frT h.get? (asY h.get? n)) p).2 with
    | none => rw [q] at h4; cases h4
    | some o => rw [q] at h4; exact ⟨h3, o, rfl, h4⟩
  exact ⟨⟨congrArg (fun z : AlY => z.1.1) e, (Bool.and_eq_true_iff.mp e2).1, fun p hp => (at_ p hp).1, fun p hp => (at_ p hp).2.elim fun o z => He.frT_none z.1 z.2, fun p hp => (at_ p hp).2.elim fun o z => by rw [z.1, He.emptyTab_eq z.2]⟩,
    congrArg (fun z : AlY => z.2.1) e, congrArg (fun z : AlY => z.2.2) e⟩
def hookZ (n : Nat) (fa : List He.Fa) (fn : List He.DefD) (ts : List He.Tab) (tf : List He.Defn) (ex : Frag → Bool) (file : Str) (ini : List IniD) : PySem.W.Hook where
  α := AlY
  obs := fun s => obsZ n fa fn ts tf ex file ini s.heap.get?
  val := fun w => valZ fn ts ini w
  says := fun w h => ∃ K : Frag, K.In h ∧ SaysZ fa fn ts tf ex file ini w h K
  of := fun _ _ e => ⟨_, He.frT_in, saysZ_of e⟩
  keeps := fun _ _ _ ⟨K, hK, c⟩ k => ⟨K, PySem.W.Frag.In.keeps hK k, ⟨⟨c.x.t, c.x.more, c.x.hd, c.x.out, fun p hp => k _ _ (c.x.empty p hp)⟩, c.obs, c.ok⟩⟩
theorem obsZ_eq {n : Nat} {fa : List He.Fa} {fn : List He.DefD} {ts : List He.Tab} {tf : List He.Defn} {ex : Frag → Bool} {file : Str} {ini : List IniD} {g : Addr → Option Obj} {s : Shared} (h : ∀ a, g a = s.heap.get? a) : obsZ n fa fn ts tf ex file ini g = (hookZ n fa fn ts tf ex file ini).obs s := by
  have e : g = s.heap.get? := funext h
  rw [e] <;> rfl
theorem SaysZ.ini {fa : List He.Fa} {fn : List He.DefD} {ts : List He.Tab} {tf : List He.Defn} {ex : Frag → Bool} {P : Program} {ini : List IniD} {w : World} {h : Heap} {K : Frag} (c : SaysZ fa fn ts tf ex P.main.file ini w h K) (k : Nat) {d : IniD} (hd : ini[k]? = some d) : ∃ cc cda fd, IniOk K P d cc cda fd := by
  refine iniB_ok (d := d) ?_ (List.all_eq_true.mp c.ok d (List.mem_of_getElem? hd))
  have e2 : (ini.map fun d => iniObs K d.cls)[k]? = (ini.map IniD.val)[k]? := by rw [c.obs]
  rw [List.getElem?_map, List.getElem?_map, hd] at e2
  exact Option.some.inj e2
theorem kop_inMk {X : Cx} {K : Frag} {w : World} {a : Addr} {es : Array DictEntry} {n : Nat} (kvs : List (Str × Int)) (D : KDict K w a es n) (h : X.K = K := by rfl) (hw : X.w = w := by rfl) : OpR X (compareOp .In) (rInMap K a kvs) := by
  subst h hw
  exact kop_inM kvs D
theorem kix_Mk {X : Cx} {K : Frag} {w : World} {a : Addr} {es : Array DictEntry} {n : Nat} (kvs : List (Str × Int)) (D : KDict K w a es n) (h : X.K = K := by rfl) (hw : X.w = w := by rfl) : IxR X (rItMap K a kvs) := by
  subst h hw
  exact kix_M kvs D
end DL
set_option linter.all false
set_option autoImplicit false
set_option maxRecDepth 100000
set_option maxHeartbeats 2000000
/-! DxQ: an object that owns its parts (lists): reading and writing them. -/
namespace DL
open PySem PySem.Spec L2
def NO.cs : NO → List CO
  | .lst cs => cs
  | .ins _ _ cs => cs
def NO.setP (n : NO) (k : Nat) (p : CO) : NO := match n with
  | .lst cs => .lst (cs.set k p)
  | .ins C ns cs => .ins C ns (cs.set k p)
theorem NO.setP_cs (n : NO) (k : Nat) (p : CO) : (n.setP k p).cs = n.cs.set k p := by cases n <;> rfl
def CO.isL : CO → Bool
  | .l _ => true
  | .d _ => false
/-- the address of part k -/
def nthL : List CO → List Addr → Nat → Option Addr
  | .l _ :: _, a :: _, 0 => some a
  | .l _ :: cs, _ :: as, k + 1 => nthL cs as k
  | .d _ :: cs, as, k + 1 => nthL cs as k
  | _, _, _ => none
theorem nthL_shp : ∀ (cs cs' : List CO) (as : List Addr) (k : Nat), cs.map CO.isL = cs'.map CO.isL → nthL cs as k = nthL cs' as k
  | [], [], _, _, _ => rfl
  | [], _ :: _, _, _, h => by simp at h
  | _ :: _, [], _, _, h => by simp at h
  | .l _ :: cs, .l _ :: cs', [], k, _ => by cases k <;> rfl
  | .l _ :: cs, .l _ :: cs', a :: as, 0, _ => rfl
  | .l _ :: cs, .l _ :: cs', a :: as, k + 1, h => nthL_shp cs cs' as k (by simpa [CO.isL] using h)
  | .d _ :: cs, .d _ :: cs', as, 0, _ => by cases as <;> rfl
  | .d _ :: cs, .d _ :: cs', [], k + 1, h => nthL_shp cs cs' [] k (by simpa [CO.isL] using h)
  | .d _ :: cs, .d _ :: cs', a :: as, k + 1, h => nthL_shp cs cs' (a :: as) k (by simpa [CO.isL] using h)
  | .l _ :: _, .d _ :: _, _, _, h => by simp [CO.isL] at h
  | .d _ :: _, .l _ :: _, _, _, h => by simp [CO.isL] at h
section
variable {K : PySem.W.Frag} {H H' A B : Hp}
theorem nthL_l0 {x : List D} {cs : List CO} {a : Addr} {as : List Addr} : nthL (.l x :: cs) (a :: as) 0 = some a := rfl
theorem nthL_ls {x : List D} {cs : List CO} {a : Addr} {as : List Addr} {k : Nat} : nthL (.l x :: cs) (a :: as) (k + 1) = nthL cs as k := rfl
theorem nthL_ds {x : D} {cs : List CO} {as : List Addr} {k : Nat} : nthL (.d x :: cs) as (k + 1) = nthL cs as k := by cases as <;> rfl
theorem COs.length : ∀ {cs : List CO} {vs : List V} {as : List Addr}, COs K H A cs vs as → cs.length = vs.length
  | _, _, _, .nil => rfl
  | _, _, _, .d _ q => by rw [List.length_cons, List.length_cons, COs.length q]
  | _, _, _, .l _ _ q => by rw [List.length_cons, List.length_cons, COs.length q]
theorem COs.getL {xs : List D} : ∀ {cs : List CO} {vs : List V} {as : List Addr} {k : Nat}, COs K H A cs vs as → cs[k]? = some (.l xs) →
    ∃ a ws, nthL cs as k = some a ∧ a ∈ as ∧ vs[k]? = some (.ref a) ∧ H a = some (.lst ws) ∧ Reps K A xs ws
  | _, _, _, _, .nil, e => by simp at e
  | _, _, _, 0, .d _ _, e => by simp at e
  | _, _, _, 0, .l h r _, e => by
    simp at e
    subst e
    exact ⟨_, _, rfl, List.mem_cons_self .., rfl, h, r⟩
  | _, _, _, k + 1, .d _ q, e => by
    obtain ⟨a, ws, h1, h2, h3, h4, h5⟩ := COs.getL (k := k) q (by simpa using e)
    exact ⟨a, ws, by rw [nthL_ds]; exact h1, h2, by simpa using h3, h4, h5⟩
  | _, _, _, k + 1, .l _ _ q, e => by
    obtain ⟨a, ws, h1, h2, h3, h4, h5⟩ := COs.getL (k := k) q (by simpa using e)
    exact ⟨a, ws, by rw [nthL_ls]; exact h1, List.mem_cons_of_mem _ h2, by simpa using h3, h4, h5⟩
theorem COs.getD {x : D} : ∀ {cs : List CO} {vs : List V} {as : List Addr} {k : Nat}, COs K H A cs vs as → cs[k]? = some (.d x) → ∃ v, vs[k]? = some v ∧ Rep K A x v
  | _, _, _, _, .nil, e => by simp at e
  | _, _, _, 0, .d r _, e => by
    simp at e
    subst e
    exact ⟨_, rfl, r⟩
  | _, _, _, 0, .l _ _ _, e => by simp at e
  | _, _, _, k + 1, .d _ q, e => by
    obtain ⟨v, h1, h2⟩ := COs.getD (k := k) q (by simpa using e)
    exact ⟨v, by simpa using h1, h2⟩
  | _, _, _, k + 1, .l _ _ q, e => by
    obtain ⟨v, h1, h2⟩ := COs.getD (k := k) q (by simpa using e)
    exact ⟨v, by simpa using h1, h2⟩
theorem COs.setL {xs xs' : List D} {ws' : List V} {a : Addr} (l : Le A B) (ha : H' a = some (.lst ws')) (r : Reps K B xs' ws') : ∀ {cs : List CO} {vs : List V} {as : List Addr} {k : Nat}, COs K H A cs vs as → as.Nodup → cs[k]? = some (.l xs) → nthL cs as k = some a →
    (∀ b o, b ∈ as → b ≠ a → H b = some o → NU o → H' b = some o) → COs K H' B (cs.set k (.l xs')) vs as
  | _, _, _, _, .nil, _, e, _, _ => by simp at e
  | _, _, _, 0, .d _ _, _, e, _, _ => by simp at e
  | _, _, _, 0, .l h r1 q, nd, e, n, fr => by
    have n := n
    simp only [nthL_l0, Option.some.injEq] at n
    subst n
    have nd := List.nodup_cons.mp nd
    rw [List.set_cons_zero]
    exact .l ha r (q.mv l fun b o hb hH nu => fr b o (List.mem_cons_of_mem _ hb) (fun y => nd.1 (by rw [← y]; exact hb)) hH nu)
  | _, _, _, k + 1, .d r1 q, nd, e, n, fr => by
    rw [List.set_cons_succ]
    exact .d (r1.le l) (COs.setL l ha r (k := k) q nd (by simpa using e) (by rw [nthL_ds] at n; exact n) fr)
  | _, _, _, k + 1, .l h r1 q, nd, e, n, fr => by
    rw [nthL_ls] at n
    have nd := List.nodup_cons.mp nd
    obtain ⟨a', _, n', m', _⟩ := q.getL (by simpa using e)
    rw [n] at n'
    cases n'
    rw [List.set_cons_succ]
    exact .l (fr _ _ (List.mem_cons_self ..) (fun y => nd.1 (by rw [y]; exact m')) h nu_lst) (r1.le l) (COs.setL l ha r (k := k) q nd.2 (by simpa using e) n fun b o hb => fr b o (List.mem_cons_of_mem _ hb))
theorem COs.setD {x x' : D} {v' : V} (r : Rep K A x' v') : ∀ {cs : List CO} {vs : List V} {as : List Addr} {k : Nat}, COs K H A cs vs as → cs[k]? = some (.d x) → COs K H A (cs.set k (.d x')) (vs.set k v') as
  | _, _, _, _, .nil, e => by simp at e
  | _, _, _, 0, .d _ q, _ => .d r q
  | _, _, _, 0, .l _ _ _, e => by simp at e
  | _, _, _, k + 1, .d r1 q, e => .d r1 (COs.setD r (k := k) q (by simpa using e))
  | _, _, _, k + 1, .l h r1 q, e => .l h r1 (COs.setD r (k := k) q (by simpa using e))
end
section
variable {K : PySem.W.Frag} {c : Ct} {σ : L2.St} {H H' : Hp} {sl : List S} {j k : Nat} {n n' : NO} {r a : Addr} {as : List Addr}
theorem Sim.part (s : Sim K c sl σ H) (g : gS sl j = .q n) : ∃ r as, c.X = some (j, r, as) ∧ σ[j]? = some (some (.ref r)) ∧ (r :: as).Nodup ∧ NHeld K H (fz c sl σ H) r as n := by
  have hj := gS_some g (fun q => nomatch q)
  obtain ⟨r, as, ex⟩ := s.ne.qx j n hj
  exact ⟨r, as, ex, s.ne.nst j r as n ex hj⟩
theorem Sim.putX (s : Sim K c sl σ H) (g : gS sl j = .q n) (ex : c.X = some (j, r, as)) (fr : ∀ b o, ¬ c.Xs b → H b = some o → NT o → H' b = some o) (tb : LamX.Tabs (LT K) H') (xk : ∀ b, c.Xs b → ∃ o, H' b = some o ∧ NU o ∧ NC o)
    (hn : NHeld K H' (Hm H' (Hid c sl σ)) r as n') : Sim K c (sS sl j (.q n')) σ H' ∧ Le (fz c sl σ H) (fz c (sS sl j (.q n')) σ H') ∧ Le (Hm H' (Hid c sl σ)) (fz c (sS sl j (.q n')) σ H') := by
  have hj := gS_some g (fun q => nomatch q)
  obtain ⟨hσ, nd, _⟩ := s.ne.nst j r as n ex hj
  rw [sS_set]
  have hlt : j < sl.length := (List.getElem?_eq_some_iff.mp hj).1
  have old : ∀ (i : Nat) (x : S), (sl.set j (.q n'))[i]? = some x → (∀ n, x ≠ .q n) → i ≠ j ∧ sl[i]? = some x := fun i x e nx => by
    by_cases q : i = j
    · subst q
      rw [List.getElem?_set_self hlt] at e
      exact absurd (Option.some.inj e).symm (nx _)
    · rw [List.getElem?_set_ne (Ne.symm q)] at e
      exact ⟨q, e⟩
  have sub : ∀ b, Hid c (sl.set j (.q n')) σ b → Hid c sl σ b := fun b hb => hb.elim .inl fun ⟨i, m, h1, h2⟩ => .inr ⟨i, m, (old i _ h1 (fun _ q => nomatch q)).2, h2⟩
  have xu : ∀ b, c.Xs b → c.U b := fun b x => (s.ne.xk b x).1
  have le2 : Le (Hm H' (Hid c sl σ)) (fz c (sl.set j (.q n')) σ H') := Hm_sub sub
  have le : Le (fz c sl σ H) (fz c (sl.set j (.q n')) σ H') := fun b u e nt => by
    obtain ⟨h1, h2⟩ := Hm_some.mp e
    exact Hm_some.mpr ⟨fun q => h1 (sub b q), fr b u (fun x => h1 (.inl (xu b x))) h2 nt⟩
  refine ⟨⟨by rw [List.length_set]; exact s.len, fun i d e => ?_, fun i m e => ?_, fun i k m1 m2 b h1 h2 h3 h4 => s.dis i k m1 m2 b (old i _ h1 (fun _ q => nomatch q)).2 (old k _ h2 (fun _ q => nomatch q)).2 h3 h4, fun b m q e => s.par b m q (old 0 _ e (fun _ q => nomatch q)).2,
    fun b u e nt q x => fr b u x (s.frm b u e nt q x) nt, s.uh, fun b q => ?_, tb, ⟨fun b x => ⟨xu b x, xk b x⟩, fun i m e => ?_, fun i r2 as2 m e1 e2 => ?_⟩⟩, le, le2⟩
  · obtain ⟨v, h1, h2⟩ := s.val i d (old i _ e (fun _ q => nomatch q)).2
    exact ⟨v, h1, h2.le le⟩
  · obtain ⟨b, o, h1, h2, h3, h4, h5⟩ := s.own i m (old i _ e (fun _ q => nomatch q)).2
    exact ⟨b, o, h1, h2, h3, fr b o (fun x => h2 (xu b x)) h4 h5.nt, h5.le le⟩
  · obtain ⟨o, h1, h2⟩ := s.pex b q
    exact ⟨o, fr b o (fun x => (s.uh b (xu b x)).1 q) h1 h2, h2⟩
  · by_cases q : i = j
    · subst q; exact ⟨r, as, ex⟩
    · rw [List.getElem?_set_ne (Ne.symm q)] at e
      exact s.ne.qx i m e
  · rw [ex] at e1
    cases e1
    rw [List.getElem?_set_self hlt] at e2
    cases e2
    exact ⟨hσ, nd, hn.mv le2 fun _ _ _ h _ => h⟩
/-- a list that is a part is another one -/
theorem Sim.putP {xs xs' : List D} {ws' : List V} (s : Sim K c sl σ H) (g : gS sl j = .q n) (ex : c.X = some (j, r, as)) (hk : n.cs[k]? = some (.l xs)) (ha : nthL n.cs as k = some a) (r' : Reps K (fz c sl σ H) xs' ws') :
    Sim K c (sS sl j (.q (n.setP k (.l xs')))) σ (upd H a (.lst ws')) ∧ Le (fz c sl σ H) (fz c (sS sl j (.q (n.setP k (.l xs')))) σ (upd H a (.lst ws'))) := by
  have hj := gS_some g (fun q => nomatch q)
  obtain ⟨hσ, nd, hn⟩ := s.ne.nst j r as n ex hj
  have nd' := List.nodup_cons.mp nd
  have key : ∀ {vs : List V}, COs K H (fz c sl σ H) n.cs vs as → a ∈ as ∧ ∃ ws, H a = some (.lst ws) := fun q => by
    obtain ⟨a', ws, h1, h2, _, h4, _⟩ := q.getL hk
    rw [ha] at h1
    cases h1
    exact ⟨h2, ws, h4⟩
  obtain ⟨am, ws, hH⟩ : a ∈ as ∧ ∃ ws, H a = some (.lst ws) := by
    cases n with
    | lst cs => obtain ⟨vs, h1, h2⟩ := hn; exact key h2
    | ins C ns cs => obtain ⟨dx, vs, h1, hl, h2⟩ := hn; exact key h2
  have ax : c.Xs a := ⟨j, r, as, ex, .inr am⟩
  have au : c.U a := (s.ne.xk a ax).1
  have le : Le (fz c sl σ H) (Hm (upd H a (.lst ws')) (Hid c sl σ)) := fun b u e nt => by
    obtain ⟨h1, h2⟩ := Hm_some.mp e
    have nb : b ≠ a := fun q => h1 (by rw [q]; exact .inl au)
    exact Hm_some.mpr ⟨h1, by rw [upd_ne nb]; exact h2⟩
  have hn' : NHeld K (upd H a (.lst ws')) (Hm (upd H a (.lst ws')) (Hid c sl σ)) r as (n.setP k (.l xs')) := by
    have nr : r ≠ a := fun q => nd'.1 (by rw [q]; exact am)
    cases n with
    | lst cs =>
      obtain ⟨vs, h1, h2⟩ := hn
      exact ⟨vs, by rw [upd_ne nr]; exact h1, h2.setL le upd_same (r'.le le) nd'.2 hk ha fun b o _ nb h _ => by rw [upd_ne nb]; exact h⟩
    | ins C ns cs =>
      obtain ⟨dx, vs, h1, hl, h2⟩ := hn
      exact ⟨dx, vs, by rw [upd_ne nr]; exact h1, hl, h2.setL le upd_same (r'.le le) nd'.2 hk ha fun b o _ nb h _ => by rw [upd_ne nb]; exact h⟩
  obtain ⟨s1, l1, _⟩ := s.putX g ex (fun b o x h nt => by rw [upd_ne (fun q => x (by rw [q]; exact ax))]; exact h) (tabs_upd s.tab hH nt_lst nc_lst) (fun b x => by
    by_cases q : b = a
    · rw [q, upd_same]; exact ⟨_, rfl, nu_lst, nc_lst⟩
    · rw [upd_ne q]; exact (s.ne.xk b x).2) hn'
  exact ⟨s1, l1⟩
theorem nc_ins {C dx : Addr} {fs : List (Str × V)} : NC (.ins C dx fs) := fun _ _ h => by unfold LamX.CodeO at h; cases h
/-- the object itself is another one, of the same lists -/
theorem Sim.putR {o : HO} (s : Sim K c sl σ H) (g : gS sl j = .q n) (ex : c.X = some (j, r, as)) (nu : NU o) (nc : NC o) (hn' : ∀ B : Hp, Le (fz c sl σ H) B → NHeld K (upd H r o) B r as n') :
    Sim K c (sS sl j (.q n')) σ (upd H r o) ∧ Le (fz c sl σ H) (fz c (sS sl j (.q n')) σ (upd H r o)) := by
  have rx : c.Xs r := ⟨j, r, as, ex, .inl rfl⟩
  obtain ⟨ru, ob, hH, nub, ncb⟩ := s.ne.xk r rx
  have le : Le (fz c sl σ H) (Hm (upd H r o) (Hid c sl σ)) := fun b u e nt => by
    obtain ⟨h1, h2⟩ := Hm_some.mp e
    have nb : b ≠ r := fun q => h1 (by rw [q]; exact .inl ru)
    exact Hm_some.mpr ⟨h1, by rw [upd_ne nb]; exact h2⟩
  obtain ⟨s1, l1, _⟩ := s.putX g ex (fun b o x h nt => by rw [upd_ne (fun q => x (by rw [q]; exact rx))]; exact h) (tabs_upd s.tab hH nub.1 ncb) (fun b x => by
    by_cases q : b = r
    · rw [q, upd_same]; exact ⟨_, rfl, nu, nc⟩
    · rw [upd_ne q]; exact (s.ne.xk b x).2) (hn' _ le)
  exact ⟨s1, l1⟩
end
end DL
set_option linter.all false
set_option autoImplicit false
set_option maxRecDepth 100000
set_option maxHeartbeats 2000000
/-! DxQa: the classes of such an object's parts; what is looked at and written. -/
namespace DL
open PySem PySem.Spec L2
/-- slot i's object, which owns its parts -/
def tVarQ (i : Nat) : TE := tVar i
theorem pvQ {X : Cx} (i : Nat) {x : Str} {pos : Pos} (hN : X.N[i]? = some x := by rfl) (hv : Vis X.env.scope x := by first | exact Or.inl rfl | exact Or.inr (Or.inl rfl) | exact Or.inr (Or.inr rfl)) (hd : (x == ("__debug__" : Str)) = false := by decide)
    (hcd : (x == ("__classdict__" : Str)) = false := by decide) : PE X (.Name x pos) (tVarQ i) := pe_var hN hv hd hcd
/-- a list that is a part -/
def tPl (t : TE) : TE := t
theorem ppl {X : Cx} {e : Expr} {t : TE} (h : PE X e t) : PE X e (tPl t) := h
def PlOk (K : PySem.W.Frag) (W : WX) (c : Ct) (σ : L2.St) (H : Hp) (sl : List S) (j : Nat) (r : ER Nat) (Q : VK) : Prop := match r with
  | .ok k sl' => ∀ (n : NO) (xs : List D) (r : Addr) (as : List Addr) (a : Addr) (ws : List V) (H' : Hp), Sim K c sl' σ H' → gS sl' j = .q n → n.cs[k]? = some (.l xs) → c.X = some (j, r, as) → nthL n.cs as k = some a → H' a = some (.lst ws) → Reps K (fz c sl' σ H') xs ws →
      Le (fz c sl σ H) (fz c sl' σ H') → Q (.ref a) H'
  | .exn x sl' => ∀ cls dd H', Sim K c sl' σ H' → XRep K (fz c sl' σ H') x cls dd → Le (fz c sl σ H) (fz c sl' σ H') → W cls dd σ H'
  | .bad => False
class QX (K : PySem.W.Frag) (W : WX) (t : TE) (j : outParam Nat) (m : outParam (List S → ER Nat)) : Prop where
  ok : ∀ (c : Ct) (σ : L2.St) (H : Hp) (sl : List S) (Q : VK), Sim K c sl σ H → PlOk K W c σ H sl j (m sl) Q → t σ H Q
section
variable {K : PySem.W.Frag} {W : WX} {c : Ct} {σ : L2.St} {H H1 : Hp} {sl sl1 : List S} {α β γ δ : Type}
theorem PlOk.imp {j : Nat} {r : ER Nat} {Q Q' : VK} (h : PlOk K W c σ H sl j r Q) (q : ∀ b H', Q b H' → Q' b H') : PlOk K W c σ H sl j r Q' := by
  cases r with
  | ok a s => exact fun n xs r as a ws H' i1 i2 i3 i4 i5 i6 i7 i8 => q _ _ (h n xs r as a ws H' i1 i2 i3 i4 i5 i6 i7 i8)
  | exn x s => exact h
  | bad => exact h
structure PlAt (K : PySem.W.Frag) (c : Ct) (σ : L2.St) (sl : List S) (H : Hp) (j k : Nat) (n : NO) (xs : List D) (r : Addr) (as : List Addr) (a : Addr) (ws : List V) : Prop where
  sim : Sim K c sl σ H
  g : gS sl j = .q n
  hk : n.cs[k]? = some (.l xs)
  ex : c.X = some (j, r, as)
  ha : nthL n.cs as k = some a
  hH : H a = some (.lst ws)
  rx : Reps K (fz c sl σ H) xs ws
theorem PlOk.split {R' : Hp → γ → δ → Prop} {j : Nat} {r : ER Nat} {f : Nat → List S → ER γ} {Q : δ → Hp → Prop} (h : POk K W c σ R' H sl (r.bind f) Q) :
    PlOk K W c σ H sl j r (fun v H1 => ∃ k sl1 n xs rr as a ws, PlAt K c σ sl1 H1 j k n xs rr as a ws ∧ v = .ref a ∧ Le (fz c sl σ H) (fz c sl1 σ H1) ∧ POk K W c σ R' H1 sl1 (f k sl1) Q) := by
  cases r with
  | ok k s => exact fun n xs rr as a ws H' i1 i2 i3 i4 i5 i6 i7 l => ⟨k, s, n, xs, rr, as, a, ws, ⟨i1, i2, i3, i4, i5, i6, i7⟩, rfl, l, POk.le l h⟩
  | exn x s => exact h
  | bad => exact h
/-- the same part later -/
theorem Sim.again {j k : Nat} {n n1 : NO} {xs1 : List D} {r : Addr} {as : List Addr} {a : Addr} (ha : nthL n.cs as k = some a) (ex : c.X = some (j, r, as)) (s : Sim K c sl σ H) (g : gS sl j = .q n1) (sh : n1.cs.map CO.isL = n.cs.map CO.isL)
    (hk : n1.cs[k]? = some (.l xs1)) : ∃ ws, PlAt K c σ sl H j k n1 xs1 r as a ws := by
  obtain ⟨r', as', ex', hσ, nd, hn⟩ := s.part g
  rw [ex] at ex'
  cases ex'
  have ha1 : nthL n1.cs as k = some a := by rw [nthL_shp _ _ as k sh]; exact ha
  have key : ∀ {vs : List V}, COs K H (fz c sl σ H) n1.cs vs as → ∃ ws, PlAt K c σ sl H j k n1 xs1 r as a ws := fun q => by
    obtain ⟨a', ws, h1, h2, _, h4, h5⟩ := q.getL hk
    rw [ha1] at h1
    cases h1
    exact ⟨ws, s, g, hk, ex, ha1, h4, h5⟩
  cases n1 with
  | lst cs => obtain ⟨vs, _, h2⟩ := hn; exact key h2
  | ins C ns cs => obtain ⟨dx, vs, _, _, h2⟩ := hn; exact key h2
theorem PlAt.xs {j k : Nat} {n : NO} {xs : List D} {r : Addr} {as : List Addr} {a : Addr} {ws : List V} (p : PlAt K c σ sl H j k n xs r as a ws) : c.U a := by
  obtain ⟨r', as', ex', hσ, nd, hn⟩ := p.sim.part p.g
  rw [p.ex] at ex'
  cases ex'
  have key : ∀ {vs : List V}, COs K H (fz c sl σ H) n.cs vs as → a ∈ as := fun q => by
    obtain ⟨a', ws, h1, h2, _⟩ := q.getL p.hk
    rw [p.ha] at h1
    cases h1
    exact h2
  have am : a ∈ as := by
    cases n with
    | lst cs => obtain ⟨vs, _, h2⟩ := hn; exact key h2
    | ins C ns cs => obtain ⟨dx, vs, _, _, h2⟩ := hn; exact key h2
  exact (p.sim.ne.xk a ⟨j, r, as, p.ex, .inr am⟩).1
theorem PlAt.rep {j k : Nat} {n : NO} {xs : List D} {r : Addr} {as : List Addr} {a : Addr} {ws : List V} (p : PlAt K c σ sl H j k n xs r as a ws) : Rep K (Hm H (But c sl σ a)) (.lst xs) (.ref a) :=
  .lst (Hm_some.mpr ⟨fun q => q.2 rfl, p.hH⟩) (p.rx.le but_le)
end
/-! ### places -/
def cQp (j : Nat) (mi : EM) : List S → ER Nat := fun sl => match gS sl j with
  | .q _ => (mi sl).bind fun y s => (match gS s j, y with
    | .q (.lst cs), .int i => (match ixN cs.length i with
      | some k => (match cs[k]? with
        | some (.l _) => .ok k s
        | _ => .bad)
      | none => .bad)
    | _, _ => .bad)
  | _ => .bad
def ixS : List Str → Str → Option Nat
  | [], _ => none
  | n :: ns, f => if f == n then some 0 else (ixS ns f).map (· + 1)
theorem ixS_at {α : Type} {f : Str} : ∀ {ns : List Str} {vs : List α} {k : Nat} {v : α}, ixS ns f = some k → vs[k]? = some v → (ns.zip vs).lookup f = some v
  | [], _, _, _, e, _ => by cases e
  | n :: ns, [], _, _, _, h => by simp at h
  | n :: ns, w :: vs, k, v, e, h => by
    unfold ixS at e
    rw [List.zip_cons_cons, List.lookup_cons]
    cases q : f == n with
    | true =>
      simp only [q, if_true] at e
      cases e
      simpa using h
    | false =>
      simp only [q, Bool.false_eq_true, if_false] at e
      cases z : ixS ns f with
      | none => rw [z] at e; cases e
      | some i =>
        rw [z] at e
        cases e
        exact ixS_at z (by simpa using h)
def cQpF (j : Nat) (C : Addr) (f : Str) : List S → ER Nat := fun sl => match gS sl j with
  | .q (.ins C' ns cs) => if C' = C then (match ixS ns f with
    | some k => (match cs[k]? with
      | some (.l _) => .ok k sl
      | _ => .bad)
    | none => .bad) else .bad
  | _ => .bad
section
variable {K : PySem.W.Frag} {W : WX} {ti : TE} {mi : EM} {j : Nat}
instance qp_qx [hi : EX K W ti mi] : QX K W (tOp (rIx K) (tVarQ j) ti) j (cQp j mi) := ⟨fun c σ H sl Q s h => by
  unfold cQp at h
  cases g0 : gS sl j with
  | no => rw [g0] at h; exact h.elim
  | v d => rw [g0] at h; exact h.elim
  | o m => rw [g0] at h; exact h.elim
  | q n0 =>
    simp only [g0] at h
    obtain ⟨r, as, ex, hσ, nd, hn⟩ := s.part g0
    refine ⟨.ref r, hσ, hi.ok c σ H sl _ s ?_⟩
    cases e : mi sl with
    | bad => rw [e] at h; exact h.elim
    | exn x s1 => rw [e] at h; exact h
    | ok y s1 =>
      rw [e] at h
      intro v H1 i1 r1 l1
      simp only [ER.bind] at h
      cases g1 : gS s1 j with
      | no => simp only [g1] at h; exact h.elim
      | v d => simp only [g1] at h; exact h.elim
      | o m => simp only [g1] at h; exact h.elim
      | q n1 =>
        obtain ⟨r', as', ex', hσ', nd', hn'⟩ := i1.part g1
        rw [ex] at ex'
        cases ex'
        cases n1 with
        | ins C ns cs => simp only [g1] at h; exact h.elim
        | lst cs =>
          cases r1 with
          | int i =>
            simp only [g1] at h
            cases z : ixN cs.length i with
            | none => simp only [z] at h; exact h.elim
            | some k =>
              simp only [z] at h
              cases w : cs[k]? with
              | none => simp only [w] at h; exact h.elim
              | some p =>
                cases p with
                | d x => simp only [w] at h; exact h.elim
                | l xs =>
                  simp only [w] at h
                  obtain ⟨vs, h1, h2⟩ := hn'
                  obtain ⟨a, ws, q1, q2, q3, q4, q5⟩ := h2.getL w
                  refine .inl ⟨r, vs, i, .ref a, rfl, rfl, SqL.of h1, ?_, h _ xs r as a ws H1 i1 g1 w ex q1 q4 q5 l1⟩
                  unfold atI
                  rw [← h2.length, z]
                  exact q3
          | _ => simp only [g1] at h; exact h.elim⟩
instance qpF_qx {C : Addr} {f : Str} [hc : ClsOk K C] [hf : FldOk K C f] : QX K W (tFldC K C (tVarQ j) f) j (cQpF j C f) := ⟨fun c σ H sl Q s h => by
  unfold cQpF at h
  cases g0 : gS sl j with
  | no => rw [g0] at h; exact h.elim
  | v d => rw [g0] at h; exact h.elim
  | o m => rw [g0] at h; exact h.elim
  | q n0 =>
    obtain ⟨r, as, ex, hσ, nd, hn⟩ := s.part g0
    cases n0 with
    | lst cs => simp only [g0] at h; exact h.elim
    | ins C' ns cs =>
      simp only [g0] at h
      by_cases w0 : C' = C
      · subst w0
        simp only [if_true] at h
        cases z : ixS ns f with
        | none => simp only [z] at h; exact h.elim
        | some k =>
          simp only [z] at h
          cases w : cs[k]? with
          | none => simp only [w] at h; exact h.elim
          | some p =>
            cases p with
            | d x => simp only [w] at h; exact h.elim
            | l xs =>
              simp only [w] at h
              obtain ⟨dx, vs, h1, hl, h2⟩ := hn
              obtain ⟨a, ws, q1, q2, q3, q4, q5⟩ := h2.getL w
              exact ⟨.ref r, hσ, r, C', dx, ns.zip vs, .ref a, rfl, h1, hc.ok, hf.ok, ixS_at z q3, h _ xs r as a ws H s g0 w ex q1 q4 q5 Le.rfl⟩
      · rw [if_neg w0] at h; exact h.elim⟩
end
/-! ### parts that are no lists -/
def cQd (j : Nat) (mi : EM) : EM := fun sl => match gS sl j with
  | .q _ => (mi sl).bind fun y s => (match gS s j, y with
    | .q (.lst cs), .int i => (match ixN cs.length i with
      | some k => (match cs[k]? with
        | some (.d x) => .ok x s
        | _ => .bad)
      | none => .bad)
    | _, _ => .bad)
  | _ => .bad
def cQdF (j : Nat) (C : Addr) (f : Str) : EM := fun sl => match gS sl j with
  | .q (.ins C' ns cs) => if C' = C then (match ixS ns f with
    | some k => (match cs[k]? with
      | some (.d x) => .ok x sl
      | _ => .bad)
    | none => .bad) else .bad
  | _ => .bad
section
variable {K : PySem.W.Frag} {W : WX} {ti : TE} {mi : EM} {j : Nat}
instance qd_ex [hi : EX K W ti mi] : EX K W (tOp (rIx K) (tVarQ j) ti) (cQd j mi) := ⟨fun c σ H sl Q s h => by
  unfold cQd at h
  cases g0 : gS sl j with
  | no => rw [g0] at h; exact h.elim
  | v d => rw [g0] at h; exact h.elim
  | o m => rw [g0] at h; exact h.elim
  | q n0 =>
    simp only [g0] at h
    obtain ⟨r, as, ex, hσ, nd, hn⟩ := s.part g0
    refine ⟨.ref r, hσ, hi.ok c σ H sl _ s (h.split.imp fun y H1 ⟨b, s1, _, i1, r1, l1, h1⟩ => ?_)⟩
    cases g1 : gS s1 j with
    | no => simp only [g1] at h1; exact h1.elim
    | v d => simp only [g1] at h1; exact h1.elim
    | o m => simp only [g1] at h1; exact h1.elim
    | q n1 =>
      obtain ⟨r', as', ex', hσ', nd', hn'⟩ := i1.part g1
      rw [ex] at ex'
      cases ex'
      cases n1 with
      | ins C ns cs => simp only [g1] at h1; exact h1.elim
      | lst cs =>
        cases r1 with
        | int i =>
          simp only [g1] at h1
          cases z : ixN cs.length i with
          | none => simp only [z] at h1; exact h1.elim
          | some k =>
            simp only [z] at h1
            cases w : cs[k]? with
            | none => simp only [w] at h1; exact h1.elim
            | some p =>
              cases p with
              | l x => simp only [w] at h1; exact h1.elim
              | d x =>
                simp only [w] at h1
                obtain ⟨vs, q1, q2⟩ := hn'
                obtain ⟨v, q3, q4⟩ := q2.getD w
                refine .inl ⟨r, vs, i, v, rfl, rfl, SqL.of q1, ?_, h1 v H1 i1 q4 Le.rfl⟩
                unfold atI
                rw [← q2.length, z]
                exact q3
        | _ => simp only [g1] at h1; exact h1.elim⟩
instance qdF_ex {C : Addr} {f : Str} [hc : ClsOk K C] [hf : FldOk K C f] : EX K W (tFldC K C (tVarQ j) f) (cQdF j C f) := ⟨fun c σ H sl Q s h => by
  unfold cQdF at h
  cases g0 : gS sl j with
  | no => rw [g0] at h; exact h.elim
  | v d => rw [g0] at h; exact h.elim
  | o m => rw [g0] at h; exact h.elim
  | q n0 =>
    obtain ⟨r, as, ex, hσ, nd, hn⟩ := s.part g0
    cases n0 with
    | lst cs => simp only [g0] at h; exact h.elim
    | ins C' ns cs =>
      simp only [g0] at h
      by_cases w0 : C' = C
      · subst w0
        simp only [if_true] at h
        cases z : ixS ns f with
        | none => simp only [z] at h; exact h.elim
        | some k =>
          simp only [z] at h
          cases w : cs[k]? with
          | none => simp only [w] at h; exact h.elim
          | some p =>
            cases p with
            | l x => simp only [w] at h; exact h.elim
            | d x =>
              simp only [w] at h
              obtain ⟨dx, vs, h1, hl, h2⟩ := hn
              obtain ⟨v, q3, q4⟩ := h2.getD w
              exact ⟨.ref r, hσ, r, C', dx, ns.zip vs, v, rfl, h1, hc.ok, hf.ok, ixS_at z q3, h v H s q4 Le.rfl⟩
      · rw [if_neg w0] at h; exact h.elim⟩
end
/-! ### looked at -/
def kPkQ1 (j k : Nat) (n : NO) (f : D → D → Option D) : D → List S → ER D := fun y s1 => match gS s1 j with
  | .q n1 => if n1.cs.map CO.isL = n.cs.map CO.isL then (match n1.cs[k]? with
    | some (.l xs) => (match f (.lst xs) y with
      | some z => if scal z = true then .ok z s1 else .bad
      | none => .bad)
    | _ => .bad) else .bad
  | _ => .bad
def kPkQ (j : Nat) (f : D → D → Option D) (mb : EM) : Nat → List S → ER D := fun k s => match gS s j with
  | .q n => (mb s).bind (kPkQ1 j k n f)
  | _ => .bad
def cPkQA (j : Nat) (mq : List S → ER Nat) (f : D → D → Option D) (mb : EM) : EM := fun sl => (mq sl).bind (kPkQ j f mb)
def kPkQL (j : Nat) (f : List D → Option D) : Nat → List S → ER D := fun k s => match gS s j with
  | .q n => (match n.cs[k]? with
    | some (.l xs) => (match f [.lst xs] with
      | some z => if scal z = true then .ok z s else .bad
      | none => .bad)
    | _ => .bad)
  | _ => .bad
def cPkQL (j : Nat) (mq : List S → ER Nat) (f : List D → Option D) : EM := fun sl => (mq sl).bind (kPkQL j f)
def kIxQ1 (j k : Nat) (n : NO) : D → List S → ER D := fun y s1 => match gS s1 j, y with
  | .q n1, .int i => if n1.cs.map CO.isL = n.cs.map CO.isL then (match n1.cs[k]? with
    | some (.l xs) => ofO (atI xs i) s1
    | _ => .bad) else .bad
  | _, _ => .bad
def kIxQ (j : Nat) (mb : EM) : Nat → List S → ER D := fun k s => match gS s j with
  | .q n => (mb s).bind (kIxQ1 j k n)
  | _ => .bad
def cIxQ (j : Nat) (mq : List S → ER Nat) (mb : EM) : EM := fun sl => (mq sl).bind (kIxQ j mb)
section
variable {K : PySem.W.Frag} {W : WX} {tq tb : TE} {mb : EM} {j : Nat} {mq : List S → ER Nat}
instance (priority := high) pkQA_ex {r : R2} {f : D → D → Option D} [hq : QX K W tq j mq] [hb : EX K W tb mb] [ho : Op2 K r f] : EX K W (tOp r (tPl tq) tb) (cPkQA j mq f mb) := ⟨fun c σ H sl Q s h => by
  refine hq.ok c σ H sl _ s ((PlOk.split h).imp ?_)
  rintro v H1 ⟨k, s1, n, xs, rr, as, a, ws, p, rfl, l, h1⟩
  unfold kPkQ at h1
  simp only [p.g] at h1
  refine hb.ok c σ H1 s1 _ p.sim (h1.split.imp fun y H2 ⟨b, s2, _, i2, r2, l2, h2⟩ => ?_)
  unfold kPkQ1 at h2
  cases g2 : gS s2 j with
  | no => simp only [g2] at h2; exact h2.elim
  | v d => simp only [g2] at h2; exact h2.elim
  | o m => simp only [g2] at h2; exact h2.elim
  | q n1 =>
    simp only [g2] at h2
    by_cases sh : n1.cs.map CO.isL = n.cs.map CO.isL
    · rw [if_pos sh] at h2
      cases hk : n1.cs[k]? with
      | none => simp only [hk] at h2; exact h2.elim
      | some q =>
        cases q with
        | d x => simp only [hk] at h2; exact h2.elim
        | l xs1 =>
          simp only [hk] at h2
          obtain ⟨ws1, p1⟩ := i2.again p.ha p.ex g2 sh hk
          cases e : f (.lst xs1) b with
          | none => simp only [e] at h2; exact h2.elim
          | some z =>
            simp only [e] at h2
            by_cases q : scal z = true
            · simp only [q, if_true] at h2
              exact ho.ok H2 _ (.ref a) y (.lst xs1) b z Q (but_hid i2) p1.rep (r2.le but_le) e fun u H3 sm ru => h2 u H3 (i2.same sm) (rep_scal q ru) (fz_same (Le.of_same sm))
            · simp only [q, if_false] at h2; exact h2.elim
    · rw [if_neg sh] at h2; exact h2.elim⟩
instance (priority := high) pkQL_ex {r : List V → Hp → VK → Prop} {f : List D → Option D} [hq : QX K W tq j mq] [ho : OpL K r f] : EX K W (tCB r (tCons (tPl tq) tNil)) (cPkQL j mq f) := ⟨fun c σ H sl Q s h => by
  refine hq.ok c σ H sl _ s ((PlOk.split h).imp ?_)
  rintro v H1 ⟨k, s1, n, xs, rr, as, a, ws, p, rfl, l, h1⟩
  unfold kPkQL at h1
  simp only [p.g, p.hk] at h1
  cases e : f [.lst xs] with
  | none => simp only [e] at h1; exact h1.elim
  | some z =>
    simp only [e] at h1
    by_cases q : scal z = true
    · simp only [q, if_true] at h1
      exact ho.ok H1 _ [.ref a] [.lst xs] z Q (but_hid p.sim) (.cons p.rep .nil) e fun u H3 sm ru => h1 u H3 (p.sim.same sm) (rep_scal q ru) (fz_same (Le.of_same sm))
    · simp only [q, if_false] at h1; exact h1.elim⟩
instance (priority := high) ixQ_ex [hq : QX K W tq j mq] [hb : EX K W tb mb] : EX K W (tOp (rIx K) (tPl tq) tb) (cIxQ j mq mb) := ⟨fun c σ H sl Q s h => by
  refine hq.ok c σ H sl _ s ((PlOk.split h).imp ?_)
  rintro v H1 ⟨k, s1, n, xs, rr, as, a, ws, p, rfl, l, h1⟩
  unfold kIxQ at h1
  simp only [p.g] at h1
  refine hb.ok c σ H1 s1 _ p.sim (h1.split.imp fun y H2 ⟨b, s2, _, i2, r2, l2, h2⟩ => ?_)
  unfold kIxQ1 at h2
  cases g2 : gS s2 j with
  | no => simp only [g2] at h2; exact h2.elim
  | v d => simp only [g2] at h2; exact h2.elim
  | o m => simp only [g2] at h2; exact h2.elim
  | q n1 =>
    cases r2 with
    | int i =>
      simp only [g2] at h2
      by_cases sh : n1.cs.map CO.isL = n.cs.map CO.isL
      · rw [if_pos sh] at h2
        cases hk : n1.cs[k]? with
        | none => simp only [hk] at h2; exact h2.elim
        | some q =>
          cases q with
          | d x => simp only [hk] at h2; exact h2.elim
          | l xs1 =>
            simp only [hk] at h2
            obtain ⟨ws1, p1⟩ := i2.again p.ha p.ex g2 sh hk
            cases e : atI xs1 i with
            | none => rw [e] at h2; exact h2.elim
            | some d =>
              rw [e] at h2
              obtain ⟨v, e1, e2⟩ := reps_atI p1.rx e
              exact .inl ⟨a, ws1, i, v, rfl, rfl, SqL.of p1.hH, e1, h2 v H2 i2 e2 Le.rfl⟩
      · rw [if_neg sh] at h2; exact h2.elim
    | _ => simp only [g2] at h2; exact h2.elim⟩
end
/-! ### written -/
def kMethQ1 (j k : Nat) (n : NO) (f : MO → List D → Option (D × MO)) : List D → List S → ER D := fun ds s1 => match gS s1 j with
  | .q n1 => if n1.cs.map CO.isL = n.cs.map CO.isL then (match n1.cs[k]? with
    | some (.l xs) => (match f (.lst xs) ds with
      | some (z, .lst xs') => .ok z (sS s1 j (.q (n1.setP k (.l xs'))))
      | _ => .bad)
    | _ => .bad) else .bad
  | _ => .bad
def kMethQ (j : Nat) (f : MO → List D → Option (D × MO)) (ma : AM) : Nat → List S → ER D := fun k s => match gS s j with
  | .q n => (ma s).bind (kMethQ1 j k n f)
  | _ => .bad
def cMethQ (j : Nat) (mq : List S → ER Nat) (f : MO → List D → Option (D × MO)) (ma : AM) : EM := fun sl => (mq sl).bind (kMethQ j f ma)
def kSetQ1 (j : Nat) (d : D) : D → List S → SR := fun y s => match gS s j, y with
  | .q (.lst cs), .int i => (match ixN cs.length i with
    | some k => (match cs[k]? with
      | some (.d _) => .nx (sS s j (.q (.lst (cs.set k (.d d)))))
      | _ => .bad)
    | none => .bad)
  | _, _ => .bad
def kSetQ (j : Nat) (mi : EM) : D → List S → SR := fun d s => match gS s j with
  | .q _ => bSR (mi s) (kSetQ1 j d)
  | _ => .bad
def cSetQ (j : Nat) (me mi : EM) : SM := fun sl => bSR (me sl) (kSetQ j mi)
def kSetQF (j : Nat) (C : Addr) (f : Str) : D → List S → SR := fun d s => match gS s j with
  | .q (.ins C' ns cs) => if C' = C ∧ ns.length < 1000 then (match ixS ns f with
    | some k => (match cs[k]? with
      | some (.d _) => .nx (sS s j (.q (.ins C' ns (cs.set k (.d d)))))
      | _ => .bad)
    | none => .bad) else .bad
  | _ => .bad
def cSetQF (j : Nat) (C : Addr) (f : Str) (me : EM) : SM := fun sl => bSR (me sl) (kSetQF j C f)
theorem putF_ixS {f : Str} {v : V} : ∀ {ns : List Str} {vs : List V} {k : Nat}, ns.length = vs.length → ixS ns f = some k → putF f v (ns.zip vs) = ns.zip (vs.set k v)
  | [], _, _, _, e => by cases e
  | n :: ns, [], _, h, _ => by simp at h
  | n :: ns, w :: vs, k, h, e => by
    unfold ixS at e
    rw [List.zip_cons_cons]
    unfold putF
    cases q : f == n with
    | true =>
      simp only [q, if_true] at e
      cases e
      have : n = f := (eq_of_beq q).symm
      rw [if_pos this, List.set_cons_zero, List.zip_cons_cons, this]
    | false =>
      simp only [q, Bool.false_eq_true, if_false] at e
      cases z : ixS ns f with
      | none => rw [z] at e; cases e
      | some i =>
        rw [z] at e
        cases e
        have : n ≠ f := fun y => by rw [y, beq_self_eq_true] at q; cases q
        rw [if_neg this, List.set_cons_succ, List.zip_cons_cons, putF_ixS (by simpa using h) z]
section
variable {K : PySem.W.Frag} {W : WX} {tq te ti : TE} {me mi : EM} {ta : TA} {ma : AM} {j : Nat} {mq : List S → ER Nat}
instance methQ_ex {r : V → List V → Hp → VK → Prop} {f : MO → List D → Option (D × MO)} [hq : QX K W tq j mq] [ha : AX K W ta ma] [hm : MX K r f] : EX K W (tBM K "list" r (tPl tq) ta) (cMethQ j mq f ma) := ⟨fun c σ H sl Q s h => by
  refine hq.ok c σ H sl _ s ((PlOk.split h).imp ?_)
  rintro v H1 ⟨k, s1, n, xs, rr, as, a, ws, p, rfl, l, h1⟩
  unfold kMethQ at h1
  simp only [p.g] at h1
  refine ⟨.inl ⟨rfl, ws, SqL.of p.hH⟩, ha.ok c σ H1 s1 _ p.sim (h1.split.imp fun y H2 ⟨ds, s2, _, i2, r2, l2, h2⟩ => ?_)⟩
  unfold kMethQ1 at h2
  cases g2 : gS s2 j with
  | no => simp only [g2] at h2; exact h2.elim
  | v d => simp only [g2] at h2; exact h2.elim
  | o m => simp only [g2] at h2; exact h2.elim
  | q n1 =>
    simp only [g2] at h2
    by_cases sh : n1.cs.map CO.isL = n.cs.map CO.isL
    · rw [if_pos sh] at h2
      cases hk : n1.cs[k]? with
      | none => simp only [hk] at h2; exact h2.elim
      | some q =>
        cases q with
        | d x => simp only [hk] at h2; exact h2.elim
        | l xs1 =>
          simp only [hk] at h2
          obtain ⟨ws1, p1⟩ := i2.again p.ha p.ex g2 sh hk
          cases e : f (.lst xs1) ds with
          | none => simp only [e] at h2; exact h2.elim
          | some zm =>
            obtain ⟨z, m'⟩ := zm
            cases m' with
            | lst xs2 =>
              simp only [e] at h2
              refine hm.ok H2 (Hid c s2 σ) a (.lst xs1) (.lst xs2) _ y ds z Q p1.hH ⟨ws1, rfl, p1.rx⟩ r2 e fun u o' hr' ru => ?_
              obtain ⟨ws2, rfl, rx2⟩ := hr'
              obtain ⟨s3, l3⟩ := i2.putP g2 p.ex hk p1.ha rx2
              exact h2 u _ s3 (ru.le l3) l3
            | _ => simp only [e] at h2; exact h2.elim
    · rw [if_neg sh] at h2; exact h2.elim⟩
instance setQ_sx [he : EX K W te me] [hi : EX K W ti mi] : SX K W (tAsg te (gSub (tVarQ j) ti rSetL)) (cSetQ j me mi) := ⟨fun c σ H sl Dn s h => by
  refine he.ok c σ H sl _ s (h.split.imp fun x H1 ⟨d, s1, _, i1, r1, l1, h1⟩ => ?_)
  unfold kSetQ at h1
  cases g0 : gS s1 j with
  | no => simp only [g0] at h1; exact h1.elim
  | v d => simp only [g0] at h1; exact h1.elim
  | o m => simp only [g0] at h1; exact h1.elim
  | q n0 =>
    simp only [g0] at h1
    obtain ⟨r, as, ex, hσ, nd, hn⟩ := i1.part g0
    refine ⟨.ref r, hσ, hi.ok c σ H1 s1 _ i1 (h1.split.imp fun y H2 ⟨b, s2, _, i2, r2, l2, h2⟩ => ?_)⟩
    unfold kSetQ1 at h2
    cases g1 : gS s2 j with
    | no => simp only [g1] at h2; exact h2.elim
    | v d => simp only [g1] at h2; exact h2.elim
    | o m => simp only [g1] at h2; exact h2.elim
    | q n1 =>
      obtain ⟨r', as', ex', hσ', nd', hn'⟩ := i2.part g1
      rw [ex] at ex'
      cases ex'
      cases n1 with
      | ins C ns cs => simp only [g1] at h2; exact h2.elim
      | lst cs =>
        cases r2 with
        | int i =>
          simp only [g1] at h2
          cases z : ixN cs.length i with
          | none => simp only [z] at h2; exact h2.elim
          | some k =>
            simp only [z] at h2
            cases w : cs[k]? with
            | none => simp only [w] at h2; exact h2.elim
            | some p =>
              cases p with
              | l x => simp only [w] at h2; exact h2.elim
              | d x0 =>
                simp only [w] at h2
                obtain ⟨vs, q1, q2⟩ := hn'
                refine ⟨r, vs, i, k, rfl, rfl, q1, by rw [← q2.length]; exact z, ?_⟩
                have rn : r ∉ as := (List.nodup_cons.mp nd).1
                obtain ⟨s3, l3⟩ := i2.putR (o := .lst (vs.set k x)) (n' := .lst (cs.set k (.d d))) g1 ex nu_lst nc_lst fun B le => ⟨vs.set k x, upd_same, ((q2.setD (r1.le l2) w).mv le fun b o hb h _ => by
                  rw [upd_ne (fun q => rn (by rw [← q]; exact hb))]
                  exact h)⟩
                exact h2 σ _ s3 l3
        | _ => simp only [g1] at h2; exact h2.elim⟩
instance setQF_sx {C : Addr} {f : Str} [he : EX K W te me] [hc : ClsOk K C] [hf : FldOk K C f] : SX K W (sFldC K C (tVarQ j) te f) (cSetQF j C f me) := ⟨fun c σ H sl Dn s h => by
  refine he.ok c σ H sl _ s (h.split.imp fun x H1 ⟨d, s1, _, i1, r1, l1, h1⟩ => ?_)
  unfold kSetQF at h1
  cases g0 : gS s1 j with
  | no => simp only [g0] at h1; exact h1.elim
  | v d => simp only [g0] at h1; exact h1.elim
  | o m => simp only [g0] at h1; exact h1.elim
  | q n0 =>
    obtain ⟨r, as, ex, hσ, nd, hn⟩ := i1.part g0
    cases n0 with
    | lst cs => simp only [g0] at h1; exact h1.elim
    | ins C' ns cs =>
      simp only [g0] at h1
      by_cases w0 : C' = C ∧ ns.length < 1000
      · rw [if_pos w0] at h1
        obtain ⟨w1, w2⟩ := w0
        subst w1
        cases z : ixS ns f with
        | none => simp only [z] at h1; exact h1.elim
        | some k =>
          simp only [z] at h1
          cases w : cs[k]? with
          | none => simp only [w] at h1; exact h1.elim
          | some p =>
            cases p with
            | l x => simp only [w] at h1; exact h1.elim
            | d x0 =>
              simp only [w] at h1
              obtain ⟨dx, vs, q1, ql, q2⟩ := hn
              refine ⟨.ref r, hσ, r, C', dx, ns.zip vs, rfl, q1, hc.ok, hf.ok, by rw [List.length_zip]; omega, ?_⟩
              rw [putF_ixS ql z]
              have rn : r ∉ as := (List.nodup_cons.mp nd).1
              obtain ⟨s3, l3⟩ := i1.putR (o := .ins C' dx (ns.zip (vs.set k x))) (n' := .ins C' ns (cs.set k (.d d))) g0 ex nu_ins nc_ins fun B le => ⟨dx, vs.set k x, upd_same, by rw [List.length_set]; exact ql, ((q2.setD r1 w).mv le fun b o hb h _ => by
                rw [upd_ne (fun q => rn (by rw [← q]; exact hb))]
                exact h)⟩
              exact h1 σ _ s3 l3
      · rw [if_neg w0] at h1; exact h1.elim⟩
end
end DL
set_option linter.all false
set_option autoImplicit false
set_option maxRecDepth 100000
set_option maxHeartbeats 2000000
/-! DxQb: an object with parts of its own is made; the statement through which it lives; such an object lent to a def. -/
namespace DL
open PySem PySem.Spec L2
def Ct.holds (c : Ct) (H : Hp) (as : List Addr) : Ct := ⟨fun b => if b ∈ as then H b else c.H0 b, c.P, fun b => c.U b ∨ b ∈ as, c.X⟩
theorem Ct.holds_nil (c : Ct) (H : Hp) : c.holds H [] = c := by
  cases c
  simp [Ct.holds]
theorem Ct.holds_cons {c : Ct} {H : Hp} {as : List Addr} {p : Addr} {o : HO} (hp : H p = some o) (np : p ∉ as) : (c.hide p o).holds H as = c.holds H (p :: as) := by
  unfold Ct.holds Ct.hide
  congr 1
  · funext b
    show (if b ∈ as then H b else upd c.H0 p o b) = if b ∈ p :: as then H b else c.H0 b
    by_cases q : b = p
    · subst q
      rw [if_neg np, upd_same, if_pos (List.mem_cons_self ..), hp]
    · by_cases w : b ∈ as
      · rw [if_pos w, if_pos (List.mem_cons_of_mem _ w)]
      · rw [if_neg w, upd_ne q, if_neg (fun z => (List.mem_cons.mp z).elim q w)]
  · funext b
    refine propext ⟨fun h => h.elim (fun h => h.elim .inl fun q => .inr (by rw [q]; exact List.mem_cons_self ..)) fun w => .inr (List.mem_cons_of_mem _ w), fun h => h.elim (fun h => .inl (.inl h)) fun w => (List.mem_cons.mp w).elim (fun q => .inl (.inr q)) .inr⟩
def LQOk (K : PySem.W.Frag) (W : WX) (c : Ct) (σ : L2.St) (H : Hp) (sl : List S) (r : ER (List CO)) (Q : List V → Hp → Prop) : Prop := match r with
  | .ok cs sl' => ∀ (vs : List V) (as : List Addr) (H' : Hp), Sim K (c.holds H' as) sl' σ H' → as.Nodup → (∀ a ∈ as, New c a) → COs K H' (fz (c.holds H' as) sl' σ H') cs vs as → Le (fz c sl σ H) (fz (c.holds H' as) sl' σ H') → Q vs H'
  | .exn _ _ => False
  | .bad => False
class LQX (K : PySem.W.Frag) (W : WX) (t : TA) (m : outParam (List S → ER (List CO))) : Prop where
  ok : ∀ (c : Ct) (σ : L2.St) (H : Hp) (sl : List S) (Q : List V → Hp → Prop), Sim K c sl σ H → LQOk K W c σ H sl (m sl) Q → t σ H Q
def cLQn : List S → ER (List CO) := fun sl => .ok [] sl
def consL (p : CO) (r : ER (List CO)) : ER (List CO) := match r with
  | .ok cs s => .ok (p :: cs) s
  | _ => .bad
def kLQl (mr : List S → ER (List CO)) : ER MO → ER (List CO)
  | .ok (.lst xs) s => consL (.l xs) (mr s)
  | _ => .bad
def cLQl (ma : NM) (mr : List S → ER (List CO)) : List S → ER (List CO) := fun sl => kLQl mr (ma sl)
def kLQd (mr : List S → ER (List CO)) : ER D → ER (List CO)
  | .ok x s => consL (.d x) (mr s)
  | _ => .bad
def cLQd (ma : EM) (mr : List S → ER (List CO)) : List S → ER (List CO) := fun sl => kLQd mr (ma sl)
/-- a part that is a new list -/
def tNewP (t : TE) : TE := t
theorem pnew {X : Cx} {e : Expr} {t : TE} (h : PE X e t) : PE X e (tNewP t) := h
section
variable {K : PySem.W.Frag} {W : WX} {ta : TE} {tr : TA} {mn : NM} {me : EM} {mr : List S → ER (List CO)}
instance lqn_x : LQX K W tNil cLQn := ⟨fun c σ H sl Q s h => by
  refine h [] [] H ?_ List.nodup_nil (fun a h => nomatch h) .nil ?_
  · rw [Ct.holds_nil]; exact s
  · rw [Ct.holds_nil]; exact Le.rfl⟩
theorem New.under {c : Ct} {a p : Addr} {o : HO} (h : New (c.hide p o) a) (hp : New c p) : New c a ∧ a ≠ p := by
  have ne : a ≠ p := fun q => h.u (.inr q)
  refine ⟨⟨fun u e => h.h0 u ?_, h.p, fun q => h.u (.inl q), h.x, hp.uh⟩, ne⟩
  show upd c.H0 p o a = some u
  rw [upd_ne ne]
  exact e
instance lql_x [ha : NX K W ta mn] [hr : LQX K W tr mr] : LQX K W (tCons (tNewP ta) tr) (cLQl mn mr) := ⟨fun c σ H sl Q s h => by
  refine ha.ok c σ H sl _ s ?_
  unfold cLQl at h
  cases e : mn sl with
  | bad => rw [e] at h; exact h.elim
  | exn x s1 => rw [e] at h; exact h.elim
  | ok m s1 =>
    rw [e] at h
    cases m with
    | lst xs =>
      intro p o H1 i1 n r1 l1
      obtain ⟨ws, rfl, rx⟩ := r1
      have w := i1.new n
      obtain ⟨i2, l2⟩ := i1.hide n (nu_lst (xs := ws))
      simp only [kLQl] at h
      refine hr.ok _ σ _ s1 _ i2 ?_
      cases e2 : mr s1 with
      | bad => rw [e2] at h; exact h.elim
      | exn x s2 => rw [e2] at h; exact h.elim
      | ok cs s2 =>
        rw [e2] at h
        intro vs as H2 i3 nd nw co l3
        have np : p ∉ as := fun q => (nw p q).u (.inr rfl)
        have hp : H2 p = some (.lst ws) := i3.frm p _ (by
          show (if p ∈ as then H2 p else upd c.H0 p (.lst ws) p) = _
          rw [if_neg np, upd_same]) nt_lst w.p w.x
        have ce : (c.hide p (.lst ws)).holds H2 as = c.holds H2 (p :: as) := Ct.holds_cons hp np
        rw [ce] at i3 co l3
        refine h (.ref p :: vs) (p :: as) H2 i3 (List.nodup_cons.mpr ⟨np, nd⟩) (fun a q => ?_) (.l hp (rx.le (l2.trans l3)) co) (l1.trans (l2.trans l3))
        rcases List.mem_cons.mp q with q | q
        · rw [q]; exact w
        · exact ((nw a q).under w).1
    | _ => exact h.elim⟩
instance lqd_x [ha : EX K W ta me] [hr : LQX K W tr mr] : LQX K W (tCons ta tr) (cLQd me mr) := ⟨fun c σ H sl Q s h => by
  refine ha.ok c σ H sl _ s ?_
  unfold cLQd at h
  cases e : me sl with
  | bad => rw [e] at h; exact h.elim
  | exn x s1 => rw [e] at h; exact h.elim
  | ok d s1 =>
    rw [e] at h
    intro v H1 i1 r1 l1
    simp only [kLQd] at h
    refine hr.ok _ σ _ s1 _ i1 ?_
    cases e2 : mr s1 with
    | bad => rw [e2] at h; exact h.elim
    | exn x s2 => rw [e2] at h; exact h.elim
    | ok cs s2 =>
      rw [e2] at h
      intro vs as H2 i3 nd nw co l3
      exact h (v :: vs) as H2 i3 nd nw (.d (r1.le l3) co) (l1.trans l3)⟩
end
theorem COs.objs {K : PySem.W.Frag} {H A : Hp} : ∀ {cs : List CO} {vs : List V} {as : List Addr}, COs K H A cs vs as → ∀ b ∈ as, ∃ o, H b = some o ∧ NU o ∧ NC o
  | _, _, _, .nil, _, h => nomatch h
  | _, _, _, .d _ q, b, h => COs.objs q b h
  | _, _, _, .l h0 _ q, b, h => (List.mem_cons.mp h).elim (fun e => by rw [e]; exact ⟨_, h0, nu_lst, nc_lst⟩) (COs.objs q b)
theorem NHeld.objs {K : PySem.W.Frag} {H A : Hp} {r : Addr} {as : List Addr} {n : NO} (h : NHeld K H A r as n) : ∀ b ∈ r :: as, ∃ o, H b = some o ∧ NU o ∧ NC o := fun b hb => by
  cases n with
  | lst cs =>
    obtain ⟨vs, h1, h2⟩ := h
    exact (List.mem_cons.mp hb).elim (fun e => by rw [e]; exact ⟨_, h1, nu_lst, nc_lst⟩) (h2.objs b)
  | ins C ns cs =>
    obtain ⟨dx, vs, h1, _, h2⟩ := h
    exact (List.mem_cons.mp hb).elim (fun e => by rw [e]; exact ⟨_, h1, nu_ins, nc_ins⟩) (h2.objs b)
theorem COs.toD {K : PySem.W.Frag} {H A B : Hp} (l : Le A B) : ∀ {cs : List CO} {vs : List V} {as : List Addr}, COs K H A cs vs as → (∀ b o, b ∈ as → H b = some o → B b = some o) → Reps K B (cs.map CO.toD) vs
  | _, _, _, .nil, _ => .nil
  | _, _, _, .d r q, f => .cons (r.le l) (COs.toD l q f)
  | _, _, _, .l h r q, f => .cons (.lst (f _ _ (List.mem_cons_self ..) h) (r.le l)) (COs.toD l q fun b o hb => f b o (List.mem_cons_of_mem _ hb))
theorem NHeld.toD {K : PySem.W.Frag} {H A B : Hp} (l : Le A B) {r : Addr} {as : List Addr} {n : NO} (h : NHeld K H A r as n) (f : ∀ b o, b ∈ r :: as → H b = some o → B b = some o) : Rep K B n.toD (.ref r) := by
  cases n with
  | lst cs =>
    obtain ⟨vs, h1, h2⟩ := h
    exact .lst (f _ _ (List.mem_cons_self ..) h1) (h2.toD l fun b o hb => f b o (List.mem_cons_of_mem _ hb))
  | ins C ns cs =>
    obtain ⟨dx, vs, h1, hl, h2⟩ := h
    exact .ins (f _ _ (List.mem_cons_self ..) h1) hl (h2.toD l fun b o hb => f b o (List.mem_cons_of_mem _ hb))
/-! ### the object itself -/
def NQOk (K : PySem.W.Frag) (W : WX) (c : Ct) (σ : L2.St) (H : Hp) (sl : List S) (r : ER NO) (Q : VK) : Prop := match r with
  | .ok no sl' => ∀ (p : Addr) (as : List Addr) (H' : Hp), Sim K (c.holds H' (p :: as)) sl' σ H' → (p :: as).Nodup → (∀ a ∈ p :: as, New c a) → NHeld K H' (fz (c.holds H' (p :: as)) sl' σ H') p as no → Le (fz c sl σ H) (fz (c.holds H' (p :: as)) sl' σ H') → Q (.ref p) H'
  | .exn _ _ => False
  | .bad => False
class NQX (K : PySem.W.Frag) (W : WX) (t : TE) (m : outParam (List S → ER NO)) : Prop where
  ok : ∀ (c : Ct) (σ : L2.St) (H : Hp) (sl : List S) (Q : VK), Sim K c sl σ H → NQOk K W c σ H sl (m sl) Q → t σ H Q
def kNQ : ER (List CO) → ER NO
  | .ok cs s => if cs.length ≤ sizeLine then .ok (.lst cs) s else .bad
  | _ => .bad
def cNQ (mr : List S → ER (List CO)) : List S → ER NO := fun sl => kNQ (mr sl)
theorem Sim.holdsP {K : PySem.W.Frag} {c : Ct} {σ : L2.St} {H : Hp} {sl : List S} {as : List Addr} {p : Addr} {o : HO} (s : Sim K (c.holds H as) sl σ H) (n : H p = none) (nu : NU o) (nd : as.Nodup) (nw : ∀ a ∈ as, New c a) (uh : ∀ b, c.U b → c.P ≠ some b ∧ ∃ o, c.H0 b = some o ∧ NU o)
    (hk : ∀ b, b ∈ as → ∃ o, H b = some o) : Sim K (c.holds (upd H p o) (p :: as)) sl σ (upd H p o) ∧ (p :: as).Nodup ∧ (∀ a ∈ p :: as, New c a) ∧ Le (fz (c.holds H as) sl σ H) (fz (c.holds (upd H p o) (p :: as)) sl σ (upd H p o)) := by
  have np : p ∉ as := fun q => by
    obtain ⟨o', e⟩ := hk p q
    rw [n] at e
    cases e
  have w := s.new n
  have w0 : New c p := ⟨fun u e => w.h0 u (by
    show (if p ∈ as then H p else c.H0 p) = some u
    rw [if_neg np]
    exact e), w.p, fun q => w.u (.inl q), w.x, uh⟩
  obtain ⟨i2, l2⟩ := s.hide n nu
  have ce : (c.holds H as).hide p o = c.holds (upd H p o) (p :: as) := by
    unfold Ct.holds Ct.hide
    congr 1
    · funext b
      by_cases q : b = p
      · subst q
        rw [upd_same, if_pos (List.mem_cons_self ..), upd_same]
      · rw [upd_ne q]
        show (if b ∈ as then H b else c.H0 b) = _
        by_cases z : b ∈ as
        · rw [if_pos z, if_pos (List.mem_cons_of_mem _ z), upd_ne q]
        · rw [if_neg z, if_neg (fun y => (List.mem_cons.mp y).elim q z)]
    · funext b
      refine propext ⟨fun h => h.elim (fun h => h.elim .inl fun q => .inr (List.mem_cons_of_mem _ q)) fun w => .inr (by rw [w]; exact List.mem_cons_self ..), fun h => h.elim (fun h => .inl (.inl h)) fun w => (List.mem_cons.mp w).elim .inr fun q => .inl (.inr q)⟩
  rw [ce] at i2 l2
  exact ⟨i2, List.nodup_cons.mpr ⟨np, nd⟩, fun a q => (List.mem_cons.mp q).elim (fun q => by rw [q]; exact w0) (nw a), l2⟩
instance nq_x {K : PySem.W.Frag} {W : WX} {tr : TA} {mr : List S → ER (List CO)} [hr : LQX K W tr mr] : NQX K W (tLst tr) (cNQ mr) := ⟨fun c σ H sl Q s h => by
  refine hr.ok c σ H sl _ s ?_
  unfold cNQ at h
  cases e : mr sl with
  | bad => rw [e] at h; exact h.elim
  | exn x s1 => rw [e] at h; exact h.elim
  | ok cs s1 =>
    rw [e] at h
    intro vs as H1 i1 nd nw co l1
    simp only [kNQ] at h
    by_cases q : cs.length ≤ sizeLine
    · rw [if_pos q] at h
      refine ⟨by rw [← co.length]; exact q, fun p n => ?_⟩
      obtain ⟨i2, nd2, nw2, l2⟩ := i1.holdsP (o := .lst vs) n nu_lst nd nw s.uh fun b hb => let ⟨o, e, _⟩ := co.objs b hb; ⟨o, e⟩
      refine h p as _ i2 nd2 nw2 ⟨vs, upd_same, co.mv l2 fun b o hb hH _ => ?_⟩ (l1.trans l2)
      rw [upd_ne (fun z => (List.nodup_cons.mp nd2).1 (by rw [← z]; exact hb))]
      exact hH
    · rw [if_neg q] at h; exact h.elim⟩
/-! ### the statement through which it lives -/
open Classical in
noncomputable def Ct.ownX (c : Ct) (H : Hp) (i : Nat) (r : Addr) (as : List Addr) : Ct := ⟨fun b => if b ∈ r :: as ∨ c.Xs b then H b else c.H0 b, c.P, fun b => c.U b ∨ b ∈ r :: as, some (i, r, as)⟩
def noQ : List S → Bool
  | [] => true
  | .q _ :: _ => false
  | _ :: r => noQ r
theorem noQ_at : ∀ {sl : List S} {j : Nat} {n : NO}, noQ sl = true → sl[j]? ≠ some (.q n)
  | [], _, _, _, e => by simp at e
  | .q _ :: _, _, _, h, _ => by simp [noQ] at h
  | .no :: r, 0, _, _, e => by simp at e
  | .v _ :: r, 0, _, _, e => by simp at e
  | .o _ :: r, 0, _, _, e => by simp at e
  | .no :: r, j + 1, _, h, e => noQ_at (sl := r) (by simpa [noQ] using h) (by simpa using e)
  | .v _ :: r, j + 1, _, h, e => noQ_at (sl := r) (by simpa [noQ] using h) (by simpa using e)
  | .o _ :: r, j + 1, _, h, e => noQ_at (sl := r) (by simpa [noQ] using h) (by simpa using e)
structure Own0 (c : Ct) (H1 : Hp) (r : Addr) (as : List Addr) : Prop where
  nw : ∀ a ∈ r :: as, New c a
  hk : ∀ b, c.Xs b → c.U b ∧ ∃ o, H1 b = some o ∧ NU o ∧ NC o
section
variable {K : PySem.W.Frag} {c : Ct} {σ : L2.St} {H H1 : Hp} {sl : List S} {i : Nat} {r : Addr} {as : List Addr} {n : NO}
theorem mem_iff {b : Addr} : b ∈ r :: as ↔ b = r ∨ b ∈ as := List.mem_cons
open Classical in
theorem Sim.enter (s : Sim K (c.holds H (r :: as)) sl σ H) (nd : (r :: as).Nodup) (nw : ∀ a ∈ r :: as, New c a) (hn : NHeld K H (fz (c.holds H (r :: as)) sl σ H) r as n) (nq : noQ sl = true) (hlt : i < sl.length) :
    Sim K (c.ownX H i r as) (sS sl i (.q n)) (σ.set i (some (.ref r))) H ∧ Le (fz (c.holds H (r :: as)) sl σ H) (fz (c.ownX H i r as) (sS sl i (.q n)) (σ.set i (some (.ref r))) H) ∧ Own0 c H r as := by
  have hk : ∀ b, c.Xs b → c.U b ∧ ∃ o, H b = some o ∧ NU o ∧ NC o := fun b x => by
    obtain ⟨u, o⟩ := s.ne.xk b x
    exact ⟨u.elim id fun q => absurd x (nw b q).x, o⟩
  obtain ⟨i1, l1⟩ := s.noX i (some (V.ref r))
  rw [sS_set] at i1 l1 ⊢
  have hσ : i < σ.length := by rw [← s.len]; exact hlt
  have old : ∀ (j : Nat) (x : S), (sl.set i (.q n))[j]? = some x → (∀ n, x ≠ .q n) → (sl.set i .no)[j]? = some x ∧ j ≠ i := fun j x e nx => by
    by_cases q : j = i
    · subst q
      rw [List.getElem?_set_self hlt] at e
      exact absurd (Option.some.inj e).symm (nx _)
    · rw [List.getElem?_set_ne (Ne.symm q)] at e ⊢
      exact ⟨e, q⟩
  have sub : ∀ b, Hid (c.ownX H i r as) (sl.set i (.q n)) (σ.set i (some (V.ref r))) b → Hid (c.holds H (r :: as)) (sl.set i .no) (σ.set i (some (V.ref r))) b := fun b hb => hb.elim .inl fun ⟨j, m, h1, h2⟩ => .inr ⟨j, m, (old j _ h1 (fun _ q => nomatch q)).1, h2⟩
  have le : Le (fz (c.holds H (r :: as)) (sl.set i .no) (σ.set i (some (V.ref r))) H) (fz (c.ownX H i r as) (sl.set i (.q n)) (σ.set i (some (V.ref r))) H) := Hm_sub sub
  have h0 : ∀ b u, (c.ownX H i r as).H0 b = some u → b ∉ r :: as → ¬ c.Xs b → (c.holds H (r :: as)).H0 b = some u := fun b u e n1 n2 => by
    have e : (if b ∈ r :: as ∨ c.Xs b then H b else c.H0 b) = some u := e
    rw [if_neg (fun q => q.elim n1 n2)] at e
    show (if b ∈ r :: as then H b else c.H0 b) = some u
    rw [if_neg n1]
    exact e
  refine ⟨⟨by rw [List.length_set, List.length_set]; exact s.len, fun j d e => ?_, fun j m e => ?_, fun j k m1 m2 b h1 h2 h3 h4 => i1.dis j k m1 m2 b (old j _ h1 (fun _ q => nomatch q)).1 (old k _ h2 (fun _ q => nomatch q)).1 h3 h4, fun b m q e => i1.par b m q (old 0 _ e (fun _ q => nomatch q)).1,
    fun b u e nt q x => ?_, fun b q => ?_, i1.pex, i1.tab, ⟨fun b x => ?_, fun j m e => ?_, fun j r2 as2 m e1 e2 => ?_⟩⟩, l1.trans le, nw, hk⟩
  · obtain ⟨v, h1, h2⟩ := i1.val j d (old j _ e (fun _ q => nomatch q)).1
    exact ⟨v, h1, h2.le le⟩
  · obtain ⟨b, o, h1, h2, h3, h4, h5⟩ := i1.own j m (old j _ e (fun _ q => nomatch q)).1
    refine ⟨b, o, h1, h2, h3.imp id fun h3 u e => ?_, h4, h5.le le⟩
    have n1 : b ∉ r :: as := fun q => h2 (.inr q)
    have n2 : ¬ c.Xs b := fun q => h2 (.inl (hk b q).1)
    exact h3 u (h0 b u e n1 n2)
  · have n1 : b ∉ r :: as := fun q => x ⟨i, r, as, rfl, mem_iff.mp q⟩
    by_cases z : c.Xs b
    · have e : (if b ∈ r :: as ∨ c.Xs b then H b else c.H0 b) = some u := e
      rw [if_pos (.inr z)] at e
      exact e
    · exact i1.frm b u (h0 b u e n1 z) nt q z
  · by_cases n1 : b ∈ r :: as
    · obtain ⟨o, h1, h2, _⟩ := hn.objs b n1
      refine ⟨(nw b n1).p, o, ?_, h2⟩
      show (if b ∈ r :: as ∨ c.Xs b then H b else c.H0 b) = some o
      rw [if_pos (.inl n1)]
      exact h1
    · have q : c.U b := q.elim id fun y => absurd y n1
      obtain ⟨h1, o, h2, h3⟩ := s.uh b (.inl q)
      by_cases z : c.Xs b
      · obtain ⟨_, o', g1, g2, _⟩ := hk b z
        refine ⟨h1, o', ?_, g2⟩
        show (if b ∈ r :: as ∨ c.Xs b then H b else c.H0 b) = some o'
        rw [if_pos (.inr z)]
        exact g1
      · refine ⟨h1, o, ?_, h3⟩
        have h2 : (if b ∈ r :: as then H b else c.H0 b) = some o := h2
        rw [if_neg n1] at h2
        show (if b ∈ r :: as ∨ c.Xs b then H b else c.H0 b) = some o
        rw [if_neg (fun q => q.elim n1 z)]
        exact h2
  · obtain ⟨j, r2, as2, e, q⟩ := x
    cases e
    have m : b ∈ r :: as := mem_iff.mpr q
    exact ⟨.inr m, hn.objs b m⟩
  · by_cases q : j = i
    · subst q; exact ⟨r, as, rfl⟩
    · rw [List.getElem?_set_ne (Ne.symm q)] at e
      exact absurd e (noQ_at nq)
  · cases e1
    rw [List.getElem?_set_self hlt] at e2
    cases e2
    exact ⟨List.getElem?_set_self hσ, nd, hn.mv (l1.trans le) fun _ _ _ h _ => h⟩
open Classical in
theorem Sim.leave (s : Sim K (c.ownX H1 i r as) sl σ H) (g : gS sl i = .q n) (w : Own0 c H1 r as) :
    Sim K c (sS sl i (.v n.toD)) σ H ∧ Le (fz (c.ownX H1 i r as) sl σ H) (fz c (sS sl i (.v n.toD)) σ H) := by
  have hi := gS_some g (fun q => nomatch q)
  obtain ⟨hσ, nd, hn⟩ := s.ne.nst i r as n rfl hi
  rw [sS_set]
  have hlt : i < sl.length := (List.getElem?_eq_some_iff.mp hi).1
  have old : ∀ (j : Nat) (x : S), (sl.set i (.v n.toD))[j]? = some x → (∀ d, x ≠ .v d) → sl[j]? = some x ∧ j ≠ i := fun j x e nx => by
    by_cases q : j = i
    · subst q
      rw [List.getElem?_set_self hlt] at e
      exact absurd (Option.some.inj e).symm (nx _)
    · rw [List.getElem?_set_ne (Ne.symm q)] at e
      exact ⟨e, q⟩
  have sub : ∀ b, Hid c (sl.set i (.v n.toD)) σ b → Hid (c.ownX H1 i r as) sl σ b := fun b hb => hb.elim (fun q => .inl (.inl q)) fun ⟨j, m, h1, h2⟩ => .inr ⟨j, m, (old j _ h1 (fun _ q => nomatch q)).1, h2⟩
  have le : Le (fz (c.ownX H1 i r as) sl σ H) (fz c (sl.set i (.v n.toD)) σ H) := Hm_sub sub
  have h0 : ∀ b, b ∉ r :: as → ¬ c.Xs b → (c.ownX H1 i r as).H0 b = c.H0 b := fun b n1 n2 => if_neg (fun q => q.elim n1 n2)
  have vis : ∀ b ∈ r :: as, ¬ Hid c (sl.set i (.v n.toD)) σ b := fun b hb q => by
    rcases q with q | ⟨j, m, h1, h2⟩
    · exact (w.nw b hb).u q
    · obtain ⟨a', o, e1, e2, _⟩ := s.own j m (old j _ h1 (fun _ q => nomatch q)).1
      rw [h2] at e1
      cases e1
      exact e2 (.inr hb)
  have noq : ∀ (j : Nat) (m : NO), (sl.set i (S.v n.toD))[j]? ≠ some (.q m) := fun j m e => by
    obtain ⟨e, q⟩ := old j _ e (fun _ q => nomatch q)
    obtain ⟨r2, as2, e2⟩ := s.ne.qx j m e
    cases e2
    exact q rfl
  have rep : Rep K (fz c (sl.set i (.v n.toD)) σ H) n.toD (.ref r) := hn.toD le fun b o hb hH => Hm_some.mpr ⟨vis b hb, hH⟩
  refine ⟨⟨by rw [List.length_set]; exact s.len, fun j d e => ?_, fun j m e => ?_, fun j k m1 m2 b h1 h2 h3 h4 => s.dis j k m1 m2 b (old j _ h1 (fun _ q => nomatch q)).1 (old k _ h2 (fun _ q => nomatch q)).1 h3 h4, fun b m q e => s.par b m q (old 0 _ e (fun _ q => nomatch q)).1,
    fun b u e nt q x => ?_, (w.nw r (List.mem_cons_self ..)).uh, s.pex, s.tab, ⟨fun b x => ?_, fun j m e => absurd e (noq j m), fun j r2 as2 m e1 e2 => absurd e2 (noq j m)⟩⟩, le⟩
  · by_cases q : j = i
    · subst q
      rw [List.getElem?_set_self hlt] at e
      cases e
      exact ⟨_, hσ, rep⟩
    · rw [List.getElem?_set_ne (Ne.symm q)] at e
      obtain ⟨v, h1, h2⟩ := s.val j d e
      exact ⟨v, h1, h2.le le⟩
  · obtain ⟨b, o, h1, h2, h3, h4, h5⟩ := s.own j m (old j _ e (fun _ q => nomatch q)).1
    refine ⟨b, o, h1, fun q => h2 (.inl q), h3.imp id fun h3 u e => h3 u ?_, h4, h5.le le⟩
    rw [h0 b (fun q => h2 (.inr q)) fun q => h2 (.inl (w.hk b q).1)]
    exact e
  · by_cases n1 : b ∈ r :: as
    · exact absurd nt ((w.nw b n1).h0 u e)
    · exact s.frm b u (by rw [h0 b n1 x]; exact e) nt q fun ⟨_, _, _, e, q⟩ => (by cases e; exact n1 (mem_iff.mpr q))
  · obtain ⟨u, o, h1, h2, h3⟩ := w.hk b x
    refine ⟨u, o, s.frm b o ?_ h2.1 ((w.nw r (List.mem_cons_self ..)).uh b u).1 fun ⟨_, _, _, e, q⟩ => (by cases e; exact (w.nw b (mem_iff.mpr q)).x x), h2, h3⟩
    show (if b ∈ r :: as ∨ c.Xs b then H1 b else c.H0 b) = some o
    rw [if_pos (.inr x)]
    exact h1
end
def tAsgQ (te : TE) (g : TG) : TS := tAsg te g
theorem PS.asgQ {X : Cx} {s : Stmt} {te : TE} {g : TG} (h : PS X s (tAsg te g)) : PS X s (tAsgQ te g) := h
def kScopeR (i : Nat) (mr : SM) : SR → SR
  | .nx s1 => (match gS s1 i with
    | .q n1 => mr (sS s1 i (.v n1.toD))
    | _ => .bad)
  | .rt d s1 => (match gS s1 i with
    | .q n1 => .rt d (sS s1 i (.v n1.toD))
    | _ => .bad)
  | .exn x s1 => (match gS s1 i with
    | .q n1 => .exn x (sS s1 i (.v n1.toD))
    | _ => .bad)
  | _ => .bad
def kScope (i : Nat) (mb mr : SM) : ER NO → SR
  | .ok no s => if noQ s = true ∧ i < s.length then kScopeR i mr (mb (sS s i (.q no))) else .bad
  | _ => .bad
/-- x = a new object with parts; a statement; what follows, for which x is a value -/
def cScope (i : Nat) (mk : List S → ER NO) (mb mr : SM) : SM := fun sl => kScope i mb mr (mk sl)
instance (priority := high) scope_sx {K : PySem.W.Frag} {W : WX} {t : TE} {i : Nat} {tb tr : TS} {mk : List S → ER NO} {mb mr : SM} [hk : NQX K W t mk] [hb : SX K W tb mb] [hr : SX K W tr mr] : SX K W (tSeq (tAsgQ t (gName i)) (tSeq tb tr)) (cScope i mk mb mr) := ⟨fun c σ H sl Dn s h => by
  refine hk.ok c σ H sl _ s ?_
  unfold cScope at h
  cases e : mk sl with
  | bad => rw [e] at h; exact h.elim
  | exn x s1 => rw [e] at h; exact h.elim
  | ok no s1 =>
    rw [e] at h
    intro r as H1 i1 nd nw hn l1
    simp only [kScope] at h
    by_cases q : noQ s1 = true ∧ i < s1.length
    · rw [if_pos q] at h
      obtain ⟨i2, l2, w⟩ := i1.enter nd nw hn q.1 q.2
      refine hb.ok _ _ H1 _ { Dn with nx := tr Dn } i2 ?_
      cases e2 : mb (sS s1 i (.q no)) with
      | bad => rw [e2] at h; exact h.elim
      | bk s2 => rw [e2] at h; exact h.elim
      | ct s2 => rw [e2] at h; exact h.elim
      | nx s2 =>
        rw [e2] at h
        intro σ' H' i3 l3
        simp only [kScopeR] at h
        cases g : gS s2 i with
        | q n1 =>
          simp only [g] at h
          obtain ⟨i4, l4⟩ := i3.leave g w
          exact hr.ok c σ' H' _ Dn i4 (SOk.le (l1.trans (l2.trans (l3.trans l4))) h)
        | _ => simp only [g] at h; exact h.elim
      | rt d s2 =>
        rw [e2] at h
        intro v σ' H' i3 r3 l3
        simp only [kScopeR] at h
        cases g : gS s2 i with
        | q n1 =>
          simp only [g] at h
          obtain ⟨i4, l4⟩ := i3.leave g w
          exact h v σ' H' i4 (r3.le l4) (l1.trans (l2.trans (l3.trans l4)))
        | _ => simp only [g] at h; exact h.elim
      | exn x s2 =>
        rw [e2] at h
        intro cls dd σ' H' i3 r3 l3
        simp only [kScopeR] at h
        cases g : gS s2 i with
        | q n1 =>
          simp only [g] at h
          obtain ⟨i4, l4⟩ := i3.leave g w
          exact h cls dd σ' H' i4 (r3.le l4) (l1.trans (l2.trans (l3.trans l4)))
        | _ => simp only [g] at h; exact h.elim
    · rw [if_neg q] at h; exact h.elim⟩
end DL
set_option linter.all false
set_option autoImplicit false
set_option maxRecDepth 100000
set_option maxHeartbeats 2000000
/-! DyA: own exceptions as values: made, asked for their classes, their fields read. -/
namespace DL
open PySem PySem.Spec L2 PyProof.Rows
/-- C(e, ..), a value -/
def tXv (C : Addr) (fs : List Str) (t : TA) : TE := fun σ H Q => t σ H fun us H1 => us.length = fs.length ∧ us.length ≤ 1000 ∧ ∀ a dx H2, H1 a = none → H1 dx = none → dx ≠ a → H2 a = some (exo a C (some dx)) → H2 dx = some (exd dx (xL fs us)) → (∀ b, b ≠ a → b ≠ dx → H2 b = H1 b) → Q (.ref a) H2
def tXv0 (C : Addr) : TE := fun σ H Q => ∀ a, H a = none → Q (.ref a) (upd H a (exo a C none))
section
variable {X : Cx} {k : Nat} {x : Str} {C : Addr} {fs : List Str} {p pos : Pos} {e : Expr} {es : List Expr} {ta : TA}
theorem pe_xv0 (d : Xn X.prog X.w X.K X.mg X.base k x C [] (spI0 C)) (hr : Room (k + 1) X.A) (hg : Gl X x := by rfl) (hdb : (x == ("__debug__" : Str)) = false := by decide) : PE X (.Call (.Name x p) [] [] pos) (tXv0 C) := by
  obtain ⟨fI, fd, iC, tI, F1, hb⟩ := d.mkr
  have T := d.T
  have hm := d.at_
  refine ⟨fun pins s σ H Q I h => ?_⟩
  obtain ⟨nm, q, N, bs, bm, sn, sub, ab, col, dd, k0, k1, k2, k3, k5, hC, hbm⟩ := T.cls
  refine wpAny_Call_Name_kw (ld_glob I hg hm ?_ hdb)
  refine PySem.W.callWith_K0 I.kIn T.kC ?_
  show wpAny _ _ (call (.ref C) []) _ _ _
  obtain ⟨hp, g, dr, tk, os⟩ := s
  have hsz : hp.objs.size ≤ hp.objs.size + 1 := Nat.le_succ _
  have hn : H (hp.objs.size + 1) = none := I.hok.fresh hsz
  have kk : ∀ b o, hp.get? b = some o → ((hp.push (PySem.W.kdv_tup [])).push (PySem.HandSPX.excO C hp.objs.size)).get? b = some o := fun b o e => Heap.get?_push_of_some _ (Heap.get?_push_of_some _ e)
  have hget : ((hp.push (PySem.W.kdv_tup [])).push (PySem.HandSPX.excO C hp.objs.size)).get? (hp.objs.size + 1) = some (PySem.HandSPX.excO C hp.objs.size) := by heap_get
  have I2 : Inv X pins σ (upd H (hp.objs.size + 1) (exo (hp.objs.size + 1) C none)) ⟨(hp.push (PySem.W.kdv_tup [])).push (PySem.HandSPX.excO C hp.objs.size), g, dr, tk, os⟩ :=
    I.laid (t' := tk) (a := hp.objs.size + 1) (o := exo (hp.objs.size + 1) C none) (h' := (hp.push (PySem.W.kdv_tup [])).push (PySem.HandSPX.excO C hp.objs.size)) kk hsz (exo_ok hget)
  have r2 : Vals [V.ref (hp.objs.size + 1)] [Value.ref (hp.objs.size + 1)] := .cons rfl .nil
  refine wpAny_call (PySem.HandSPX.call_own F.excBase_ValueError (fun Y => PySem.HandSPX.refsVE_contains Y bm hbm) (I.kIn _ _ hC) (PySem.W.looks_findIn I.kIn iC) (fun self => PySem.W.bind_fn I.kIn self tI) (Nat.zero_le _)
    (codeAny_mono (F1.run _ X.stack _ _ ⟨[Value.ref (hp.objs.size + 1)], []⟩ [Value.ref (hp.objs.size + 1)] _ (fun v H2 => v = .non ∧ H2 = upd H (hp.objs.size + 1) (exo (hp.objs.size + 1) C none)) (fun _ _ _ => False) (hr.make C [] []) (I2.env0.make C [] []) (hb _ [Value.ref (hp.objs.size + 1)] I2.kIn rfl) r2 ⟨_, rfl, upd_same, rfl, rfl⟩) fun r s' hq' => ?_))
  cases r with
  | error er => exact (C8.pass0 : Passes C8.CX0 X (fun _ _ _ => False)) pins σ _ _ er s' I2 hq'
  | ok fl =>
    cases fl with
    | ret u =>
      obtain ⟨v, H2, os2, bare2, un2, hok2, rv, ev, eH⟩ := hq'
      subst ev
      obtain ⟨h2, g2, d2, t2, os'⟩ := s'
      subst eH
      have J : Inv X pins σ (upd H (hp.objs.size + 1) (exo (hp.objs.size + 1) C none)) ⟨h2, g2, d2, t2, os'⟩ := I2.call' (ch := []) os2 un2 hok2 bare2 (fun b z => absurd z (by simp))
      exact ⟨rv, .ref (hp.objs.size + 1), _, J, rfl, h _ hn⟩
    | next => exact False.elim hq'
    | brk => exact False.elim hq'
    | cont => exact False.elim hq'
theorem pe_xv (d : Xn X.prog X.w X.K X.mg X.base k x C fs (spI C fs)) (hr : Room (k + 1) X.A) (ha : PA X (e :: es) ta) (hg : Gl X x := by rfl)
    (hdb : (x == ("__debug__" : Str)) = false := by decide) (he : starEach (e :: es) X.env = (false, eval e X.env) :: starEach es X.env := by rfl) (hpl : (backTo pos (starEach es X.env)).any (·.1) = false := by rfl) :
    PE X (.Call (.Name x p) (e :: es) [] pos) (tXv C fs ta) := by
  obtain ⟨fI, fd, iC, tI, F1, hb⟩ := d.mkr
  have T := d.T
  have hm := d.at_
  refine ⟨fun pins s σ H Q I h => ?_⟩
  obtain ⟨nm, q, N, bs, bm, sn, sub, ab, col, dd, k0, k1, k2, k3, k5, hC, hbm⟩ := T.cls
  refine wpAny_Call_Name_kw (ld_glob I hg hm ?_ hdb)
  refine PySem.W.callWith_K (h₀ := X.base) I.ok.mod.kin T.kC (thn (ha.run pos pins s σ H _ I h) fun us s1 ⟨vs, H1, I1, r1, hz, hz2, q1⟩ => ⟨I1.kIn, ?_⟩) he hpl
  show wpAny _ _ (call (.ref C) us) _ _ _
  obtain ⟨hp, g, dr, tk, os⟩ := s1
  have hsz : hp.objs.size ≤ hp.objs.size + 1 := Nat.le_succ _
  have hn : H1 (hp.objs.size + 1) = none := I1.hok.fresh hsz
  have kk : ∀ b o, hp.get? b = some o → ((hp.push (PySem.W.kdv_tup us)).push (PySem.HandSPX.excO C hp.objs.size)).get? b = some o := fun b o e => Heap.get?_push_of_some _ (Heap.get?_push_of_some _ e)
  have hget : ((hp.push (PySem.W.kdv_tup us)).push (PySem.HandSPX.excO C hp.objs.size)).get? (hp.objs.size + 1) = some (PySem.HandSPX.excO C hp.objs.size) := by heap_get
  have I2 : Inv X pins σ (upd H1 (hp.objs.size + 1) (exo (hp.objs.size + 1) C none)) ⟨(hp.push (PySem.W.kdv_tup us)).push (PySem.HandSPX.excO C hp.objs.size), g, dr, tk, os⟩ :=
    I1.laid (t' := tk) (a := hp.objs.size + 1) (o := exo (hp.objs.size + 1) C none) (h' := (hp.push (PySem.W.kdv_tup us)).push (PySem.HandSPX.excO C hp.objs.size)) kk hsz (exo_ok hget)
  have r2 : Vals (V.ref (hp.objs.size + 1) :: vs) (Value.ref (hp.objs.size + 1) :: us) := .cons rfl r1
  have hus : us.length ≤ sizeLine := by
    rw [← Paired.length r1, sizeLine_eq]
    omega
  have hl : (Value.ref (hp.objs.size + 1) :: us ++ []).length = (("self" : Str) :: fs).length := by
    rw [List.append_nil, List.length_cons, List.length_cons, ← Paired.length r1, hz]
  refine wpAny_call (PySem.HandSPX.call_own F.excBase_ValueError (fun Y => PySem.HandSPX.refsVE_contains Y bm hbm) (I1.kIn _ _ hC) (PySem.W.looks_findIn I1.kIn iC) (fun self => PySem.W.bind_fn I1.kIn self tI) hus
    (codeAny_mono (F1.run _ X.stack _ _ ⟨Value.ref (hp.objs.size + 1) :: us, []⟩ (Value.ref (hp.objs.size + 1) :: us) _ (fun v H2 => v = .non ∧ ∃ dx, H1 dx = none ∧ dx ≠ hp.objs.size + 1 ∧ H2 (hp.objs.size + 1) = some (exo (hp.objs.size + 1) C (some dx)) ∧ H2 dx = some (exd dx (xL fs vs)) ∧ ∀ b, b ≠ hp.objs.size + 1 → b ≠ dx → H2 b = H1 b) (fun _ _ _ => False) (hr.make C us []) (I2.env0.make C us []) (by
        have z := hb _ (Value.ref (hp.objs.size + 1) :: us) I2.kIn hl
        rw [List.append_nil] at z
        exact z) r2 ⟨hp.objs.size + 1, vs, rfl, hz, upd_same, fun dx H2 n1 n2 e1 e2 e3 => ⟨rfl, dx, by rw [upd_ne n2] at n1; exact n1, n2, e1, e2, fun b b1 b2 => by rw [e3 b b1 b2, upd_ne b1]⟩⟩) fun r s' hq' => ?_))
  cases r with
  | error er => exact (C8.pass0 : Passes C8.CX0 X (fun _ _ _ => False)) pins σ _ _ er s' I2 hq'
  | ok fl =>
    cases fl with
    | ret u =>
      obtain ⟨v, H2, os2, bare2, un2, hok2, rv, ev, dx, n1, n2, e1, e2, e3⟩ := hq'
      subst ev
      obtain ⟨h2, g2, d2, t2, os'⟩ := s'
      have J : Inv X pins σ H2 ⟨h2, g2, d2, t2, os'⟩ := I2.call' (ch := []) os2 un2 hok2 bare2 (fun b z => absurd z (by simp))
      exact ⟨rv, .ref (hp.objs.size + 1), _, J, rfl, q1 _ dx H2 hn n1 n2 e1 e2 e3⟩
    | next => exact False.elim hq'
    | brk => exact False.elim hq'
    | cont => exact False.elim hq'
/-! ### isinstance(e, c) -/
def rIsV (K : PySem.W.Frag) : List V → Hp → VK → Prop := fun xs H Q => ∃ (a D : Addr) (dd : Option Addr) (c : V) (cv : Value) (b : Bool), xs = [.ref a, c] ∧ H a = some (exo a D dd) ∧ (∀ dx, dd = some dx → ∃ fs, H dx = some (exd dx fs)) ∧ L2.ExcC K D ∧
  (∀ u, RelV c u → u = cv) ∧ PySem.W.kitOne K (.ref D) cv = some b ∧ Q (.bl b) H
theorem call_isV : CallR X (.builtin "isinstance") (rIsV X.K) := by
  intro pins s σ H xs us Q I r h
  obtain ⟨a, D, dd, c, cv, b, rfl, ha, hd, T, hcv, e, q⟩ := h
  cases r with
  | cons rx rr =>
    cases rr with
    | cons rt rr =>
      cases rr
      cases rx
      have ec := hcv _ rt
      subst ec
      obtain ⟨t1, hget⟩ := exo_at I.hok ha
      have hcl : (PySem.W.clsIn X.K D).isSome = true := by
        obtain ⟨cd, hc, _⟩ := PySem.W.any_some T.hd
        rw [hc]; rfl
      obtain ⟨od, J⟩ : ∃ od, PySem.W.InstAt s.heap a ({ cls := .ref D, dict := dd, data := .fields #[.ref t1, .none, .none, .none, .bool false, .none] } : Obj) D od := by
        cases dd with
        | none => exact ⟨none, hget, rfl, rfl, trivial⟩
        | some dx =>
          obtain ⟨fs, hx⟩ := hd dx rfl
          obtain ⟨mA, hns, _⟩ := exd_at I.hok hx
          obtain ⟨od, ho, _⟩ := lookIn_ns hns
          exact ⟨some od, hget, rfl, rfl, ho⟩
      exact PySem.W.kia_one (PySem.W.kitx_exc hcl T.hg T.hk T.hs T.ha T.hn T.ht T.hm) I.kIn J e (fun z => nomatch z) fun tk => ⟨.bl b, H, I.kept (t' := tk) fun _ _ z => z, rfl, q⟩
theorem kcr_isV (K : PySem.W.Frag) (h : X.K = K := by rfl) : CallR X (.builtin "isinstance") (rIsV K) := h ▸ call_isV
/-! ### e.f -/
def tXvF (K : PySem.W.Frag) (f : Str) (te : TE) : TE := fun σ H Q => te σ H fun x H1 => ∃ (a C dx : Addr) (fs : List (Str × V)) (v : V), x = .ref a ∧ H1 a = some (exo a C (some dx)) ∧ H1 dx = some (exd dx fs) ∧ XfC K C ∧ PySem.W.findIn K (.ref C) f = some none ∧ fs.lookup f = some v ∧ Q v H1
theorem pe_xvf {te : TE} {n : Str} (he : PE X e te) (hb : attributeBase e n X.env (eval e X.env) = eval e X.env := by rfl) : PE X (.Attribute e n pos) (tXvF X.K n te) := by
  refine ⟨fun pins s σ H Q I h => ?_⟩
  refine attr_of hb (thn (he.run pins s σ H _ I h) fun u s1 hh => ?_)
  obtain ⟨x, H1, I1, rx, a, C, dx, fs, v, ex, ha, hd, T, hno, l, q⟩ := hh
  subst ex
  obtain rfl : u = Value.ref a := rx
  obtain ⟨t1, hget⟩ := exo_at I1.hok ha
  obtain ⟨mA, hns, hr⟩ := exd_at I1.hok hd
  obtain ⟨od, ho, hl⟩ := lookIn_ns hns
  obtain ⟨u, hu, ru⟩ := RelO.some_of (v := v) (o := mA n) (by rw [← l]; exact hr n)
  have J : PySem.W.InstAt s1.heap a _ C (some od) := ⟨hget, rfl, rfl, ho⟩
  exact HandSPX.exc_get I1.kIn J T.ga T.gg T.exC (PySem.W.findObj_own T.hdC hno rfl (by rw [hl, hu])) (handed_of ru) ⟨v, H1, I1.tok _, ru, q⟩
theorem kpe_xvf (K : PySem.W.Frag) {te : TE} {n : Str} (he : PE X e te) (hb : attributeBase e n X.env (eval e X.env) = eval e X.env := by rfl) (h : X.K = K := by rfl) : PE X (.Attribute e n pos) (tXvF K n te) := h ▸ pe_xvf he hb
end
/-! ### over data -/
/-- what is known of own exception classes -/
class XvOk (K : PySem.W.Frag) (G : Addr) (Cs : List Addr) (fs : List Str) : Prop where
  exc : ∀ C ∈ G :: Cs, L2.ExcC K C
  xf : ∀ C ∈ Cs, XfC K C ∧ ∀ f ∈ fs, PySem.W.findIn K (.ref C) f = some none
  val : ∀ C ∈ G :: Cs, PySem.W.kitOne K (.ref C) (.type "ValueError") = some true
  gap : ∀ C ∈ G :: Cs, PySem.W.kitOne K (.ref C) (.ref G) = some true
  own : ∀ C ∈ G :: Cs, ∀ T ∈ Cs, PySem.W.kitOne K (.ref C) (.ref T) = some (decide (C = T))
def cXv (C : Addr) (fs : List Str) (m : AM) : EM := fun sl => (m sl).bind fun ds s => if ds.length = fs.length ∧ ds.length ≤ 1000 then .ok (.exv C fs.reverse ds.reverse) s else .bad
def cXv0 (C : Addr) : EM := fun sl => .ok (.exv C [] []) sl
theorem xL_zip (fs : List Str) (us : List V) : xL fs us = fs.reverse.zip us.reverse := rfl
section
variable {K : PySem.W.Frag} {W : WX} {ta : TA} {ma : AM} {te : TE} {me : EM} {C : Addr}
instance xv_ex {fs : List Str} [ha : AX K W ta ma] : EX K W (tXv C fs ta) (cXv C fs ma) := ⟨fun c σ H sl Q s h => by
  refine ha.ok c σ H sl _ s (h.split.imp fun us H1 ⟨ds, s1, _, i1, r1, l1, h1⟩ => ?_)
  by_cases q : ds.length = fs.length ∧ ds.length ≤ 1000
  · rw [if_pos q] at h1
    refine ⟨by rw [← r1.length]; exact q.1, by rw [← r1.length]; exact q.2, fun a dx H2 n1 n2 ne e1 e2 e3 => ?_⟩
    have le : Le H1 H2 := fun b o e _ => by rw [e3 b (ne_of_none e n1) (ne_of_none e n2)]; exact e
    have tb : LamX.Tabs (LT K) H2 := i1.tab.ext fun b o e => by rw [e3 b (ne_of_none e n1) (ne_of_none e n2)]; exact e
    have i2 := i1.le le tb
    have fr : ∀ b, H1 b = none → ¬ Hid c s1 σ b := fun b n => i1.fresh n
    refine h1 _ H2 i2 (.ex1 (Hm_some.mpr ⟨fr a n1, e1⟩) (Hm_some.mpr ⟨fr dx n2, e2⟩) ?_ ((r1.reverse).le (fz_same le))) (fz_same le)
    rw [List.length_reverse, List.length_reverse, ← r1.length]
    exact q.1.symm
  · rw [if_neg q] at h1; exact h1.elim⟩
instance xv0_ex : EX K W (tXv0 C) (cXv0 C) := ⟨fun c σ H sl Q s h => fun a n => by
  have sm : Same H (upd H a (exo a C none)) := same_upd n
  exact h _ _ (s.same sm) (.ex0 (Hm_some.mpr ⟨s.fresh n, upd_same⟩)) (fz_same (Le.of_same sm))⟩
/-- isinstance(e, T), T one of the classes Cs -/
def cIsV (G : Addr) (Cs : List Addr) (T : Addr) (m : EM) : EM := fun sl => (m sl).bind fun d s => match d with
  | .exv C _ _ => if C ∈ G :: Cs ∧ T ∈ Cs then .ok (.bl (decide (C = T))) s else .bad
  | _ => .bad
/-- isinstance(e, G) -/
def cIsVg (G : Addr) (Cs : List Addr) (m : EM) : EM := fun sl => (m sl).bind fun d s => match d with
  | .exv C _ _ => if C ∈ G :: Cs then .ok (.bl true) s else .bad
  | _ => .bad
def rIsV1 (K : PySem.W.Frag) (_ : Addr) (_ : List Addr) (_ : Nat) (_ : List Str) : List V → Hp → VK → Prop := rIsV K
theorem isV_core {H A : Hp} {C : Addr} {ns : List Str} {ds : List D} {x : V} {Q : VK} {c : V} {cv : Value} {b : Bool} (le : Le A H) (r : Rep K A (.exv C ns ds) x) (T : L2.ExcC K C) (hcv : ∀ u, RelV c u → u = cv) (e : PySem.W.kitOne K (.ref C) cv = some b) (q : Q (.bl b) H) : rIsV K [x, c] H Q := by
  cases r with
  | ex0 e1 => exact ⟨_, C, none, c, cv, b, rfl, le _ _ e1 (fun _ q => nomatch q), fun dx z => (nomatch z), T, hcv, e, q⟩
  | ex1 e1 e2 l r => exact ⟨_, C, _, c, cv, b, rfl, le _ _ e1 (fun _ q => nomatch q), fun dx z => by cases z; exact ⟨_, le _ _ e2 (fun _ q => nomatch q)⟩, T, hcv, e, q⟩
instance isV_ex {G T : Addr} {Cs : List Addr} {fs : List Str} [he : EX K W te me] [hx : XvOk K G Cs fs] : EX K W (tCB (rIsV1 K G Cs 0 fs) (tCons te (tCons (tC (.ref T)) tNil))) (cIsV G Cs T me) := ⟨fun c σ H sl Q s h => by
  refine he.ok c σ H sl _ s (h.split.imp fun x H1 ⟨d, s1, _, i1, r1, l1, h1⟩ => ?_)
  cases d with
  | exv C ns ds =>
    simp only at h1
    by_cases q : C ∈ G :: Cs ∧ T ∈ Cs
    · rw [if_pos q] at h1
      exact isV_core Hm_le r1 (hx.exc C q.1) (cv := .ref T) (fun u ru => ru) (hx.own C q.1 T q.2) (h1 _ H1 i1 (.bl _) Le.rfl)
    · rw [if_neg q] at h1; exact h1.elim
  | _ => exact h1.elim⟩
instance isVg_ex {G : Addr} {Cs : List Addr} {fs : List Str} [he : EX K W te me] [hx : XvOk K G Cs fs] : EX K W (tCB (rIsV1 K G Cs 1 fs) (tCons te (tCons (tC (.ref G)) tNil))) (cIsVg G Cs me) := ⟨fun c σ H sl Q s h => by
  refine he.ok c σ H sl _ s (h.split.imp fun x H1 ⟨d, s1, _, i1, r1, l1, h1⟩ => ?_)
  cases d with
  | exv C ns ds =>
    simp only at h1
    by_cases q : C ∈ G :: Cs
    · rw [if_pos q] at h1
      exact isV_core Hm_le r1 (hx.exc C q) (cv := .ref G) (fun u ru => ru) (hx.gap C q) (h1 _ H1 i1 (.bl _) Le.rfl)
    · rw [if_neg q] at h1; exact h1.elim
  | _ => exact h1.elim⟩
instance isVv_ex {G : Addr} {Cs : List Addr} {fs : List Str} [he : EX K W te me] [hx : XvOk K G Cs fs] : EX K W (tCB (rIsV1 K G Cs 2 fs) (tCons te (tCons (tC (.ty "ValueError")) tNil))) (cIsVg G Cs me) := ⟨fun c σ H sl Q s h => by
  refine he.ok c σ H sl _ s (h.split.imp fun x H1 ⟨d, s1, _, i1, r1, l1, h1⟩ => ?_)
  cases d with
  | exv C ns ds =>
    simp only at h1
    by_cases q : C ∈ G :: Cs
    · rw [if_pos q] at h1
      exact isV_core Hm_le r1 (hx.exc C q) (cv := .type "ValueError") (fun u ru => ru) (hx.val C q) (h1 _ H1 i1 (.bl _) Le.rfl)
    · rw [if_neg q] at h1; exact h1.elim
  | _ => exact h1.elim⟩
/-- e.f -/
def cXvF (Cs : List Addr) (fs : List Str) (f : Str) (m : EM) : EM := fun sl => (m sl).bind fun d s => match d with
  | .exv C ns ds => if C ∈ Cs ∧ f ∈ fs then ofO (lookD ns ds f) s else .bad
  | _ => .bad
def tXvF1 (K : PySem.W.Frag) (_ : Addr) (_ : List Addr) (_ : List Str) (f : Str) (te : TE) : TE := tXvF K f te
instance xvf_ex {G : Addr} {Cs : List Addr} {fs : List Str} {f : Str} [he : EX K W te me] [hx : XvOk K G Cs fs] : EX K W (tXvF1 K G Cs fs f te) (cXvF Cs fs f me) := ⟨fun c σ H sl Q s h => by
  refine he.ok c σ H sl _ s (h.split.imp fun x H1 ⟨d, s1, _, i1, r1, l1, h1⟩ => ?_)
  cases d with
  | exv C ns ds =>
    simp only at h1
    by_cases q : C ∈ Cs ∧ f ∈ fs
    · rw [if_pos q] at h1
      cases e : lookD ns ds f with
      | none => rw [e] at h1; exact h1.elim
      | some z =>
        rw [e] at h1
        cases r1 with
        | ex0 e1 => cases e
        | @ex1 a C dx ns vs ds e1 e2 l r =>
          obtain ⟨v, e3, e4⟩ := lookD_rep r e
          exact ⟨a, C, dx, ns.zip vs, v, rfl, (Hm_some.mp e1).2, (Hm_some.mp e2).2, (hx.xf C q.1).1, (hx.xf C q.1).2 f q.2, e3, h1 v H1 i1 e4 Le.rfl⟩
    · rw [if_neg q] at h1; exact h1.elim
  | _ => exact h1.elim⟩
end
end DL
set_option linter.all false
set_option autoImplicit false
set_option maxRecDepth 100000
set_option maxHeartbeats 2000000
/-! DyB: repr of lists; a law whose walk needs that nothing is being shown around it. -/
namespace DL
open PySem PySem.Spec L2 PyProof.Rows
def kPy : Key → PyData
  | .inl i => .int i
  | .inr x => .str x
mutual
inductive Dq (H : Hp) : V → PyData → Prop
  | non : Dq H .non .none
  | bl (b : Bool) : Dq H (.bl b) (.bool b)
  | int (i : Int) : Dq H (.int i) (.int i)
  | str (x : Str) : Dq H (.str x) (.str x)
  | lst {a : Addr} {xs : List V} {ds : List PyData} : H a = some (.lst xs) → DqAll H xs ds → Dq H (.ref a) (.list ds)
  | tup {a : Addr} {xs : List V} {ds : List PyData} : H a = some (.tup xs) → DqAll H xs ds → Dq H (.ref a) (.tuple ds)
  | dK {a : Addr} {ks : List Key} {vs : List V} {ds : List PyData} : H a = some (.dK (ks.zip vs)) → ks.length = vs.length → DqAll H vs ds → Dq H (.ref a) (.dict ((ks.map kPy).zip ds))
inductive DqAll (H : Hp) : List V → List PyData → Prop
  | nil : DqAll H [] []
  | cons {v : V} {vs : List V} {d : PyData} {ds : List PyData} : Dq H v d → DqAll H vs ds → DqAll H (v :: vs) (d :: ds)
end
theorem DqAll.length {H : Hp} : ∀ {vs : List V} {ds : List PyData}, DqAll H vs ds → vs.length = ds.length
  | _, _, .nil => rfl
  | _, _, .cons _ h => congrArg Nat.succ (DqAll.length h)
theorem dict_reads {P : Program} {w : World} {h : Heap} : ∀ {ks : List Key} {vs : List V} {qs : List (Key × Value)} {es : List DictEntry}, ks.length = vs.length → KV (ks.zip vs) qs → Pairs (mixKind P w) es qs →
    Vals vs (es.map (·.val)) ∧ ReadsAll h (es.map (·.key)) (ks.map kPy) []
  | [], vs, qs, es, hl, r, p => by
    cases vs with
    | cons _ _ => cases hl
    | nil =>
      cases r
      cases p
      exact ⟨.nil, .nil⟩
  | k :: ks, vs, qs, es, hl, r, p => by
    cases vs with
    | nil => cases hl
    | cons v vs =>
      rw [List.zip_cons_cons] at r
      cases r with
      | cons r1 r2 =>
        cases p with
        | cons p1 p2 p3 =>
          obtain ⟨i1, i2⟩ := dict_reads (h := h) (Nat.succ.inj hl) r2 p3
          obtain ⟨e1, e2⟩ := r1
          simp only at e1 e2
          rw [← e1] at p1
          rw [← p2] at e2
          refine ⟨.cons e2 i1, ?_⟩
          rcases keyIs_shape p1 with ⟨i, t, rfl, e⟩ | ⟨x, t, rfl, e⟩
          · have z : ReadsAll h _ _ ([] ++ []) := .cons (Reads.int i t) i2
            rw [List.map_cons, e]
            exact z
          · have z : ReadsAll h _ _ ([] ++ []) := .cons (Reads.str x t) i2
            rw [List.map_cons, e]
            exact z
section
variable {X : Cx} {pins : List (Addr × Obj)} {σ : L2.St} {H : Hp} {s : Shared}
mutual
theorem Dq.reads (I : Inv X pins σ H s) (hm : H sysModules = none) : ∀ {v : V} {d : PyData}, Dq H v d → ∀ u : Value, RelV v u → ∃ as, Reads s.heap u d as ∧ sysModules ∉ as
  | _, _, .non, u, r => by cases r; exact ⟨_, .none, by simp⟩
  | _, _, .bl b, u, r => by cases r; exact ⟨_, .bool b, by simp⟩
  | _, _, .int i, u, r => by obtain ⟨t, rfl⟩ := r; exact ⟨_, .int i t, by simp⟩
  | _, _, .str x, u, r => by obtain ⟨t, rfl⟩ := r; exact ⟨_, .str x t, by simp⟩
  | _, _, .lst (a := a) e h, u, r => by
    cases r
    obtain ⟨its, rv, ⟨o, n, ho, hc, _, hd⟩, _⟩ := I.list (SqL.of (K := X.K) e)
    obtain ⟨as, hr, hn⟩ := DqAll.reads I hm h its rv
    refine ⟨_, .list ho hc hd hr, fun z => ?_⟩
    rcases List.mem_cons.mp z with z | z
    · rw [← z, hm] at e; cases e
    · exact hn z
  | _, _, .tup (a := a) e h, u, r => by
    cases r
    obtain ⟨its, rv, ⟨o, ho, hc, n, hd⟩, _⟩ := I.tuple (SqT.of (K := X.K) e)
    obtain ⟨as, hr, hn⟩ := DqAll.reads I hm h its rv
    exact ⟨_, .tuple ho hc hd hr, hn⟩
  | _, _, .dK (a := a) (ks := ks) (vs := vs) (ds := ds) e hl h, u, r => by
    cases r
    obtain ⟨_, _, qs, kv, o, es, ep, ho, he, hd, _, pr, _⟩ := dk_of I.hok e
    obtain ⟨i1, i2⟩ := dict_reads (h := s.heap) hl kv pr
    obtain ⟨bs, hr, hn⟩ := DqAll.reads I hm h _ i1
    have l2 : (ks.map kPy).length = ds.length := by rw [List.length_map, hl]; exact h.length
    have e1 : ((ks.map kPy).zip ds).map (·.1) = ks.map kPy := List.map_fst_zip (Nat.le_of_eq l2)
    have e2 : ((ks.map kPy).zip ds).map (·.2) = ds := List.map_snd_zip (Nat.le_of_eq l2.symm)
    refine ⟨_, .dict ho he.1 hd (by rw [e1]; exact i2) (by rw [e2]; exact hr), fun z => ?_⟩
    rcases List.mem_cons.mp z with z | z
    · rw [← z, hm] at e; cases e
    · exact hn (by simpa using z)
theorem DqAll.reads (I : Inv X pins σ H s) (hm : H sysModules = none) : ∀ {vs : List V} {ds : List PyData}, DqAll H vs ds → ∀ us : List Value, Vals vs us → ∃ as, ReadsAll s.heap us ds as ∧ sysModules ∉ as
  | _, _, .nil, us, r => by cases r; exact ⟨_, .nil, by simp⟩
  | _, _, .cons h1 h2, us, r => by
    cases r with
    | cons r1 r2 =>
      obtain ⟨as, q1, n1⟩ := Dq.reads I hm h1 _ r1
      obtain ⟨bs, q2, n2⟩ := DqAll.reads I hm h2 _ r2
      exact ⟨_, .cons q1 q2, fun z => (List.mem_append.mp z).elim n1 n2⟩
end
end
def rReprL : List V → Hp → VK → Prop := fun xs H Q => ∃ (a : Addr) (ds : List PyData), xs = [.ref a] ∧ Dq H (.ref a) (.list ds) ∧ (PyData.list ds).showable = true ∧ (PyData.list ds).depth ≤ 50 ∧ (PyData.list ds).shown.length ≤ sizeLine ∧ Q (.str (PyData.list ds).shown) H
theorem cr_reprL {X : Cx} {k : Nat} (hg : X.A.guards = some []) (hr : Room k X.A) (hs : (X.K.lookup sysModules).isSome = true) : CallR X (.builtin "repr") rReprL := by
  intro pins s σ H xs us Q I r h
  obtain ⟨a, ds, rfl, hd, h1, h2, h3, q⟩ := h
  obtain ⟨u, rfl, r1⟩ := vals1 r
  cases r1
  have hm : H sysModules = none := by
    obtain ⟨o, e⟩ := Option.isSome_iff_exists.mp hs
    exact (I.bs _ _ (I.ok.mod.kin _ _ e)).2
  obtain ⟨as, r2, n2⟩ := Dq.reads I hm hd _ rfl
  have hu := hr.un
  exact repr_of_reads' (h₀ := s.heap) r2 h1 (fun _ => n2) hg (by omega) (fun _ _ e => e) (fun h' u tk hk => ⟨.str _, H, I.kept (t' := tk) hk, ⟨_, rfl⟩, q⟩) h3
mutual
def toPq : D → Option PyData
  | .non => some .none
  | .bl b => some (.bool b)
  | .int i => some (.int i)
  | .str x => some (.str x)
  | .tup xs => (toPqs xs).map .tuple
  | .lst xs => (toPqs xs).map .list
  | .dK ks ds => (toPqs ds).map fun ps => .dict ((ks.map kPy).zip ps)
  | _ => none
def toPqs : List D → Option (List PyData)
  | [] => some []
  | d :: r => match toPq d, toPqs r with
    | some p, some q => some (p :: q)
    | _, _ => none
end
theorem toPqs_cons {d : D} {r : List D} {ps : List PyData} (h : toPqs (d :: r) = some ps) : ∃ p q, ps = p :: q ∧ toPq d = some p ∧ toPqs r = some q := by
  unfold toPqs at h
  cases e1 : toPq d with
  | none => rw [e1] at h; cases h
  | some p =>
    cases e2 : toPqs r with
    | none => rw [e1, e2] at h; cases h
    | some q => rw [e1, e2] at h; cases h; exact ⟨p, q, rfl, rfl, rfl⟩
mutual
theorem Rep.dq {K : PySem.W.Frag} {A H : Hp} (l : Le A H) : ∀ {d : D} {v : V} {p : PyData}, Rep K A d v -> toPq d = some p -> Dq H v p
  | _, _, _, .non, e => by unfold toPq at e; cases e; exact .non
  | _, _, _, .bl b, e => by unfold toPq at e; cases e; exact .bl b
  | _, _, _, .int i, e => by unfold toPq at e; cases e; exact .int i
  | _, _, _, .str x, e => by unfold toPq at e; cases e; exact .str x
  | _, _, _, @Rep.tup _ _ a vs ds s r, e => by
    unfold toPq at e
    cases q : toPqs ds with
    | none => rw [q] at e; cases e
    | some ps => rw [q] at e; cases e; exact .tup (l _ _ s nt_tup) (Reps.dq l r q)
  | _, _, _, @Rep.lst _ _ a vs ds s r, e => by
    unfold toPq at e
    cases q : toPqs ds with
    | none => rw [q] at e; cases e
    | some ps => rw [q] at e; cases e; exact .lst (l _ _ s nt_lst) (Reps.dq l r q)
  | _, _, _, @Rep.dK _ _ a ks vs ds s hl r, e => by
    unfold toPq at e
    cases q : toPqs ds with
    | none => rw [q] at e; cases e
    | some ps => rw [q] at e; cases e; exact .dK (l _ _ s nt_dK) hl (Reps.dq l r q)
  | _, _, _, .dT _ _ _, e => by unfold toPq at e; cases e
  | _, _, _, .ins _ _ _, e => by unfold toPq at e; cases e
  | _, _, _, .ext _, e => by unfold toPq at e; cases e
  | _, _, _, .ex0 _, e => by unfold toPq at e; cases e
  | _, _, _, .ex1 _ _ _ _, e => by unfold toPq at e; cases e
theorem Reps.dq {K : PySem.W.Frag} {A H : Hp} (l : Le A H) : ∀ {ds : List D} {vs : List V} {ps : List PyData}, Reps K A ds vs -> toPqs ds = some ps -> DqAll H vs ps
  | _, _, _, .nil, e => by unfold toPqs at e; cases e; exact .nil
  | _, _, _, .cons a b, e => by
    obtain ⟨p, q, rfl, e1, e2⟩ := toPqs_cons e
    exact .cons (Rep.dq l a e1) (Reps.dq l b e2)
end
def showL (ps : List PyData) : Option Str := if (PyData.list ps).showable = true ∧ (PyData.list ps).depth ≤ 50 ∧ (PyData.list ps).shown.length ≤ sizeLine then some (PyData.list ps).shown else none
def reprL : List D → Option D
  | [.lst ds] => ((toPqs ds).bind showL).map D.str
  | _ => none
instance (K : PySem.W.Frag) : OpL K rReprL reprL := ⟨fun H U xs as z Q hU r e h => by
  cases r with
  | nil => cases e
  | cons ra rr =>
    cases rr with
    | cons _ _ => cases ra <;> cases e
    | nil =>
      cases ra with
      | @lst a vs ds s r =>
        have e : ((toPqs ds).bind showL).map D.str = some z := e
        cases q : toPqs ds with
        | none => rw [q] at e; cases e
        | some ps =>
          rw [q] at e
          unfold showL at e
          simp only [Option.bind_some] at e
          split at e
          · next w =>
            cases e
            exact ⟨a, ps, rfl, .lst (Hm_le _ _ s nt_lst) (Reps.dq Hm_le r q), w.1, w.2.1, w.2.2, h _ H (Same.refl _) (.str _)⟩
          · cases e
      | _ => cases e⟩
end DL
set_option linter.all false
set_option autoImplicit false
set_option maxRecDepth 100000
set_option maxHeartbeats 2000000
/-! DyC: a class of exceptions without own __init__, made with a text, as a value; a law's def asked only where nothing is being shown. -/
namespace DL
open PySem PySem.Spec L2 PyProof.Rows
theorem pe_xvT {X : Cx} {C : Addr} {x m : Str} {j : Nat} {p p2 pos : Pos} (q : PySem.W.excIn X.K C He.veBase "ValueError.__new__" = true) (kC : PySem.W.keepIn X.K (.ref C) = true) (gC : X.mg x = some (.ref C)) (hg : Gl X x := by rfl)
    (hdb : (x == ("__debug__" : Str)) = false := by decide) : PE X (.Call (.Name x p) [.Constant (.str m) j p2] [] pos) (tXv0 C) := by
  refine ⟨fun pins s σ H Q I h => ?_⟩
  refine wpAny_Call_Name_kw (ld_glob I hg gC ?_ hdb)
  have ha : PA X [.Constant (.str m) j p2] (tCons (tC (.str m)) tNil) := pa_cons pe_str pa_nil
  refine PySem.W.callWith_K (h₀ := X.base) I.ok.mod.kin kC (thn (ha.run pos pins s σ H (fun vs H1 => vs = [V.str m] ∧ H = H1) I ⟨rfl, rfl⟩) fun us s1 hh => ?_)
  obtain ⟨vs, H1, I1, r1, ev, eH⟩ := hh
  subst ev
  subst eH
  refine ⟨I1.kIn, ?_⟩
  obtain ⟨u, rfl, r2⟩ := vals1 r1
  show wpAny _ _ (call (.ref C) [u]) _ _ _
  obtain ⟨bm, N, nm, qn, bs, hdct, sn, sub, ab, col, dd, k0, k1, k2, k3, k5, mN, hC, hN, hni, T⟩ := exc_obj I1.kIn q
  obtain ⟨hp, g, dr, tk, os⟩ := s1
  refine wpAny_call_exc_subT F.excBase_ValueError T hC hN hni (fun h' e hm => ?_) (by show 1 ≤ sizeLine; rw [sizeLine_eq]; omega)
  obtain ⟨t, he, _, _⟩ := hm.there
  have hn : H e = none := I1.hok.gone hm.new
  exact ⟨.ref e, _, I1.laidN (t' := tk) hm.keeps hm.new hn (exo_ok he), rfl, h e hn⟩
/-! ### where nothing is being shown -/
structure FnOkC (P : Program) (w : World) (K : PySem.W.Frag) (mg : Str → Option Value) (base : Heap) (CX : CXT) (k : Nat) (f : Addr) (fd : FuncData) (ps : List Str) (sp : Sp) : Prop where
  len : ∀ vs H Q E, sp vs H Q E → vs.length = ps.length
  run : ∀ (A : Around) (outer : List Env) (s : Shared) (H : Hp) (args : Args) (us : List Value) (vs : List V) (Q : VK) (E : XK), A.guards = some [] → Room k A → Env0 P w K mg base A outer s H → BindsTo s fd args (ps.zip us) → Vals vs us → sp vs H Q E →
    codeAny (model P w) A (.call (.ref f) args) (CR CX outer P w H s Q E) s
section
variable {P : Program} {w : World} {K : PySem.W.Frag} {mg : Str → Option Value} {base : Heap} {x qual : Str} {params : Arguments} {body : List Stmt} {scope : Scope} {f : Addr} {fd : FuncData} {N ps : List Str} {k n : Nat} {m : SM}
theorem okC {CX : CXT} {dvs : List V} {kws : List (Str × V)} {sp : Sp} (F : FunD K x qual params body scope dvs kws f fd) (S : FnScope N ps scope) (len : ∀ vs H Q E, sp vs H Q E → vs.length = ps.length)
    (hbody : ∀ (cdv : Value) (A : Around) (outer : List Env) (s : Shared) (H : Hp) (vs : List V) (Q : VK) (E : XK), A.guards = some [] → Room k (A.deeper (PyProof.Rows.envOfC qual scope s.heap.objs.size f cdv)) → sp vs H Q E →
      ∃ t, PSs (cxOf CX P w K mg base N qual scope f cdv A outer s H E) body t ∧ t { nx := fun _ H' => Q .non H', rt := Q } (start N vs) H) : FnOkC P w K mg base CX (k + 1) f fd ps sp := by
  obtain ⟨oc, od, dV, kV, doc, pm, an, cdv, ct, osl, rfl, lk, hcd, _, _⟩ := F.ex
  refine ⟨len, fun A outer s H args us vs Q E hG hr e0 hb r hsp => ?_⟩
  have KX : K.In s.heap := e0.mod.kin.keeps fun b o e => (e0.bs b o e).1
  have lim : s.heap.NoLimit := e0.mod.nolimit.keeps fun b o e => (e0.bs b o e).1
  refine codeAny_call_function hr.depth (KX _ _ lk) rfl S.co S.gen rfl (PySem.W.codeRec_of KX hcd) (hb _ _ _ _ ?_)
  refine wpAny_newFunctionEnv_cells S.kind (fun ⟨n, v⟩ hy => ?_) fun env he s1 x => ?_
  · rcases S.par n (List.of_mem_zip hy).1 with q | q
    · exact .inl q
    · exact .inr ⟨q, PySem.W.cellsFrom_some _ _ _ (.inl q)⟩
  · subst he
    refine ⟨lim.keeps x.toInCall.keep, codeAny_func ?_⟩
    obtain ⟨t, ht, hq⟩ := hbody _ A outer s H vs Q E hG (hr.deeper _) hsp
    refine wpAny_mono (ht.run [] s1 (start N vs) H _ (inv_start S hr.hd e0 (len _ _ _ _ hsp) r x) hq) (fun fl s' hs => ?_) fun e s' hs => hs
    cases fl with
    | ret u =>
      obtain ⟨v, σ', H', J, rv, q⟩ := hs
      exact ⟨v, H', J.os, J.bare, J.base, J.hok, rv, q⟩
    | next =>
      obtain ⟨σ', H', J, q⟩ := hs
      exact ⟨V.non, H', J.os, J.bare, J.base, J.hok, rfl, q⟩
    | brk =>
      obtain ⟨_, _, _, q⟩ := hs
      exact False.elim q
    | cont =>
      obtain ⟨_, _, _, q⟩ := hs
      exact False.elim q
theorem fnPC (F : FunD K x qual params body scope [] [] f fd) (sc : FnScope N ps scope) (hn : ps.length = n)
    (hb : ∀ (cdv : Value) (A : Around) (outer : List Env) (s : Shared) (H : Hp) (E : XK), A.guards = some [] → Room k (A.deeper (PyProof.Rows.envOfC qual scope s.heap.objs.size f cdv)) → ∃ t, PSs (cxOf CX0 P w K mg base N qual scope f cdv A outer s H E).nox body t ∧ SX K W0 t m) :
    FnOkC P w K mg base CX0 (k + 1) f fd ps (spP K n (runP N.length m)) := by
  have hpl : ps.length ≤ N.length := by have := congrArg List.length sc.pre; rw [List.length_take] at this; omega
  refine okC F sc (fun vs H Q E h => ?_) (fun cdv A outer s H vs Q E hG hr h => ?_)
  · obtain ⟨ds, U, z, h1, h2, h3, _⟩ := h
    rw [← h3.length, h1, hn]
  · obtain ⟨ds, U, z, h1, h2, h3, h4, h5⟩ := h
    obtain ⟨t, ht, hm⟩ := hb cdv A outer s H E hG hr
    refine ⟨t, ht.nox, ?_⟩
    have hl : vs.length ≤ N.length := by rw [← h3.length, h1, ← hn]; exact hpl
    obtain ⟨s0, l0⟩ := sim_ini (N := N) h3 h2 hl
    refine hm.ok _ _ _ _ _ s0 ?_
    unfold runP at h4
    have fin : ∀ {d : D} {s' : List S} {v : V} {σ' : L2.St} {H' : Hp}, Sim K ⟨H, none, U, none⟩ s' σ' H' → Rep K (fz ⟨H, none, U, none⟩ s' σ' H') d v → Rep K (Hm H' U) d v ∧ LeT K H H' := fun {d s' v σ' H'} i r =>
      ⟨r.le (Hm_sub fun b q => .inl q), ⟨fun b o e n => i.frm b o e n (fun q => by cases q) Ct.xs_none, i.tab⟩⟩
    cases e : m (iniP N.length ds) with
    | rt d s' =>
      rw [e] at h4
      cases h4
      exact fun v σ' H' i1 r1 _ => h5 v H' (fin i1 r1).2 (fin i1 r1).1
    | nx s' =>
      rw [e] at h4
      cases h4
      exact fun σ' H' i1 _ => h5 .non H' (fin i1 .non).2 .non
    | _ => rw [e] at h4; cases h4
end
/-! ### the law's call -/
theorem law_callC {P : Program} {w : World} {K : PySem.W.Frag} {mg mb : Str → Option Value} {CX : CXT} {k : Nat} {fa a : Addr} {fd : FuncData} {x : Str} {sp : Sp} {s₁ : Shared} {vs : List Value} {ns : List Int}
    (KX : K.In s₁.heap) (hns : s₁.heap.Ns mainGlobals mg) (hb : s₁.heap.Ns builtinsNs mb) (hbb : ∀ x : Str, x ≠ "__name__" → mb x = bootBuiltins x) (hlim : s₁.heap.NoLimit) (hg : s₁.gens = #[])
    (ha : s₁.heap.get? a = some { cls := .type "list", data := .seq vs.toArray }) (hi : IntsAre vs ns) (hl : ns.length ≤ sizeLine) (hr : Room k callerA)
    (F : ∀ base : Heap, K.In base → base.Ns mainGlobals mg → FnOkC P w K mg base CX k fa fd [x] sp) (hbind : ∀ (s : Shared) (u : Value), BindsTo s fd ⟨[u], []⟩ [(x, u)])
    (hsp : ∀ H : Hp, Only H → SqL K H a (ns.map V.int) → sp [.ref a] H (fun v _ => v = .bl true) fun _ _ _ => False)
    (hCX : ∀ H e s', CX [] H s₁ (fun _ _ _ => False) e s' → False) :
    codeAny (model P w) callerA (.call (.ref fa) ⟨[.ref a], []⟩) (fun r s' => r = .ok (.ret (.bool true)) ∧ OldK s₁.heap s'.heap ∧ s'.os = s₁.os ∧ AllBare s'.gens) s₁ := by
  have rv := vals_ints hi
  have core : ∀ H : Hp, Only H → SqL K H a (ns.map V.int) → HOk P w H s₁.heap → (∀ b, H b ≠ none → b = a) → (H a ≠ none → K.lookup a = none) →
      codeAny (model P w) callerA (.call (.ref fa) ⟨[.ref a], []⟩) (fun r s' => r = .ok (.ret (.bool true)) ∧ OldK s₁.heap s'.heap ∧ s'.os = s₁.os ∧ AllBare s'.gens) s₁ := by
    intro H hO hS hok hA hK
    have far : ∀ {b : Addr}, b ≠ a → H b = none := fun {b} n => by
      cases q : H b with
      | none => rfl
      | some u => exact absurd (hA b (by rw [q]; simp)) n
    have nsK : ∀ {b : Addr} {m : Str → Option Value}, s₁.heap.Ns b m → (hidT s₁.heap H).Ns b m := fun {b m} ⟨o, es, ep, e, d, r⟩ => ⟨o, es, ep, hidT_get e (far fun z => by
      rw [z, ha] at e
      cases e
      exact absurd (show Data.seq vs.toArray _ = Data.dict es ep from d) (fun z => nomatch z)), d, r⟩
    have hKb : K.In (hidT s₁.heap H) := fun b o e => hidT_get (KX b o e) (by
      by_cases hb : b = a
      · subst hb
        cases q : H b with
        | none => rfl
        | some u => rw [hK (by rw [q]; simp)] at e; cases e
      · exact far hb)
    have hM : Mod K mg (hidT s₁.heap H) := ⟨hKb, nsK hns, ⟨mb, nsK hb, hbb⟩, let ⟨mc, h1, h2⟩ := hlim; ⟨mc, nsK h1, h2⟩⟩
    have e0 : Env0 P w K mg (hidT s₁.heap H) callerA [] s₁ H := ⟨rfl, hM, fun b o e => of_hidT e, Nat.le_of_eq (hidT_size _ _), trivial, fun b hb => absurd (show b ∈ ([] : List Addr) from hb) (by simp), hok, .of_eq hg⟩
    refine codeAny_mono ((F _ hKb (nsK hns)).run callerA [] s₁ H ⟨[.ref a], []⟩ [.ref a] [.ref a] _ _ rfl hr e0 (hbind s₁ (.ref a)) (.cons rfl .nil) (hsp H hO hS)) fun r s' h => ?_
    cases r with
    | error e => exact (hCX H e s' h).elim
    | ok fl =>
      cases fl with
      | next => exact False.elim h
      | brk => exact False.elim h
      | cont => exact False.elim h
      | ret u =>
        obtain ⟨v, H', os, bare, un, hok', r', q⟩ := h
        have q' : v = .bl true := q
        subst q'
        obtain rfl : u = Value.bool true := r'
        refine ⟨rfl, OldK.of_keep fun b o e => ?_, os, bare⟩
        rcases hO b with z | ⟨ob, xs, z⟩
        · exact un.keep b o e z (by intro z; exact absurd (show b ∈ ([] : List Addr) from z) (by simp)) (by simp)
        · obtain ⟨e1, _⟩ := hok b _ z
          obtain ⟨e2, _⟩ := hok' b _ (un.frzs b ob _ z)
          rw [e] at e1; cases e1
          exact e2
  cases hk : K.lookup a with
  | some o =>
    have e := KX a o hk
    rw [ha] at e
    cases e
    exact core (fun _ => none) (fun _ => .inl rfl) (.inr ⟨_, vs.toArray, _, hk, rfl, rfl, rfl, by rw [List.size_toArray, hi.length]; exact hl, by simpa using rv⟩) (fun b u z => nomatch (show (none : Option HO) = some u from z)) (fun b z => absurd rfl z) fun z => absurd rfl z
  | none =>
    have at_ : ∀ {b : Addr} {u : HO}, (if b = a then some (HO.frz { cls := .type "list", data := .seq vs.toArray } (.lst (ns.map V.int))) else none) = some u → b = a ∧ HO.frz { cls := .type "list", data := .seq vs.toArray } (.lst (ns.map V.int)) = u := fun {b u} z => by
      by_cases hb : b = a
      · rw [if_pos hb] at z; exact ⟨hb, Option.some.inj z⟩
      · rw [if_neg hb] at z; cases z
    refine core (fun b => if b = a then some (.frz { cls := .type "list", data := .seq vs.toArray } (.lst (ns.map V.int))) else none) (fun b => ?_) (.inl (.inr ⟨{ cls := .type "list", data := .seq vs.toArray }, if_pos rfl⟩)) (fun b u z => ?_) (fun b z => ?_) fun _ => hk
    · by_cases hb : b = a
      · exact .inr ⟨_, _, if_pos hb⟩
      · exact .inl (if_neg hb)
    · obtain ⟨rfl, rfl⟩ := at_ z
      exact ⟨ha, by rw [List.length_map]; exact hl, vs, _, rv, ha⟩
    · exact Classical.byContradiction fun hb => z (if_neg hb)
theorem walk_ofC {l : PySem.W.OpenLaw} {n k : Nat} {q : Program} {loose : List Str} {XP : (Str → Option Value) → Heap → Prop} {YP : World → Heap → Prop} {d : DefRec} {CX : CXT} {x : Str}
    (hn : l.most = some n) (hn2 : n ≤ sizeLine) (hdf : d.params.defaults = []) (hr : Room k callerA)
    (F : ∀ (w : World) (mg : Str → Option Value) (fa : Addr) (h : Heap), YP w h → h.Ns mainGlobals mg → mg d.name = some (.ref fa) →
      ∃ (K : PySem.W.Frag) (fd : FuncData) (sp : Sp), K.In h ∧ (∀ (s : Shared) (u : Value), BindsTo s fd ⟨[u], []⟩ [(x, u)]) ∧
        (∀ (H : Hp) (a : Addr) (ns : List Int), ns.length ≤ n → Only H → SqL K H a (ns.map V.int) → sp [.ref a] H (fun v _ => v = .bl true) fun _ _ _ => False) ∧
        ∀ base : Heap, K.In base → base.Ns mainGlobals mg → FnOkC l.prog w K mg base CX k fa fd [x] sp)
    (hCX : ∀ (H : Hp) (s : Shared) (e : Value) (s' : Shared), CX [] H s (fun _ _ _ => False) e s' → False) :
    PySem.W.WalkO q loose XP YP l.row.toRowW d [] (fun f vs => PySem.call f vs) := by
  refine Att.attach_call hn hdf fun w s₀ s₁ mg mb fa o pm cd doc a vs ns G Y ho hd hcd hmg hobj hints hlen hg => ?_
  obtain ⟨K, fd, sp, KX, hb, hsp, hF⟩ := F w mg fa _ Y G.T.g hmg
  exact law_callC KX G.T.g G.T.b G.T.builtins G.T.nolimit hg hobj hints (Nat.le_trans hlen hn2) hr hF hb (fun H hO hS => hsp H a ns hlen hO hS) fun H e s' => hCX H s₁ e s'
end DL
set_option linter.all false
set_option autoImplicit false
set_option maxRecDepth 100000
set_option maxHeartbeats 2000000
/-! DyD: split; a displayed dict of one text and a tuple of one int. -/
namespace DL
open PySem PySem.Spec L2 PyProof.Rows
def rSplit1 : V → List V → Hp → VK → Prop := fun x xs H Q => ∃ a b, x = .str a ∧ xs = [.str b] ∧ (b.length == 0) = false ∧ a.length + 2 ≤ sizeLine ∧ rNewStrs (Txt.split a b) H Q
theorem k_split {X : Cx} : MtR X "str.split" rSplit1 := mt_split
def splitF (x : Str) : List D → Option D
  | [.str b] => if (b.length == 0) = false ∧ x.length + 2 ≤ sizeLine then some (.lst ((Txt.split x b).map D.str)) else none
  | _ => none
theorem reps_ofS {K : PySem.W.Frag} {A : Hp} : ∀ ys : List Str, Reps K A (ys.map D.str) (ys.map V.str)
  | [] => .nil
  | y :: ys => .cons (.str y) (reps_ofS ys)
instance (K : PySem.W.Frag) : MT K rSplit1 splitF := ⟨fun H U x vs ds z Q hU r e h => by
  cases r with
  | nil => cases e
  | cons ra rr =>
    cases rr with
    | cons _ _ => cases ra <;> cases e
    | nil =>
      cases ra with
      | str b =>
        have e : (if (b.length == 0) = false ∧ x.length + 2 ≤ sizeLine then some (D.lst ((Txt.split x b).map D.str)) else none) = some z := e
        by_cases q : (b.length == 0) = false ∧ x.length + 2 ≤ sizeLine
        · rw [if_pos q] at e
          cases e
          exact ⟨x, b, rfl, rfl, q.1, q.2, fun p n => h _ _ (same_upd n) (.lst (Hm_some.mpr ⟨hU p (.inl n), upd_same⟩) (reps_ofS _))⟩
        · rw [if_neg q] at e; cases e
      | _ => cases e⟩
def cDispT (k : Str) (i : Int) : EM := fun sl => .ok (.dK [.inr k] [.tup [.int i]]) sl
instance dispT_ex {K : PySem.W.Frag} {W : WX} {k : Str} {i : Int} : EX K W (tDisp [((tC (.str k) : TE), (tTup (tCons (tC (.int i)) tNil) : TE))]) (cDispT k i) := ⟨fun c σ H sl Q s h => by
  intro p n
  show (1 : Nat) ≤ sizeLine ∧ _
  refine ⟨by rw [sizeLine_eq]; omega, fun q nq => ?_⟩
  have qp : p ≠ q := fun z => by rw [← z, upd_same] at nq; cases nq
  have nH : H q = none := by rw [upd_ne (fun z => qp z.symm)] at nq; exact nq
  refine ⟨by rw [upd_ne qp, upd_same], [((.inr k : L2.Key), V.ref q)], rfl, (show (1 : Nat) ≤ 15 by decide), ?_⟩
  have e : upd (upd (upd H p (.dK [])) q (.tup [.int i])) p (.dK (mergeK [] [((.inr k : L2.Key), V.ref q)])) = upd (upd H q (.tup [.int i])) p (.dK [((.inr k : L2.Key), V.ref q)]) := by
    funext b
    by_cases h1 : b = p
    · rw [h1, upd_same, upd_same]
      rfl
    · rw [upd_ne h1, upd_ne h1]
      by_cases h2 : b = q
      · rw [h2, upd_same, upd_same]
      · rw [upd_ne h2, upd_ne h2, upd_ne h1]
  rw [e]
  have n2 : upd H q (.tup [.int i]) p = none := by rw [upd_ne qp]; exact n
  have sm1 : Same H (upd H q (.tup [.int i])) := same_upd nH
  have s1 := s.same sm1
  have sm2 : Same (upd H q (.tup [.int i])) (upd (upd H q (.tup [.int i])) p (.dK [((.inr k : L2.Key), V.ref q)])) := same_upd n2
  have s2 := s1.same sm2
  refine h _ _ s2 ?_ ((fz_same (Le.of_same sm1)).trans (fz_same (Le.of_same sm2)))
  refine .dK (ks := [.inr k]) (vs := [.ref q]) (Hm_some.mpr ⟨s.fresh n, upd_same⟩) rfl (.cons (.tup (Hm_some.mpr ⟨s.fresh nH, ?_⟩) (.cons (.int i) .nil)) .nil)
  rw [upd_ne (fun z => qp z.symm), upd_same]⟩
end DL
set_option linter.all false
set_option autoImplicit false
set_option maxRecDepth 100000
set_option maxHeartbeats 2000000
/-! DyE: exception classes' facts by one Bool; the rules with their marks. -/
namespace DL
open PySem PySem.Spec L2 PyProof.Rows
section
variable {X : Cx}
theorem kcr_isV1 (K : PySem.W.Frag) (G : Addr) (Cs : List Addr) (i : Nat) (fs : List Str) (h : X.K = K := by rfl) : CallR X (.builtin "isinstance") (rIsV1 K G Cs i fs) := kcr_isV K h
theorem kpe_xvf1 (K : PySem.W.Frag) (G : Addr) (Cs : List Addr) (fs : List Str) {te : TE} {n : Str} {e : Expr} {pos : Pos} (he : PE X e te) (hb : attributeBase e n X.env (eval e X.env) = eval e X.env := by rfl) (h : X.K = K := by rfl) : PE X (.Attribute e n pos) (tXvF1 K G Cs fs n te) := kpe_xvf K he hb h
end
def excB (K : PySem.W.Frag) (D : Addr) : Bool := decide (PySem.W.findIn K (.ref D) "__getattribute__" = some (some (.builtin "BaseException.__getattribute__"))) && (decide (PySem.W.findIn K (.ref D) "__getattr__" = some none) &&
  (decide (PySem.W.subIn K (.ref D) (.type "BaseException") = some true) && (PySem.W.hasDictIn K D && (decide (PySem.W.findIn K (.ref D) "__class__" = some (some (.builtin "object.__class__"))) &&
  (decide (PySem.W.specialIn K (.builtin "object.__class__") "__get__" = some (some (.builtin "getset_descriptor.__get__"))) && (decide (PySem.W.takesIn K (.builtin "object.__class__") = some true) && decide (PySem.W.mroIn K D (.type "object") = some true)))))))
theorem excB_ok {K : PySem.W.Frag} {D : Addr} (h : excB K D = true) : L2.ExcC K D := by
  obtain ⟨h1, h⟩ := Bool.and_eq_true_iff.mp h
  obtain ⟨h2, h⟩ := Bool.and_eq_true_iff.mp h
  obtain ⟨h3, h⟩ := Bool.and_eq_true_iff.mp h
  obtain ⟨h4, h⟩ := Bool.and_eq_true_iff.mp h
  obtain ⟨h5, h⟩ := Bool.and_eq_true_iff.mp h
  obtain ⟨h6, h⟩ := Bool.and_eq_true_iff.mp h
  obtain ⟨h7, h8⟩ := Bool.and_eq_true_iff.mp h
  exact ⟨of_decide_eq_true h1, of_decide_eq_true h2, of_decide_eq_true h3, h4, of_decide_eq_true h5, of_decide_eq_true h6, of_decide_eq_true h7, of_decide_eq_true h8⟩
def xv1B (K : PySem.W.Frag) (G : Addr) (Cs : List Addr) (C : Addr) : Bool := excB K C && (decide (PySem.W.kitOne K (.ref C) (.type "ValueError") = some true) && (decide (PySem.W.kitOne K (.ref C) (.ref G) = some true) &&
  Cs.all fun T => decide (PySem.W.kitOne K (.ref C) (.ref T) = some (decide (C = T)))))
def xvB (K : PySem.W.Frag) (G : Addr) (Cs : List Addr) (fs : List Str) : Bool := decide ((G :: Cs).Nodup) && (((G :: Cs).all fun C => xv1B K G Cs C) && Cs.all fun C => xfB K C && fs.all fun f => decide (PySem.W.findIn K (.ref C) f = some none))
theorem xvB_nd {K : PySem.W.Frag} {G : Addr} {Cs : List Addr} {fs : List Str} (h : xvB K G Cs fs = true) : (G :: Cs).Nodup := of_decide_eq_true (Bool.and_eq_true_iff.mp h).1
theorem xvB_ok {K : PySem.W.Frag} {G : Addr} {Cs : List Addr} {fs : List Str} (h : xvB K G Cs fs = true) : XvOk K G Cs fs := by
  obtain ⟨_, h⟩ := Bool.and_eq_true_iff.mp h
  obtain ⟨h1, h2⟩ := Bool.and_eq_true_iff.mp h
  have key : ∀ C ∈ G :: Cs, L2.ExcC K C ∧ PySem.W.kitOne K (.ref C) (.type "ValueError") = some true ∧ PySem.W.kitOne K (.ref C) (.ref G) = some true ∧ ∀ T ∈ Cs, PySem.W.kitOne K (.ref C) (.ref T) = some (decide (C = T)) := fun C hC => by
    have z := List.all_eq_true.mp h1 C hC
    obtain ⟨a, z⟩ := Bool.and_eq_true_iff.mp z
    obtain ⟨b, z⟩ := Bool.and_eq_true_iff.mp z
    obtain ⟨c, d⟩ := Bool.and_eq_true_iff.mp z
    exact ⟨excB_ok a, of_decide_eq_true b, of_decide_eq_true c, fun T hT => of_decide_eq_true (List.all_eq_true.mp d T hT)⟩
  exact ⟨fun C hC => (key C hC).1, fun C hC => by
    obtain ⟨a, b⟩ := Bool.and_eq_true_iff.mp (List.all_eq_true.mp h2 C hC)
    exact ⟨xfB_ok a, fun f hf => of_decide_eq_true (List.all_eq_true.mp b f hf)⟩, fun C hC => (key C hC).2.1, fun C hC => (key C hC).2.2.1, fun C hC => (key C hC).2.2.2⟩
end DL
set_option linter.all false
set_option autoImplicit false
set_option maxRecDepth 100000
namespace Ke
open DL PySem
abbrev N_law_pot : List Str := ["script", "cell"]
def m_law_pot : NM := (cLst (cCons (cFz (cLc [1] (cSeqI (cSl (cVar 0) cNoP (cP (cC (.int 63))))) (mName 1) cYes (cCB absD (cCons (cVar 1) cNil)))) (cCons (cC (.int 0)) (cCons (cC (.int 20011)) (cCons (cC (.int 0)) cNil)))))
def f_law_pot : List D → Option MO := runN 2 m_law_pot
abbrev N_law_draw : List Str := ["pot", "many", "found", "cell"]
def m_law_draw : SM := (cSeq (cIfS (cTest (cOp2 (cmpD fun i j => decide (i < j)) (cVar 1) (cC (.int 2)))) (cRet (cC (.int 0))) cNext)
  (cSeq (cIfS (cTest (cOp2 (cmpD fun i j => decide (j < i)) (cIxO 0 (cC (.int 3))) (cC (.int 0)))) (cSeq (cAsg (cOp2 modD (cCB intD1 (cCons (cIxO 0 (cC (.int 3))) cNil)) (cVar 1)) (mName 2))
  (cSeq (cSetI 0 (cOp2 fdivD (cIxO 0 (cC (.int 3))) (cVar 1)) (cC (.int 3)))
  (cRet (cVar 2)))) cNext)
  (cSeq (cAsg (cC (.int 0)) (mName 3))
  (cSeq (cIfS (cTest (cOp2 (cmpD fun i j => decide (i < j)) (cIxO 0 (cC (.int 1))) (cCB lenD (cCons (cIxO 0 (cC (.int 0))) cNil)))) (cSeq (cAsg (cOp2 idxD (cIxO 0 (cC (.int 0))) (cIxO 0 (cC (.int 1)))) (mName 3))
  (cSeq (cSetI 0 (cOp2 addX (cIxO 0 (cC (.int 1))) (cC (.int 1))) (cC (.int 1)))
  (cIfS (cTest (cOp2 (cmpD fun i j => decide (j ≤ i)) (cVar 3) (cOp2 powD (cC (.int 10)) (cC (.int 18))))) (cSeq (cSetI 0 (cOp2 fdivD (cVar 3) (cVar 1)) (cC (.int 3)))
  (cRet (cOp2 modD (cCB intD1 (cCons (cVar 3) cNil)) (cVar 1)))) cNext))) cNext)
  (cSeq (cSetI 0 (cOp2 modD (cCB intD1 (cCons (cOp2 addX (cOp2 addX (cOp2 mulD (cIxO 0 (cC (.int 2))) (cC (.int 48271))) (cVar 3)) (cC (.int 12345))) cNil)) (cC (.int 2147483647))) (cC (.int 2)))
  (cRet (cOp2 modD (cCB intD1 (cCons (cOp2 addX (cOp2 fdivD (cOp2 mulD (cIxO 0 (cC (.int 2))) (cIxO 0 (cC (.int 2)))) (cC (.int 64))) (cOp2 fdivD (cIxO 0 (cC (.int 2))) (cC (.int 7)))) cNil)) (cVar 1))))))))
def f_law_draw : MO → List D → Option (D × MO) := runB 4 m_law_draw
abbrev N_law_pick : List Str := ["pot", "row"]
def m_law_pick : SM := (cRet (cOp2 idxD (cVar 1) (cCallB 0 (fun m ds => if ds.length = 1 then f_law_draw m ds else none) (cCons (cCB lenD (cCons (cVar 1) cNil)) cNil))))
def f_law_pick : MO → List D → Option (D × MO) := runB 2 m_law_pick
abbrev N_law_thing : List Str := ["pot"]
def m_law_thing : SM := (cRet (cCallB 0 (fun m ds => if ds.length = 1 then f_law_pick m ds else none) (cCons (cFz (cLst (cCons (cC .non) (cCons (cC (.bl true)) (cCons (cC (.int 0)) (cCons (cOp1 negD (cC (.int 3))) (cCons (cOp2 powD (cC (.int 10)) (cC (.int 39))) (cCons (cC (.str "")) (cCons (cC (.str "node")) (cCons (cC (.str "a b")) (cCons (cTup cNil) (cCons (cTup (cCons (cC (.int 1)) (cCons (cC (.str "x")) cNil))) (cCons (cFz (cLst cNil)) (cCons (cFz (cLst (cCons (cC .non) cNil))) (cCons (cFz cDNew) (cCons (cDispT "a" 0) cNil)))))))))))))))) cNil)))
def f_law_thing : MO → List D → Option (D × MO) := runB 1 m_law_thing
abbrev N_law_kinds : List Str := ["error", "found"]
def m_law_kinds (cBadNumber : Addr) (cBadText : Addr) (cBadWeb : Addr) (cGapError : Addr) (cNoCaterpillar : Addr) (cNoRing : Addr) (cNoRuler : Addr) (cTooMany : Addr) : SM := (cSeq (cAsg (cFz (cLst (cCons (cIsV cGapError [cBadNumber, cBadText, cBadWeb, cNoCaterpillar, cNoRing, cNoRuler, cTooMany] cBadNumber (cVar 0)) (cCons (cIsV cGapError [cBadNumber, cBadText, cBadWeb, cNoCaterpillar, cNoRing, cNoRuler, cTooMany] cBadText (cVar 0)) (cCons (cIsV cGapError [cBadNumber, cBadText, cBadWeb, cNoCaterpillar, cNoRing, cNoRuler, cTooMany] cBadWeb (cVar 0)) cNil))))) (mName 1))
  (cSeq (cAsg (cOp2 addX (cVar 1) (cFz (cLst (cCons (cIsV cGapError [cBadNumber, cBadText, cBadWeb, cNoCaterpillar, cNoRing, cNoRuler, cTooMany] cNoCaterpillar (cVar 0)) (cCons (cIsV cGapError [cBadNumber, cBadText, cBadWeb, cNoCaterpillar, cNoRing, cNoRuler, cTooMany] cNoRing (cVar 0)) (cCons (cIsV cGapError [cBadNumber, cBadText, cBadWeb, cNoCaterpillar, cNoRing, cNoRuler, cTooMany] cNoRuler (cVar 0)) cNil)))))) (mName 1))
  (cRet (cOp2 addX (cVar 1) (cFz (cLst (cCons (cIsV cGapError [cBadNumber, cBadText, cBadWeb, cNoCaterpillar, cNoRing, cNoRuler, cTooMany] cTooMany (cVar 0)) cNil)))))))
def f_law_kinds (cBadNumber : Addr) (cBadText : Addr) (cBadWeb : Addr) (cGapError : Addr) (cNoCaterpillar : Addr) (cNoRing : Addr) (cNoRuler : Addr) (cTooMany : Addr) : List D → Option D := runP 2 (m_law_kinds cBadNumber cBadText cBadWeb cGapError cNoCaterpillar cNoRing cNoRuler cTooMany)
abbrev N_law_rows : List Str := ["a", "b", "rows"]
def m_law_rows (cBadNumber : Addr) (cBadText : Addr) (cBadWeb : Addr) (cNoCaterpillar : Addr) (cNoRing : Addr) (cNoRuler : Addr) (cTooMany : Addr) : SM := (cSeq (cAsg (cFz (cLst (cCons (cTup (cCons (cXv cBadNumber ["value"] (cCons (cVar 0) cNil)) (cCons (cC (.str "value")) cNil))) (cCons (cTup (cCons (cXv cBadText ["line", "what"] (cCons (cVar 0) (cCons (cVar 1) cNil))) (cCons (cC (.str "line what")) cNil))) (cCons (cTup (cCons (cXv cBadWeb ["what"] (cCons (cVar 0) cNil)) (cCons (cC (.str "what")) cNil))) cNil))))) (mName 2))
  (cRet (cOp2 addX (cVar 2) (cFz (cLst (cCons (cTup (cCons (cXv0 cNoCaterpillar) (cCons (cC (.str "")) cNil))) (cCons (cTup (cCons (cXv0 cNoRing) (cCons (cC (.str "")) cNil))) (cCons (cTup (cCons (cXv0 cNoRuler) (cCons (cC (.str "")) cNil))) (cCons (cTup (cCons (cXv cTooMany ["most"] (cCons (cVar 0) cNil)) (cCons (cC (.str "most")) cNil))) cNil)))))))))
def f_law_rows (cBadNumber : Addr) (cBadText : Addr) (cBadWeb : Addr) (cNoCaterpillar : Addr) (cNoRing : Addr) (cNoRuler : Addr) (cTooMany : Addr) : List D → Option D := runP 3 (m_law_rows cBadNumber cBadText cBadWeb cNoCaterpillar cNoRing cNoRuler cTooMany)
abbrev N_law_told_of : List Str := ["error", "words", "found", "word"]
abbrev law_told_of_b0 (cBadNumber : Addr) (cBadText : Addr) (cBadWeb : Addr) (cGapError : Addr) (cNoCaterpillar : Addr) (cNoRing : Addr) (cNoRuler : Addr) (cTooMany : Addr) : SM := (cIfS (cTest (cOp2 eqO (cVar 3) (cC (.str "value")))) (cDrop (cMeth 2 apF (cCons (cXvF [cBadNumber, cBadText, cBadWeb, cNoCaterpillar, cNoRing, cNoRuler, cTooMany] ["value", "line", "what", "most"] "value" (cVar 0)) cNil))) (cIfS (cTest (cOp2 eqO (cVar 3) (cC (.str "what")))) (cDrop (cMeth 2 apF (cCons (cXvF [cBadNumber, cBadText, cBadWeb, cNoCaterpillar, cNoRing, cNoRuler, cTooMany] ["value", "line", "what", "most"] "what" (cVar 0)) cNil))) (cIfS (cTest (cOp2 eqO (cVar 3) (cC (.str "line")))) (cDrop (cMeth 2 apF (cCons (cXvF [cBadNumber, cBadText, cBadWeb, cNoCaterpillar, cNoRing, cNoRuler, cTooMany] ["value", "line", "what", "most"] "line" (cVar 0)) cNil))) (cIfS (cTest (cOp2 eqO (cVar 3) (cC (.str "most")))) (cDrop (cMeth 2 apF (cCons (cXvF [cBadNumber, cBadText, cBadWeb, cNoCaterpillar, cNoRing, cNoRuler, cTooMany] ["value", "line", "what", "most"] "most" (cVar 0)) cNil))) cNext))))
def m_law_told_of (cBadNumber : Addr) (cBadText : Addr) (cBadWeb : Addr) (cGapError : Addr) (cNoCaterpillar : Addr) (cNoRing : Addr) (cNoRuler : Addr) (cTooMany : Addr) : SM := (cSeq (cAsgO (cLst cNil) 2)
  (cSeq (cFor (cSeqI (cMT splitF (cVar 1) (cCons (cC (.str " ")) cNil))) (mName 3) (law_told_of_b0 cBadNumber cBadText cBadWeb cGapError cNoCaterpillar cNoRing cNoRuler cTooMany))
  (cRet (cVar 2))))
def f_law_told_of (cBadNumber : Addr) (cBadText : Addr) (cBadWeb : Addr) (cGapError : Addr) (cNoCaterpillar : Addr) (cNoRing : Addr) (cNoRuler : Addr) (cTooMany : Addr) : List D → Option D := runP 4 (m_law_told_of cBadNumber cBadText cBadWeb cGapError cNoCaterpillar cNoRing cNoRuler cTooMany)
abbrev N_law : List Str := ["script", "pot", "a", "b", "c", "rows", "later", "at", "row", "error", "words", "due", "k", "alone"]
abbrev law_e0 (cBadNumber : Addr) (cBadText : Addr) (cBadWeb : Addr) (cGapError : Addr) (cNoCaterpillar : Addr) (cNoRing : Addr) (cNoRuler : Addr) (cTooMany : Addr) : EM := (cOp2 eqO (cVar 12) (cVar 7))
abbrev law_b1 (cBadNumber : Addr) (cBadText : Addr) (cBadWeb : Addr) (cGapError : Addr) (cNoCaterpillar : Addr) (cNoRing : Addr) (cNoRuler : Addr) (cTooMany : Addr) : SM := (cSeq (cAsg (cVar 8) (mGTup 2 (mGCons (mName 9) (mGCons (mName 10) mGNil))))
  (cSeq (cAsg (cIfE (cTest (cOp2 neO (cVar 10) (cC (.str "")))) (cSl (cFz (cLst (cCons (cVar 2) (cCons (cVar 3) cNil)))) cNoP (cP (cCB lenD (cCons (cMT splitF (cVar 10) (cCons (cC (.str " ")) cNil)) cNil)))) (cFz (cLst cNil))) (mName 11))
  (cSeq (cIfS (cOr (cNot (cTest (cIsVg cGapError [cBadNumber, cBadText, cBadWeb, cNoCaterpillar, cNoRing, cNoRuler, cTooMany] (cVar 9)))) (cNot (cTest (cIsVg cGapError [cBadNumber, cBadText, cBadWeb, cNoCaterpillar, cNoRing, cNoRuler, cTooMany] (cVar 9))))) (cRet (cC (.bl false))) cNext)
  (cSeq (cIfS (cTest (cOp2 neO (cCall (fun ds => if ds.length = 1 then (f_law_kinds cBadNumber cBadText cBadWeb cGapError cNoCaterpillar cNoRing cNoRuler cTooMany) ds else none) (cCons (cVar 9) cNil)) (cFz (cLc [12] (cRng1 (cCons (cCB lenD (cCons (cVar 5) cNil)) cNil)) (mName 12) cYes (law_e0 cBadNumber cBadText cBadWeb cGapError cNoCaterpillar cNoRing cNoRuler cTooMany))))) (cRet (cC (.bl false))) cNext)
  (cSeq (cIfS (cTest (cOp2 neO (cCB reprL (cCons (cCall (fun ds => if ds.length = 2 then (f_law_told_of cBadNumber cBadText cBadWeb cGapError cNoCaterpillar cNoRing cNoRuler cTooMany) ds else none) (cCons (cVar 9) (cCons (cVar 10) cNil))) cNil)) (cCB reprL (cCons (cVar 11) cNil)))) (cRet (cC (.bl false))) cNext)
  (cIfS (cTest (cOp2 neO (cCB reprL (cCons (cCall (fun ds => if ds.length = 2 then (f_law_told_of cBadNumber cBadText cBadWeb cGapError cNoCaterpillar cNoRing cNoRuler cTooMany) ds else none) (cCons (cOp2 idxD (cOp2 idxD (cVar 6) (cVar 7)) (cC (.int 0))) (cCons (cVar 10) cNil))) cNil)) (cCB reprL (cCons (cSl (cFz (cLst (cCons (cVar 4) (cCons (cVar 2) cNil)))) cNoP (cP (cCB lenD (cCons (cVar 11) cNil)))) cNil)))) (cRet (cC (.bl false))) cNext))))))
def m_law (cBadNumber : Addr) (cBadText : Addr) (cBadWeb : Addr) (cGapError : Addr) (cNoCaterpillar : Addr) (cNoRing : Addr) (cNoRuler : Addr) (cTooMany : Addr) : SM := (cSeq (cAsgO (cCallN (fun ds => if ds.length = 1 then f_law_pot ds else none) (cCons (cVar 0) cNil)) 1)
  (cSeq (cPar3 2 3 4 (cCons (cCallB 1 (fun m ds => if ds.length = 0 then f_law_thing m ds else none) cNil) (cCons (cCallB 1 (fun m ds => if ds.length = 0 then f_law_thing m ds else none) cNil) (cCons (cCallB 1 (fun m ds => if ds.length = 0 then f_law_thing m ds else none) cNil) cNil))))
  (cSeq (cPar 5 6 (cCons (cCall (fun ds => if ds.length = 2 then (f_law_rows cBadNumber cBadText cBadWeb cNoCaterpillar cNoRing cNoRuler cTooMany) ds else none) (cCons (cVar 2) (cCons (cVar 3) cNil))) (cCons (cCall (fun ds => if ds.length = 2 then (f_law_rows cBadNumber cBadText cBadWeb cNoCaterpillar cNoRing cNoRuler cTooMany) ds else none) (cCons (cVar 4) (cCons (cVar 2) cNil))) cNil)))
  (cSeq (cFor (cEnum (cCons (cVar 5) cNil)) (mGTup 2 (mGCons (mName 7) (mGCons (mName 8) mGNil))) (law_b1 cBadNumber cBadText cBadWeb cGapError cNoCaterpillar cNoRing cNoRuler cTooMany))
  (cSeq (cAsg (cXv0 cGapError) (mName 13))
  (cRet (cIfE (cTest (cIsVg cGapError [cBadNumber, cBadText, cBadWeb, cNoCaterpillar, cNoRing, cNoRuler, cTooMany] (cVar 13))) (cOp2 ninO (cC (.bl true)) (cCall (fun ds => if ds.length = 1 then (f_law_kinds cBadNumber cBadText cBadWeb cGapError cNoCaterpillar cNoRing cNoRuler cTooMany) ds else none) (cCons (cVar 13) cNil))) (cC (.bl false)))))))))
def f_law (cBadNumber : Addr) (cBadText : Addr) (cBadWeb : Addr) (cGapError : Addr) (cNoCaterpillar : Addr) (cNoRing : Addr) (cNoRuler : Addr) (cTooMany : Addr) : List D → Option D := runP 14 (m_law cBadNumber cBadText cBadWeb cGapError cNoCaterpillar cNoRing cNoRuler cTooMany)
end Ke
set_option linter.all false
set_option autoImplicit false
set_option maxRecDepth 100000
set_option maxHeartbeats 0
set_option synthInstance.maxHeartbeats 0
set_option synthInstance.maxSize 100000
namespace Ke
open DL PySem PySem.Spec L2
def top (i : Nat) : Stmt := PySem.Challenge.pw_gaplabels_k00_errors_alone.main.body.getD i (.Pass ⟨0, 0, 0, 0⟩)
abbrev FnP (K : PySem.W.Frag) (x : Str) (st : Stmt) (f : Addr) (fd : FuncData) : Prop := FunD K x x (defArgs st) (defBody st) (defScope st) [] [] f fd
def inC (i j : Nat) : Stmt := match top i with
  | .ClassDef _ _ _ b _ _ _ _ _ _ _ => b.getD j (.Pass ⟨0, 0, 0, 0⟩)
  | _ => .Pass ⟨0, 0, 0, 0⟩
abbrev FnQ (K : PySem.W.Frag) (x q : Str) (st : Stmt) (f : Addr) (fd : FuncData) : Prop := FunD K x q (defArgs st) (defBody st) (defScope st) [] [] f fd
/-- what the module holds -/
structure Gm (mg : Str → Option Value) : Prop where
  b_len : mg "len" = none
  b_abs : mg "abs" = none
  b_int : mg "int" = none
  b_range : mg "range" = none
  b_isinstance : mg "isinstance" = none
  b_enumerate : mg "enumerate" = none
  b_repr : mg "repr" = none
  b_super : mg "super" = none
  b_ValueError : mg "ValueError" = none
abbrev s_law_pot : Stmt := top 10
theorem sc_law_pot : FnScope N_law_pot ["script"] (defScope s_law_pot) := ⟨rfl, rfl, rfl, by decide +kernel, rfl, by decide +kernel, by decide +kernel⟩
theorem ok_law_pot {P : Program} {w : World} {K : PySem.W.Frag} {mg : Str → Option Value} {base : Heap} {f : Addr} {fd : FuncData} (Fd : FnP K "_law_pot" s_law_pot f fd) (G : Gm mg)  : FnOk P w K mg base CX0 1 f fd ["script"] (spN K 1 f_law_pot) := by
  refine fnN (k := 0) Fd sc_law_pot rfl fun cdv A outer s H E hr => ?_
  have nd := sc_law_pot.nd
  refine ⟨_, (pss_one (ps_ret (pe_lst (pa_cons (pe_lcD [("cell", 1)] [1] nd (blkOk_by (own := [("cell", 1)]) (N := N_law_pot) (sc := defScope s_law_pot) (by decide +kernel)) (kpi_seq K (pe_slice (ksl K) (pv 0) po_none (po_some pe_int))) (fun _ _ _ _ _ => (pg_name (i := 1) nd rfl (Or.inl rfl))) (fun _ _ _ _ _ => pts_nil) (fun _ _ _ _ _ => (pe_callB cr_abs1 rfl G.b_abs PyProof.Rows.boot_abs (pa_cons (pv 1) pa_nil)))) (pa_cons pe_int (pa_cons pe_int (pa_cons pe_int pa_nil))))))), ?_⟩
  skip
  exact inferInstance
abbrev s_law_draw : Stmt := top 11
theorem sc_law_draw : FnScope N_law_draw ["pot", "many"] (defScope s_law_draw) := ⟨rfl, rfl, rfl, by decide +kernel, rfl, by decide +kernel, by decide +kernel⟩
theorem ok_law_draw {P : Program} {w : World} {K : PySem.W.Frag} {mg : Str → Option Value} {base : Heap} {f : Addr} {fd : FuncData} (Fd : FnP K "_law_draw" s_law_draw f fd) (G : Gm mg)  : FnOk P w K mg base CX0 1 f fd ["pot", "many"] (spB K 1 f_law_draw) := by
  refine fnB (k := 0) Fd sc_law_draw rfl fun cdv A outer s H E hr => ?_
  have nd := sc_law_draw.nd
  refine ⟨_, (pss_cons (ps_if (pt_cmpR op_lt (pv 1) pe_int (nomark _)) (pss_one (ps_ret pe_int)) pss_nil)
      (pss_cons (ps_if (pt_cmpR op_gt (pe_ix (kix K) (pvB 0) pe_int (fun _ _ => rfl)) pe_int (nomark _)) (pss_cons (ps_set (i := 2) nd rfl (Or.inl rfl) (pe_op op_modN (pe_callTy cr_int1 rfl G.b_int PyProof.Rows.boot_int (pa_cons (pe_ix (kix K) (pvB 0) pe_int (fun _ _ => rfl)) pa_nil)) (pv 1)))
      (pss_cons (ps_asg (pe_op op_fdivN (pe_ix (kix K) (pvB 0) pe_int (fun _ _ => rfl)) (pv 1)) (pg_sub (pvB 0) pe_int set_list))
      (pss_one (ps_ret (pv 2))))) pss_nil)
      (pss_cons (ps_set (i := 3) nd rfl (Or.inl rfl) pe_int)
      (pss_cons (ps_if (pt_cmpR op_lt (pe_ix (kix K) (pvB 0) pe_int (fun _ _ => rfl)) (pe_callB (kcr_len K) rfl G.b_len PySem.boot_len (pa_cons (pe_ix (kix K) (pvB 0) pe_int (fun _ _ => rfl)) pa_nil)) (nomark _)) (pss_cons (ps_set (i := 3) nd rfl (Or.inl rfl) (pe_ix (kix K) (pe_ix (kix K) (pvB 0) pe_int (fun _ _ => rfl)) (pe_ix (kix K) (pvB 0) pe_int (fun _ _ => rfl)) (fun _ _ => rfl)))
      (pss_cons (ps_asg (pe_op (kop_add K) (pe_ix (kix K) (pvB 0) pe_int (fun _ _ => rfl)) pe_int) (pg_sub (pvB 0) pe_int set_list))
      (pss_one (ps_if (pt_cmpR op_ge (pv 3) (pe_op op_pow pe_int pe_int) (nomark _)) (pss_cons (ps_asg (pe_op op_fdivN (pv 3) (pv 1)) (pg_sub (pvB 0) pe_int set_list))
      (pss_one (ps_ret (pe_op op_modN (pe_callTy cr_int1 rfl G.b_int PyProof.Rows.boot_int (pa_cons (pv 3) pa_nil)) (pv 1))))) pss_nil)))) pss_nil)
      (pss_cons (ps_asg (pe_op op_modN (pe_callTy cr_int1 rfl G.b_int PyProof.Rows.boot_int (pa_cons (pe_op (kop_add K) (pe_op (kop_add K) (pe_op op_mulA (pe_ix (kix K) (pvB 0) pe_int (fun _ _ => rfl)) pe_int) (pv 3)) pe_int) pa_nil)) pe_int) (pg_sub (pvB 0) pe_int set_list))
      (pss_one (ps_ret (pe_op op_modN (pe_callTy cr_int1 rfl G.b_int PyProof.Rows.boot_int (pa_cons (pe_op (kop_add K) (pe_op op_fdivN (pe_op op_mulA (pe_ix (kix K) (pvB 0) pe_int (fun _ _ => rfl)) (pe_ix (kix K) (pvB 0) pe_int (fun _ _ => rfl))) pe_int) (pe_op op_fdivN (pe_ix (kix K) (pvB 0) pe_int (fun _ _ => rfl)) pe_int)) pa_nil)) (pv 1))))))))), ?_⟩
  skip
  exact inferInstance
abbrev s_law_pick : Stmt := top 12
theorem sc_law_pick : FnScope N_law_pick ["pot", "row"] (defScope s_law_pick) := ⟨rfl, rfl, rfl, by decide +kernel, rfl, by decide +kernel, by decide +kernel⟩
theorem ok_law_pick {P : Program} {w : World} {K : PySem.W.Frag} {mg : Str → Option Value} {base : Heap} {f : Addr} {fd : FuncData} (Fd : FnP K "_law_pick" s_law_pick f fd) (G : Gm mg) (G_law_draw : Dn P w K mg base 1 "_law_draw" ["pot", "many"] (spB K 1 f_law_draw)) : FnOk P w K mg base CX0 2 f fd ["pot", "row"] (spB K 1 f_law_pick) := by
  refine fnB (k := 1) Fd sc_law_pick rfl fun cdv A outer s H E hr => ?_
  have nd := sc_law_pick.nd
  refine ⟨_, (pss_one (ps_ret (pe_ix (kix K) (pv 1) (pe_callD G_law_draw (hr.mono (by omega)) rfl (pa_cons (pvB 0) (pa_cons (pe_callB (kcr_len K) rfl G.b_len PySem.boot_len (pa_cons (pv 1) pa_nil)) pa_nil))) (fun _ _ => rfl)))), ?_⟩
  skip
  exact inferInstance
abbrev s_law_thing : Stmt := top 13
theorem sc_law_thing : FnScope N_law_thing ["pot"] (defScope s_law_thing) := ⟨rfl, rfl, rfl, by decide +kernel, rfl, by decide +kernel, by decide +kernel⟩
theorem ok_law_thing {P : Program} {w : World} {K : PySem.W.Frag} {mg : Str → Option Value} {base : Heap} {f : Addr} {fd : FuncData} (Fd : FnP K "_law_thing" s_law_thing f fd) (G : Gm mg) (G_law_pick : Dn P w K mg base 2 "_law_pick" ["pot", "row"] (spB K 1 f_law_pick)) : FnOk P w K mg base CX0 3 f fd ["pot"] (spB K 0 f_law_thing) := by
  refine fnB (k := 2) Fd sc_law_thing rfl fun cdv A outer s H E hr => ?_
  have nd := sc_law_thing.nd
  refine ⟨_, (pss_one (ps_ret (pe_callD G_law_pick (hr.mono (by omega)) rfl (pa_cons (pvB 0) (pa_cons (pe_lst (pa_cons pe_non (pa_cons pe_bl (pa_cons pe_int (pa_cons (pe_un un_neg pe_int) (pa_cons (pe_op op_pow pe_int pe_int) (pa_cons pe_str (pa_cons pe_str (pa_cons pe_str (pa_cons (pe_tup pa_nil) (pa_cons (pe_tup (pa_cons pe_int (pa_cons pe_str pa_nil))) (pa_cons (pe_lst pa_nil) (pa_cons (pe_lst (pa_cons pe_non pa_nil)) (pa_cons pe_dnewK (pa_cons (pe_disp (pps_cons pe_str (pe_tup (pa_cons pe_int pa_nil)) pps_nil) rfl rfl (by simp) (by decide)) pa_nil))))))))))))))) pa_nil))))), ?_⟩
  skip
  exact inferInstance
abbrev s_law_kinds : Stmt := top 14
theorem sc_law_kinds : FnScope N_law_kinds ["error"] (defScope s_law_kinds) := ⟨rfl, rfl, rfl, by decide +kernel, rfl, by decide +kernel, by decide +kernel⟩
theorem ok_law_kinds {P : Program} {w : World} {K : PySem.W.Frag} {mg : Str → Option Value} {base : Heap} {f : Addr} {fd : FuncData} {cBadNumber : Addr} {cBadText : Addr} {cBadWeb : Addr} {cGapError : Addr} {cNoCaterpillar : Addr} {cNoRing : Addr} {cNoRuler : Addr} {cTooMany : Addr} [XvOk K cGapError [cBadNumber, cBadText, cBadWeb, cNoCaterpillar, cNoRing, cNoRuler, cTooMany] ["value", "line", "what", "most"]] (Fd : FnP K "_law_kinds" s_law_kinds f fd) (G : Gm mg) (E_BadWeb : Xn P w K mg base 1 "BadWeb" cBadWeb ["what"] (spI cBadWeb ["what"])) (E_BadText : Xn P w K mg base 1 "BadText" cBadText ["line", "what"] (spI cBadText ["line", "what"])) (E_BadNumber : Xn P w K mg base 1 "BadNumber" cBadNumber ["value"] (spI cBadNumber ["value"])) (E_NoRuler : Xn P w K mg base 1 "NoRuler" cNoRuler [] (spI0 cNoRuler)) (E_NoRing : Xn P w K mg base 1 "NoRing" cNoRing [] (spI0 cNoRing)) (E_NoCaterpillar : Xn P w K mg base 1 "NoCaterpillar" cNoCaterpillar [] (spI0 cNoCaterpillar)) (E_TooMany : Xn P w K mg base 1 "TooMany" cTooMany ["most"] (spI cTooMany ["most"])) : FnOk P w K mg base CX0 3 f fd ["error"] (spP K 1 (f_law_kinds cBadNumber cBadText cBadWeb cGapError cNoCaterpillar cNoRing cNoRuler cTooMany)) := by
  refine fnP (k := 2) Fd sc_law_kinds rfl fun cdv A outer s H E hr => ?_
  have nd := sc_law_kinds.nd
  refine ⟨_, (pss_cons (ps_set (i := 1) nd rfl (Or.inl rfl) (pe_lst (pa_cons (pe_callB (kcr_isV1 K cGapError [cBadNumber, cBadText, cBadWeb, cNoCaterpillar, cNoRing, cNoRuler, cTooMany] 0 ["value", "line", "what", "most"]) rfl G.b_isinstance PyProof.Rows.boot_isinstance (pa_cons (pv 0) (pa_cons (pe_glob (v := .ref cBadNumber) rfl E_BadNumber.at_ rfl) pa_nil))) (pa_cons (pe_callB (kcr_isV1 K cGapError [cBadNumber, cBadText, cBadWeb, cNoCaterpillar, cNoRing, cNoRuler, cTooMany] 0 ["value", "line", "what", "most"]) rfl G.b_isinstance PyProof.Rows.boot_isinstance (pa_cons (pv 0) (pa_cons (pe_glob (v := .ref cBadText) rfl E_BadText.at_ rfl) pa_nil))) (pa_cons (pe_callB (kcr_isV1 K cGapError [cBadNumber, cBadText, cBadWeb, cNoCaterpillar, cNoRing, cNoRuler, cTooMany] 0 ["value", "line", "what", "most"]) rfl G.b_isinstance PyProof.Rows.boot_isinstance (pa_cons (pv 0) (pa_cons (pe_glob (v := .ref cBadWeb) rfl E_BadWeb.at_ rfl) pa_nil))) pa_nil)))))
      (pss_cons (ps_set (i := 1) nd rfl (Or.inl rfl) (pe_op (kop_add K) (pv 1) (pe_lst (pa_cons (pe_callB (kcr_isV1 K cGapError [cBadNumber, cBadText, cBadWeb, cNoCaterpillar, cNoRing, cNoRuler, cTooMany] 0 ["value", "line", "what", "most"]) rfl G.b_isinstance PyProof.Rows.boot_isinstance (pa_cons (pv 0) (pa_cons (pe_glob (v := .ref cNoCaterpillar) rfl E_NoCaterpillar.at_ rfl) pa_nil))) (pa_cons (pe_callB (kcr_isV1 K cGapError [cBadNumber, cBadText, cBadWeb, cNoCaterpillar, cNoRing, cNoRuler, cTooMany] 0 ["value", "line", "what", "most"]) rfl G.b_isinstance PyProof.Rows.boot_isinstance (pa_cons (pv 0) (pa_cons (pe_glob (v := .ref cNoRing) rfl E_NoRing.at_ rfl) pa_nil))) (pa_cons (pe_callB (kcr_isV1 K cGapError [cBadNumber, cBadText, cBadWeb, cNoCaterpillar, cNoRing, cNoRuler, cTooMany] 0 ["value", "line", "what", "most"]) rfl G.b_isinstance PyProof.Rows.boot_isinstance (pa_cons (pv 0) (pa_cons (pe_glob (v := .ref cNoRuler) rfl E_NoRuler.at_ rfl) pa_nil))) pa_nil))))))
      (pss_one (ps_ret (pe_op (kop_add K) (pv 1) (pe_lst (pa_cons (pe_callB (kcr_isV1 K cGapError [cBadNumber, cBadText, cBadWeb, cNoCaterpillar, cNoRing, cNoRuler, cTooMany] 0 ["value", "line", "what", "most"]) rfl G.b_isinstance PyProof.Rows.boot_isinstance (pa_cons (pv 0) (pa_cons (pe_glob (v := .ref cTooMany) rfl E_TooMany.at_ rfl) pa_nil))) pa_nil))))))), ?_⟩
  skip
  exact inferInstance
abbrev s_law_rows : Stmt := top 15
theorem sc_law_rows : FnScope N_law_rows ["a", "b"] (defScope s_law_rows) := ⟨rfl, rfl, rfl, by decide +kernel, rfl, by decide +kernel, by decide +kernel⟩
theorem ok_law_rows {P : Program} {w : World} {K : PySem.W.Frag} {mg : Str → Option Value} {base : Heap} {f : Addr} {fd : FuncData} {cBadNumber : Addr} {cBadText : Addr} {cBadWeb : Addr} {cNoCaterpillar : Addr} {cNoRing : Addr} {cNoRuler : Addr} {cTooMany : Addr} (Fd : FnP K "_law_rows" s_law_rows f fd) (G : Gm mg) (E_BadWeb : Xn P w K mg base 1 "BadWeb" cBadWeb ["what"] (spI cBadWeb ["what"])) (E_BadText : Xn P w K mg base 1 "BadText" cBadText ["line", "what"] (spI cBadText ["line", "what"])) (E_BadNumber : Xn P w K mg base 1 "BadNumber" cBadNumber ["value"] (spI cBadNumber ["value"])) (E_TooMany : Xn P w K mg base 1 "TooMany" cTooMany ["most"] (spI cTooMany ["most"])) (E_NoRuler : Xn P w K mg base 1 "NoRuler" cNoRuler [] (spI0 cNoRuler)) (E_NoRing : Xn P w K mg base 1 "NoRing" cNoRing [] (spI0 cNoRing)) (E_NoCaterpillar : Xn P w K mg base 1 "NoCaterpillar" cNoCaterpillar [] (spI0 cNoCaterpillar)) : FnOk P w K mg base CX0 3 f fd ["a", "b"] (spP K 2 (f_law_rows cBadNumber cBadText cBadWeb cNoCaterpillar cNoRing cNoRuler cTooMany)) := by
  refine fnP (k := 2) Fd sc_law_rows rfl fun cdv A outer s H E hr => ?_
  have nd := sc_law_rows.nd
  refine ⟨_, (pss_cons (ps_set (i := 2) nd rfl (Or.inl rfl) (pe_lst (pa_cons (pe_tup (pa_cons (pe_xv E_BadNumber (hr.mono (by omega)) (pa_cons (pv 0) pa_nil)) (pa_cons pe_str pa_nil))) (pa_cons (pe_tup (pa_cons (pe_xv E_BadText (hr.mono (by omega)) (pa_cons (pv 0) (pa_cons (pv 1) pa_nil))) (pa_cons pe_str pa_nil))) (pa_cons (pe_tup (pa_cons (pe_xv E_BadWeb (hr.mono (by omega)) (pa_cons (pv 0) pa_nil)) (pa_cons pe_str pa_nil))) pa_nil)))))
      (pss_one (ps_ret (pe_op (kop_add K) (pv 2) (pe_lst (pa_cons (pe_tup (pa_cons (pe_xv0 E_NoCaterpillar (hr.mono (by omega))) (pa_cons pe_str pa_nil))) (pa_cons (pe_tup (pa_cons (pe_xv0 E_NoRing (hr.mono (by omega))) (pa_cons pe_str pa_nil))) (pa_cons (pe_tup (pa_cons (pe_xv0 E_NoRuler (hr.mono (by omega))) (pa_cons pe_str pa_nil))) (pa_cons (pe_tup (pa_cons (pe_xv E_TooMany (hr.mono (by omega)) (pa_cons (pv 0) pa_nil)) (pa_cons pe_str pa_nil))) pa_nil))))))))), ?_⟩
  skip
  exact inferInstance
abbrev s_law_told_of : Stmt := top 16
theorem sc_law_told_of : FnScope N_law_told_of ["error", "words"] (defScope s_law_told_of) := ⟨rfl, rfl, rfl, by decide +kernel, rfl, by decide +kernel, by decide +kernel⟩
theorem ok_law_told_of {P : Program} {w : World} {K : PySem.W.Frag} {mg : Str → Option Value} {base : Heap} {f : Addr} {fd : FuncData} {cBadNumber : Addr} {cBadText : Addr} {cBadWeb : Addr} {cGapError : Addr} {cNoCaterpillar : Addr} {cNoRing : Addr} {cNoRuler : Addr} {cTooMany : Addr} [XvOk K cGapError [cBadNumber, cBadText, cBadWeb, cNoCaterpillar, cNoRing, cNoRuler, cTooMany] ["value", "line", "what", "most"]] (Fd : FnP K "_law_told_of" s_law_told_of f fd) (G : Gm mg)  : FnOk P w K mg base CX0 1 f fd ["error", "words"] (spP K 2 (f_law_told_of cBadNumber cBadText cBadWeb cGapError cNoCaterpillar cNoRing cNoRuler cTooMany)) := by
  refine fnP (k := 0) Fd sc_law_told_of rfl fun cdv A outer s H E hr => ?_
  have nd := sc_law_told_of.nd
  refine ⟨_, (pss_cons (PS.owned (ps_set (i := 2) nd rfl (Or.inl rfl) (pe_lst pa_nil)))
      (pss_cons (ps_for PassesOwn.never rfl (kpi_seq K (kpe_txt K PySem.F.plainAttrs_str PySem.F.slot_str_split PySem.F.type_str_split k_split (pv 1) (pa_cons pe_str pa_nil))) (pg_name (i := 3) nd rfl (Or.inl rfl)) (pss_one (ps_if (pt_cmpR (kop_eq K (Room.u64 hr)) (pv 3) pe_str (nomark _)) (pss_one (ps_expr (kpe_bm K PySem.F.plainAttrs_list PySem.F.slot_list_append PySem.F.type_list_append mt_append (pvB 2) (pa_cons (kpe_xvf1 K cGapError [cBadNumber, cBadText, cBadWeb, cNoCaterpillar, cNoRing, cNoRuler, cTooMany] ["value", "line", "what", "most"] (pv 0)) pa_nil)))) (pss_one (ps_if (pt_cmpR (kop_eq K (Room.u64 hr)) (pv 3) pe_str (nomark _)) (pss_one (ps_expr (kpe_bm K PySem.F.plainAttrs_list PySem.F.slot_list_append PySem.F.type_list_append mt_append (pvB 2) (pa_cons (kpe_xvf1 K cGapError [cBadNumber, cBadText, cBadWeb, cNoCaterpillar, cNoRing, cNoRuler, cTooMany] ["value", "line", "what", "most"] (pv 0)) pa_nil)))) (pss_one (ps_if (pt_cmpR (kop_eq K (Room.u64 hr)) (pv 3) pe_str (nomark _)) (pss_one (ps_expr (kpe_bm K PySem.F.plainAttrs_list PySem.F.slot_list_append PySem.F.type_list_append mt_append (pvB 2) (pa_cons (kpe_xvf1 K cGapError [cBadNumber, cBadText, cBadWeb, cNoCaterpillar, cNoRing, cNoRuler, cTooMany] ["value", "line", "what", "most"] (pv 0)) pa_nil)))) (pss_one (ps_if (pt_cmpR (kop_eq K (Room.u64 hr)) (pv 3) pe_str (nomark _)) (pss_one (ps_expr (kpe_bm K PySem.F.plainAttrs_list PySem.F.slot_list_append PySem.F.type_list_append mt_append (pvB 2) (pa_cons (kpe_xvf1 K cGapError [cBadNumber, cBadText, cBadWeb, cNoCaterpillar, cNoRing, cNoRuler, cTooMany] ["value", "line", "what", "most"] (pv 0)) pa_nil)))) pss_nil)))))))))
      (pss_one (ps_ret (pv 2))))), ?_⟩
  skip
  exact inferInstance
abbrev s_law : Stmt := top 17
theorem sc_law : FnScope N_law ["script"] (defScope s_law) := ⟨rfl, rfl, rfl, by decide +kernel, rfl, by decide +kernel, by decide +kernel⟩
theorem ok_law {P : Program} {w : World} {K : PySem.W.Frag} {mg : Str → Option Value} {base : Heap} {f : Addr} {fd : FuncData} {cBadNumber : Addr} {cBadText : Addr} {cBadWeb : Addr} {cGapError : Addr} {cNoCaterpillar : Addr} {cNoRing : Addr} {cNoRuler : Addr} {cTooMany : Addr} [XvOk K cGapError [cBadNumber, cBadText, cBadWeb, cNoCaterpillar, cNoRing, cNoRuler, cTooMany] ["value", "line", "what", "most"]] (Fd : FnP K "law" s_law f fd) (G : Gm mg) (hS : (K.lookup sysModules).isSome = true) (G_law_pot : Dn P w K mg base 1 "_law_pot" ["script"] (spN K 1 f_law_pot)) (G_law_thing : Dn P w K mg base 3 "_law_thing" ["pot"] (spB K 0 f_law_thing)) (G_law_rows : Dn P w K mg base 3 "_law_rows" ["a", "b"] (spP K 2 (f_law_rows cBadNumber cBadText cBadWeb cNoCaterpillar cNoRing cNoRuler cTooMany))) (A_GapError : mg "GapError" = some (.ref cGapError)) (G_law_kinds : Dn P w K mg base 3 "_law_kinds" ["error"] (spP K 1 (f_law_kinds cBadNumber cBadText cBadWeb cGapError cNoCaterpillar cNoRing cNoRuler cTooMany))) (G_law_told_of : Dn P w K mg base 1 "_law_told_of" ["error", "words"] (spP K 2 (f_law_told_of cBadNumber cBadText cBadWeb cGapError cNoCaterpillar cNoRing cNoRuler cTooMany))) (X_GapError : PySem.W.excIn K cGapError He.veBase "ValueError.__new__" = true ∧ PySem.W.keepIn K (.ref cGapError) = true) : FnOkC P w K mg base CX0 4 f fd ["script"] (spP K 1 (f_law cBadNumber cBadText cBadWeb cGapError cNoCaterpillar cNoRing cNoRuler cTooMany)) := by
  refine fnPC (k := 3) Fd sc_law rfl fun cdv A outer s H E hG hr => ?_
  have nd := sc_law.nd
  refine ⟨_, (pss_cons (PS.owned (ps_set (i := 1) nd rfl (Or.inl rfl) (pe_callD G_law_pot (hr.mono (by omega)) rfl (pa_cons (pv 0) pa_nil))))
      (pss_cons (ps_par3 (i := 2) (j := 3) (l := 4) rfl nd rfl rfl rfl (by decide) (by decide) (by decide) rfl rfl rfl (pa_cons (pe_callD G_law_thing (hr.mono (by omega)) rfl (pa_cons (pvB 1) pa_nil)) (pa_cons (pe_callD G_law_thing (hr.mono (by omega)) rfl (pa_cons (pvB 1) pa_nil)) (pa_cons (pe_callD G_law_thing (hr.mono (by omega)) rfl (pa_cons (pvB 1) pa_nil)) pa_nil))) (by rfl))
      (pss_cons (ps_par (i := 5) (j := 6) rfl nd rfl rfl (by decide) rfl rfl (pa_cons (pe_callD G_law_rows (hr.mono (by omega)) rfl (pa_cons (pv 2) (pa_cons (pv 3) pa_nil))) (pa_cons (pe_callD G_law_rows (hr.mono (by omega)) rfl (pa_cons (pv 4) (pa_cons (pv 2) pa_nil))) pa_nil)) (by rfl))
      (pss_cons (ps_for PassesOwn.never rfl (kpi_enum K rfl G.b_enumerate (pa_cons (pv 5) pa_nil)) (kpg_tup K (n := 2) (pgs_cons (pg_name (i := 7) nd rfl (Or.inr rfl)) (pgs_cons (pg_name (i := 8) nd rfl (Or.inl rfl)) pgs_nil))) (pss_cons (ps_asg (pv 8) (kpg_tup K (n := 2) (pgs_cons (pg_name (i := 9) nd rfl (Or.inl rfl)) (pgs_cons (pg_name (i := 10) nd rfl (Or.inl rfl)) pgs_nil))))
      (pss_cons (ps_set (i := 11) nd rfl (Or.inl rfl) (pe_ifExp (pt_cmpR (kop_ne K (Room.u64 hr)) (pv 10) pe_str (nomark _)) (pe_slice (ksl K) (pe_lst (pa_cons (pv 2) (pa_cons (pv 3) pa_nil))) po_none (po_some (pe_callB (kcr_len K) rfl G.b_len PySem.boot_len (pa_cons (kpe_txt K PySem.F.plainAttrs_str PySem.F.slot_str_split PySem.F.type_str_split k_split (pv 10) (pa_cons pe_str pa_nil)) pa_nil)))) (pe_lst pa_nil)))
      (pss_cons (ps_if (PW.pt (pw_or (pt_not (pt_val (pe_callB (kcr_isV1 K cGapError [cBadNumber, cBadText, cBadWeb, cNoCaterpillar, cNoRing, cNoRuler, cTooMany] 1 ["value", "line", "what", "most"]) rfl G.b_isinstance PyProof.Rows.boot_isinstance (pa_cons (pv 9) (pa_cons (pe_glob (v := .ref cGapError) rfl A_GapError rfl) pa_nil))))) (pw_or1 (pt_not (pt_val (pe_callB (kcr_isV1 K cGapError [cBadNumber, cBadText, cBadWeb, cNoCaterpillar, cNoRing, cNoRuler, cTooMany] 2 ["value", "line", "what", "most"]) rfl G.b_isinstance PyProof.Rows.boot_isinstance (pa_cons (pv 9) (pa_cons (pe_bltn (v := .ty "ValueError") rfl G.b_ValueError (by decide +kernel) rfl) pa_nil)))))))) (pss_one (ps_ret pe_bl)) pss_nil)
      (pss_cons (ps_if (pt_cmpR (kop_ne K (Room.u64 hr)) (pe_callD G_law_kinds (hr.mono (by omega)) rfl (pa_cons (pv 9) pa_nil)) (pe_lcD [("k", 12)] [12] nd (blkOk_by (own := [("k", 12)]) (N := N_law) (sc := defScope s_law) (by decide +kernel)) (pi_range1 rfl G.b_range (pa_cons (pe_callB (kcr_len K) rfl G.b_len PySem.boot_len (pa_cons (pv 5) pa_nil)) pa_nil)) (fun _ _ _ _ _ => (pg_name (i := 12) nd rfl (Or.inl rfl))) (fun _ _ _ _ _ => pts_nil) (fun _ _ _ _ _ => (pe_cmpR (kop_eq K (Room.u64 hr)) (pv 12) (pv 7) (nomark _)))) (nomark _)) (pss_one (ps_ret pe_bl)) pss_nil)
      (pss_cons (ps_if (pt_cmpR (kop_ne K (Room.u64 hr)) (pe_callB (cr_reprL hG hr hS) rfl G.b_repr PyProof.Rows.boot_repr (pa_cons (pe_callD G_law_told_of (hr.mono (by omega)) rfl (pa_cons (pv 9) (pa_cons (pv 10) pa_nil))) pa_nil)) (pe_callB (cr_reprL hG hr hS) rfl G.b_repr PyProof.Rows.boot_repr (pa_cons (pv 11) pa_nil)) (nomark _)) (pss_one (ps_ret pe_bl)) pss_nil)
      (pss_one (ps_if (pt_cmpR (kop_ne K (Room.u64 hr)) (pe_callB (cr_reprL hG hr hS) rfl G.b_repr PyProof.Rows.boot_repr (pa_cons (pe_callD G_law_told_of (hr.mono (by omega)) rfl (pa_cons (pe_ix (kix K) (pe_ix (kix K) (pv 6) (pv 7) (fun _ _ => rfl)) pe_int (fun _ _ => rfl)) (pa_cons (pv 10) pa_nil))) pa_nil)) (pe_callB (cr_reprL hG hr hS) rfl G.b_repr PyProof.Rows.boot_repr (pa_cons (pe_slice (ksl K) (pe_lst (pa_cons (pv 4) (pa_cons (pv 2) pa_nil))) po_none (po_some (pe_callB (kcr_len K) rfl G.b_len PySem.boot_len (pa_cons (pv 11) pa_nil)))) pa_nil)) (nomark _)) (pss_one (ps_ret pe_bl)) pss_nil))))))))
      (pss_cons (ps_set (i := 13) nd rfl (Or.inl rfl) (pe_xvT X_GapError.1 X_GapError.2 A_GapError))
      (pss_one (ps_ret (pe_and (pe_callB (kcr_isV1 K cGapError [cBadNumber, cBadText, cBadWeb, cNoCaterpillar, cNoRing, cNoRuler, cTooMany] 2 ["value", "line", "what", "most"]) rfl G.b_isinstance PyProof.Rows.boot_isinstance (pa_cons (pv 13) (pa_cons (pe_bltn (v := .ty "ValueError") rfl G.b_ValueError (by decide +kernel) rfl) pa_nil))) (pe_one (pe_cmpR (kop_nin K (Room.u65 hr)) pe_bl (pe_callD G_law_kinds (hr.mono (by omega)) rfl (pa_cons (pv 13) pa_nil)) (by first | rfl | decide | exact nomark _))))))))))), ?_⟩
  skip
  exact inferInstance
end Ke
set_option linter.all false
set_option autoImplicit false
set_option maxRecDepth 100000
set_option maxHeartbeats 2000000
namespace Ke.W
open DL PySem L2
def isI : D → Option Int
  | .int i => some i
  | _ => none
def ty0 : D → Bool
  | .ins _ _ _ => false
  | .ext _ => false
  | _ => true
def within (a b : Int) (d : D) : Bool := match d with
  | .int i => decide (a ≤ i) && decide (i ≤ b)
  | _ => false
/-- increasing -/
def incr : List Int → Bool
  | a :: b :: r => decide (a < b) && incr (b :: r)
  | _ => true
def rowI (many : Nat) (most : Int) (d : D) : Option (List Int) := match d with
  | .tup xs => if 1 ≤ xs.length ∧ xs.length ≤ many ∧ xs.all (within 0 most) = true then (match intsD xs with
    | some ns => if incr ns = true then some ns else none
    | none => none) else none
  | _ => none
theorem intsD_of {most : Int} : ∀ {xs : List D}, xs.all (within 0 most) = true → ∃ ns, intsD xs = some ns ∧ xs = ns.map D.int ∧ ∀ n ∈ ns, 0 ≤ n ∧ n ≤ most
  | [], _ => ⟨[], rfl, rfl, fun _ h => by cases h⟩
  | d :: r, h => by
    rw [List.all_cons, Bool.and_eq_true] at h
    obtain ⟨ns, h1, h2, h3⟩ := intsD_of h.2
    have hd := h.1
    cases d with
    | int i =>
      simp only [within, Bool.and_eq_true, decide_eq_true_eq] at hd
      refine ⟨i :: ns, ?_, ?_, fun n hn => ?_⟩
      · unfold intsD
        rw [h1] <;> rfl
      · rw [h2]; rfl
      · rcases List.mem_cons.mp hn with rfl | hn
        · exact hd
        · exact h3 n hn
    | _ => cases hd
theorem intsD_none {most : Int} {xs : List D} (h : ¬ xs.all (within 0 most) = true) : (xs.map fun d => D.bl (within 0 most d)).isEmpty = false := by
  cases xs with
  | nil => exact absurd rfl h
  | cons _ _ => rfl
theorem bls_map (f : D → Bool) : ∀ xs : List D, blsD (xs.map fun d => D.bl (f d)) = some (xs.map f)
  | [] => rfl
  | d :: r => by
    rw [List.map_cons]
    unfold blsD
    rw [bls_map f r] <;> rfl
theorem all_map (f : D → Bool) (xs : List D) : allD [.lst (xs.map fun d => D.bl (f d))] = some (.bl (xs.all f)) := by
  unfold allD
  simp only [bls_map, Option.map, List.all_map]
  rfl
theorem any_map (f : D → Bool) (xs : List D) : anyD [.lst (xs.map fun d => D.bl (f d))] = some (.bl (xs.any f)) := by
  unfold anyD
  simp only [bls_map, Option.map, List.any_map]
  rfl
theorem atI_nat {α : Type} {xs : List α} {i : Nat} {x : α} (h : xs[i]? = some x) : L2.atI xs (i : Int) = some x := by
  have hl := (List.getElem?_eq_some_iff.mp h).1
  unfold L2.atI L2.ixN
  rw [if_pos (by omega), if_pos (by omega)]
  simpa using h
theorem atI_last {α : Type} {xs : List α} {x : α} (h : xs.getLast? = some x) : L2.atI xs (-1) = some x := by
  cases xs with
  | nil => cases h
  | cons a r =>
    unfold L2.atI L2.ixN
    rw [if_neg (by omega), if_pos (by simp; omega)]
    have e : ((-1 : Int) + ((a :: r).length : Nat)).toNat = (a :: r).length - 1 := by rw [List.length_cons]; omega
    rw [e, Option.bind, ← h, List.getLast?_eq_getElem?]
/-- increasing, place by place -/
theorem incr_iff : ∀ ns : List Int, incr ns = (List.range (ns.length - 1)).all fun i => decide (ns.getD i 0 < ns.getD (i + 1) 0)
  | [] => rfl
  | [a] => rfl
  | a :: b :: r => by
    unfold incr
    rw [incr_iff (b :: r)]
    have e : (a :: b :: r).length - 1 = ((b :: r).length - 1) + 1 := by simp
    rw [e, List.range_succ_eq_map, List.all_cons, List.all_map]
    rfl
theorem rngD_nat (n : Nat) : rngD 0 (n : Int) = (List.range n).map fun i : Nat => D.int (i : Int) := by
  unfold rngD
  rw [Int.sub_zero, Int.toNat_natCast]
  simp
abbrev sl5 (a b c : D) : List S := [.v a, .v b, .v c, .no, .no]
theorem elE_ty0 {d : D} (h : elE d = true) : ty0 d = true := by
  cases d <;> first | rfl | cases h
theorem filter_empty {α : Type} (q : α → Bool) : ∀ xs : List α, (xs.filter q).isEmpty = xs.all fun d => !q d
  | [] => rfl
  | d :: r => by
    rw [List.all_cons]
    cases e : q d with
    | true => rw [List.filter_cons_of_pos e]; rfl
    | false => rw [List.filter_cons_of_neg (by simp [e]), filter_empty q r]; rfl
/-! ### differences -/
def diffs : List Int → List Int
  | [] => []
  | x :: r => r.map (fun y => y - x) ++ diffs r
def gapsA : List Int → List Int
  | [] => []
  | x :: r => r.map (fun y => if y - x < 0 then -(y - x) else y - x) ++ gapsA r
theorem cut_drop (xs : List D) (k : Nat) : cutD xs (some ((k : Int) + 1)) none = xs.drop (k + 1) := by
  unfold cutD
  have e : HT.sIx xs.length 0 (some ((k : Int) + 1)) = min (k + 1) xs.length := HT.sIx_nat xs.length 0 (k + 1)
  rw [e, HT.sIx_none]
  by_cases h : k + 1 ≤ xs.length
  · rw [Nat.min_eq_left h, List.take_of_length_le (by rw [List.length_drop]; omega)]
  · rw [Nat.min_eq_right (by omega), Nat.sub_self, List.take_zero, List.drop_of_length_le (by omega)]
theorem diffs_len : ∀ ns : List Int, (diffs ns).length ≤ ns.length * ns.length
  | [] => Nat.le_refl _
  | x :: r => by
    have ih := diffs_len r
    show (r.map _ ++ diffs r).length ≤ (r.length + 1) * (r.length + 1)
    rw [List.length_append, List.length_map, Nat.add_mul, Nat.mul_add]
    omega
theorem gapsA_len : ∀ ns : List Int, (gapsA ns).length ≤ ns.length * ns.length
  | [] => Nat.le_refl _
  | x :: r => by
    have ih := gapsA_len r
    show (r.map _ ++ gapsA r).length ≤ (r.length + 1) * (r.length + 1)
    rw [List.length_append, List.length_map, Nat.add_mul, Nat.mul_add]
    omega
theorem sq_le {n : Nat} (h : n ≤ 64) : n * n ≤ 4096 := Nat.le_trans (Nat.mul_le_mul h h) (by decide)
theorem sl_4096 : (4096 : Nat) ≤ sizeLine := by decide
def subF (m : Int) : D → D
  | .int j => .int (j - m)
  | _ => .non
def absF (m : Int) : D → D
  | .int j => .int (if j - m < 0 then -(j - m) else j - m)
  | _ => .non
theorem tkey_tD (k : List Int) : tkeyOf (tD k) = some (k.map Sum.inl) := by
  show keysOf (k.map D.int) = some (k.map Sum.inl)
  induction k with
  | nil => rfl
  | cons n r ih =>
    rw [List.map_cons, List.map_cons]
    unfold keysOf
    rw [ih] <;> rfl
theorem inl_inj : Function.Injective (Sum.inl : Int → L2.Key) := fun a b h => Sum.inl.inj h
theorem nodup_map {α β : Type} {f : α → β} (hf : Function.Injective f) {l : List α} : (l.map f).Nodup ↔ l.Nodup := by
  induction l with
  | nil => simp
  | cons a r ih =>
    rw [List.map_cons, List.nodup_cons, List.nodup_cons, ih, List.mem_map]
    constructor
    · exact fun ⟨h1, h2⟩ => ⟨fun z => h1 ⟨a, z, rfl⟩, h2⟩
    · exact fun ⟨h1, h2⟩ => ⟨fun ⟨b, hb, e⟩ => h1 (hf e ▸ hb), h2⟩
theorem mapinl_inj : Function.Injective (fun k : List Int => k.map (Sum.inl : Int → L2.Key)) := fun a b h => by
  induction a generalizing b with
  | nil => cases b with
    | nil => rfl
    | cons _ _ => cases h
  | cons x a ih =>
    cases b with
    | nil => cases h
    | cons y b =>
      simp only [List.map_cons, List.cons.injEq] at h
      rw [Sum.inl.inj h.1, ih b h.2]
theorem dcR_bad {κ : Type} [DecidableEq κ] {v : Nat} {mk mv : EM} {sl : List S} {kf : D → Option κ} {mo : List κ → List D → MO} {d z : D} {r : List D} {ks : List κ} {es : List D} (hlt : v < sl.length) (h1 : mk (sS sl v (.v d)) = .ok d (sS sl v (.v d))) (h2 : mv (sS sl v (.v d)) = .ok z (sS sl v (.v d))) (h3 : kf d = none) :
    dcR kf mo [v] (mName v) cYes mk mv (d :: r) ks es sl = .bad := by
  unfold dcR
  simp only [mName, hlt, if_true, cYes, noxR, ER.bind]
  rw [h1]
  simp only [noxR, ER.bind]
  rw [h2]
  simp only [noxR, ER.bind, h3]
theorem len_eq {κ : Type} [DecidableEq κ] (l : List κ) (n : Nat) (h : l.length = n) : eqO (.int ((dedK l).length : Nat)) (.int (n : Nat)) = some (.bl (decide l.Nodup)) := by
  rw [eqO_int, ← ded_len, ← h]
  by_cases q : (dedK l).length = l.length
  · rw [decide_eq_true q, q]; simp
  · rw [decide_eq_false q]
    have : ¬ (((dedK l).length : Nat) : Int) = ((l.length : Nat) : Int) := by omega
    simp [this]
theorem dictD_T {xs : List D} {ps : List (List L2.Key × D)} (h : pairsOf tkeyOf xs = some ps) : dictD [.lst xs] = some (.dT (mrgD [] [] ps).1 (mrgD [] [] ps).2) := by
  unfold dictD
  simp only [h]
theorem dictD_K {xs : List D} {ps : List (L2.Key × D)} (h0 : pairsOf tkeyOf xs = none) (h : pairsOf keyOf xs = some ps) : dictD [.lst xs] = some (.dK (mrgD [] [] ps).1 (mrgD [] [] ps).2) := by
  unfold dictD
  simp only [h0, h]
def pr0 (d : D) : D := .tup [d, .int 0]
theorem pairs_tups (ks : List (List Int)) : pairsOf tkeyOf ((ks.map tD).map pr0) = some (ks.map fun k => (k.map Sum.inl, D.int 0)) := by
  induction ks with
  | nil => rfl
  | cons k r ih =>
    rw [List.map_cons, List.map_cons, List.map_cons]
    show pairsOf tkeyOf (.tup [tD k, .int 0] :: _) = _
    unfold pairsOf
    rw [ih, tkey_tD]
theorem pairs_ints (ns : List Int) : pairsOf keyOf ((ns.map D.int).map pr0) = some (ns.map fun k => (Sum.inl k, D.int 0)) := by
  induction ns with
  | nil => rfl
  | cons k r ih =>
    rw [List.map_cons, List.map_cons, List.map_cons]
    show pairsOf keyOf (.tup [.int k, .int 0] :: _) = _
    unfold pairsOf
    rw [ih] <;> rfl
theorem incr_cons {x : Int} : ∀ {r : List Int}, incr (x :: r) = true → incr r = true ∧ ∀ y ∈ r, x < y
  | [], _ => ⟨rfl, fun _ h => by cases h⟩
  | b :: r, h => by
    have h : (decide (x < b) && incr (b :: r)) = true := h
    rw [Bool.and_eq_true, decide_eq_true_eq] at h
    obtain ⟨_, h2⟩ := incr_cons h.2
    refine ⟨h.2, fun y hy => ?_⟩
    rcases List.mem_cons.mp hy with rfl | hy
    · exact h.1
    · have := h2 y hy
      omega
theorem gaps_diffs : ∀ {ns : List Int}, incr ns = true → gapsA ns = diffs ns
  | [], _ => rfl
  | x :: r, h => by
    obtain ⟨h1, h2⟩ := incr_cons h
    show r.map _ ++ gapsA r = r.map _ ++ diffs r
    rw [gaps_diffs h1]
    congr 1
    refine List.map_congr_left fun y hy => ?_
    have := h2 y hy
    rw [if_neg (by omega)]
def isR (d : D) : Option (List Int) := match rowI 8 60 d with
  | some ns => if ns.head? = some 0 ∧ (diffs ns).Nodup then some ns else none
  | none => none
theorem rowI_some {many : Nat} {most : Int} {d : D} {ns : List Int} (h : rowI many most d = some ns) : d = tD ns ∧ 1 ≤ ns.length ∧ ns.length ≤ many ∧ incr ns = true ∧ ∀ n ∈ ns, 0 ≤ n ∧ n ≤ most := by
  cases d with
  | tup xs =>
    unfold rowI at h
    by_cases q : 1 ≤ xs.length ∧ xs.length ≤ many ∧ xs.all (within 0 most) = true
    · obtain ⟨ms, e1, e2, e3⟩ := intsD_of q.2.2
      simp only [if_pos q, e1] at h
      by_cases w : incr ms = true
      · rw [if_pos w] at h
        cases h
        refine ⟨by rw [e2]; rfl, ?_, ?_, w, e3⟩
        · have := q.1; rw [e2, List.length_map] at this; exact this
        · have := q.2.1; rw [e2, List.length_map] at this; exact this
      · rw [if_neg w] at h; cases h
    · simp only [if_neg q] at h; cases h
  | _ => cases h
theorem idx0 {ns : List Int} (h : 1 ≤ ns.length) : idxD (tD ns) (.int 0) = some (.int (ns.headD 0)) := by
  cases ns with
  | nil => simp at h
  | cons x r => exact atI_nat (i := 0) rfl
theorem head_eq {ns : List Int} (h : 1 ≤ ns.length) : eqO (.int (ns.headD 0)) (.int 0) = some (.bl (decide (ns.head? = some 0))) := by
  cases ns with
  | nil => simp at h
  | cons x r =>
    rw [eqO_int]
    show some (D.bl (x == 0)) = some (D.bl (decide (some x = some 0)))
    congr 2
    by_cases q : x = 0 <;> simp [q]
theorem le64 {n : Nat} (h : n ≤ 8) : n ≤ 64 := Nat.le_trans h (by decide)
def rngI (lo hi : Int) : List Int := (List.range (hi - lo).toNat).map fun i : Nat => lo + i
theorem rngD_I (lo hi : Int) : rngD lo hi = (rngI lo hi).map D.int := by
  unfold rngD rngI
  rw [List.map_map]; rfl
theorem rngI_mem {lo hi m : Int} (h : m ∈ rngI lo hi) : lo ≤ m ∧ m < hi := by
  unfold rngI at h
  obtain ⟨i, hi, rfl⟩ := List.mem_map.mp h
  have := List.mem_range.mp hi
  omega
theorem rngI_len (lo hi : Int) : (rngI lo hi).length = (hi - lo).toNat := by unfold rngI; rw [List.length_map, List.length_range]
def okM (ns : List Int) (m : Int) : Bool := !ns.any fun o => decide ((m - o) ∈ diffs ns)
def lastI (ns : List Int) : Int := ns.getLastD 0
theorem last_at {ns : List Int} (h : 1 ≤ ns.length) : idxD (tD ns) (.int (-1)) = some (.int (lastI ns)) := by
  have : ∃ x, ns.getLast? = some x := by
    cases ns with
    | nil => simp at h
    | cons a r => exact ⟨_, List.getLast?_eq_some_getLast (List.cons_ne_nil a r)⟩
  obtain ⟨x, e⟩ := this
  have e2 : lastI ns = x := by unfold lastI; rw [List.getLastD_eq_getLast?, e] <;> rfl
  rw [e2]
  exact atI_last (by rw [List.getLast?_map, e] <;> rfl)
def longI (ns : List Int) (L : Int) : List (List Int) := ((rngI (lastI ns + 1) (L + 1)).filter (okM ns)).map fun m => ns ++ [m]
theorem take_succ' {α : Type} {l : List α} {i : Nat} {x : α} (h : l[i]? = some x) : l.take (i + 1) = l.take i ++ [x] := by
  rw [List.take_succ, h] <;> rfl
def inF (ns : List Int) (m : Int) : D → Bool
  | .int o => decide ((m - o) ∈ diffs ns)
  | _ => false
theorem diffs_app (m : Int) : ∀ ns : List Int, (diffs (ns ++ [m])).Perm (diffs ns ++ ns.map fun x => m - x)
  | [] => List.Perm.refl _
  | x :: r => by
    show ((r ++ [m]).map (fun y => y - x) ++ diffs (r ++ [m])).Perm ((r.map (fun y => y - x) ++ diffs r) ++ (m - x) :: r.map fun x => m - x)
    rw [List.map_append, List.map_cons, List.map_nil, List.append_assoc, List.append_assoc]
    refine List.Perm.append_left _ ?_
    refine (List.Perm.append_left _ (diffs_app m r)).trans ?_
    show ((m - x) :: (diffs r ++ r.map fun x => m - x)).Perm (diffs r ++ (m - x) :: r.map fun x => m - x)
    exact List.perm_middle.symm
theorem incr_app {m : Int} : ∀ {ns : List Int}, incr ns = true → (∀ y ∈ ns, y < m) → incr (ns ++ [m]) = true
  | [], _, _ => rfl
  | [a], _, h => by
    show (decide (a < m) && true) = true
    rw [decide_eq_true (h a List.mem_cons_self)]; rfl
  | a :: b :: r, h, h2 => by
    have h : (decide (a < b) && incr (b :: r)) = true := h
    rw [Bool.and_eq_true] at h
    show (decide (a < b) && incr (b :: r ++ [m])) = true
    rw [h.1, incr_app h.2 fun y hy => h2 y (List.mem_cons_of_mem _ hy)]; rfl
theorem incr_last : ∀ {ns : List Int}, incr ns = true → ∀ y ∈ ns, y ≤ lastI ns
  | [], _, y, h => by cases h
  | [a], _, y, h => by
    rcases List.mem_cons.mp h with rfl | h
    · exact Int.le_refl _
    · cases h
  | a :: b :: r, h, y, hy => by
    obtain ⟨h1, h2⟩ := incr_cons h
    have e : lastI (a :: b :: r) = lastI (b :: r) := rfl
    rw [e]
    rcases List.mem_cons.mp hy with rfl | hy
    · exact Int.le_trans (Int.le_of_lt (h2 b List.mem_cons_self)) (incr_last h1 b List.mem_cons_self)
    · exact incr_last h1 y hy
theorem last_mem {ns : List Int} (h : 1 ≤ ns.length) : lastI ns ∈ ns := by
  cases ns with
  | nil => simp at h
  | cons a r =>
    unfold lastI
    rw [List.getLastD_eq_getLast?, List.getLast?_eq_some_getLast (List.cons_ne_nil a r)]
    exact List.getLast_mem _
theorem incr_nodup : ∀ {ns : List Int}, incr ns = true → ns.Nodup
  | [], _ => List.nodup_nil
  | a :: r, h => by
    obtain ⟨h1, h2⟩ := incr_cons h
    refine List.nodup_cons.mpr ⟨fun z => ?_, incr_nodup h1⟩
    have := h2 a z
    omega
theorem ok_nodup {ns : List Int} {m : Int} (h1 : incr ns = true) (h2 : (diffs ns).Nodup) : decide (diffs (ns ++ [m])).Nodup = okM ns m := by
  have e : (diffs (ns ++ [m])).Nodup ↔ ∀ o ∈ ns, (m - o) ∉ diffs ns := by
    rw [(diffs_app m ns).nodup_iff, List.nodup_append]
    constructor
    · rintro ⟨_, _, h⟩ o ho z
      exact h _ z _ (List.mem_map.mpr ⟨o, ho, rfl⟩) rfl
    · intro h
      refine ⟨h2, (nodup_map fun (a b : Int) (q : m - a = m - b) => by omega).mpr (incr_nodup h1), fun a ha b hb q => ?_⟩
      obtain ⟨o, ho, rfl⟩ := List.mem_map.mp hb
      exact h o ho (by rw [← q]; exact ha)
  unfold okM
  by_cases q : (diffs (ns ++ [m])).Nodup
  · rw [decide_eq_true q]
    symm
    rw [Bool.not_eq_true', List.any_eq_false]
    intro o ho
    simpa using e.mp q o ho
  · rw [decide_eq_false q]
    symm
    rw [Bool.not_eq_false']
    obtain ⟨o, ho, z⟩ : ∃ o ∈ ns, (m - o) ∈ diffs ns := Classical.byContradiction fun w => q (e.mpr fun o ho z => w ⟨o, ho, z⟩)
    exact List.any_eq_true.mpr ⟨o, ho, decide_eq_true z⟩
theorem for_srch {g : D → List S → Option (List S)} {b : SM} (p : D → Bool) (P : List S → Prop) (z : D) : ∀ (ds : List D) (sl : List S), P sl →
    (∀ d ∈ ds, ∀ s, P s → ∃ s1 s2, g d s = some s1 ∧ ((p d = true ∧ b s1 = .nx s2 ∧ P s2) ∨ (p d = false ∧ b s1 = .rt z s2))) →
    (ds.all p = true ∧ ∃ s2, forR g b ds sl = .nx s2 ∧ P s2) ∨ (ds.all p = false ∧ ∃ s2, forR g b ds sl = .rt z s2)
  | [], sl, h, _ => .inl ⟨rfl, sl, rfl, h⟩
  | d :: r, sl, h, step => by
    obtain ⟨s1, s2, h1, h2⟩ := step d List.mem_cons_self sl h
    rcases h2 with ⟨q, h2, h3⟩ | ⟨q, h2⟩
    · have e : forR g b (d :: r) sl = forR g b r s2 := by
        rw [forR, h1]; simp only [h2]
      rw [e, List.all_cons, q, Bool.true_and]
      exact for_srch p P z r s2 h3 fun x hx => step x (List.mem_cons_of_mem _ hx)
    · refine .inr ⟨by rw [List.all_cons, q]; rfl, s2, ?_⟩
      rw [forR, h1]; simp only [h2]
theorem elE_tup {ys : List D} (h : elE (.tup ys) = true) : ∀ y ∈ ys, elE y = true := by
  have key : ∀ (ys : List D) (ps : List PyData), toPys ys = some ps → PyData.canLayAll0 ps = true → PyData.depthAll ps ≤ 60 → ∀ y ∈ ys, elE y = true := by
    intro ys
    induction ys with
    | nil => intro _ _ _ _ y hy; cases hy
    | cons d r ih =>
      intro ps h1 h2 h3 y hy
      obtain ⟨p, q, rfl, e1, e2⟩ := toPys_cons h1
      have h2 : (PyData.canLay0 p && PyData.canLayAll0 q) = true := h2
      have h3 : max (PyData.depth p) (PyData.depthAll q) ≤ 60 := h3
      rw [Bool.and_eq_true] at h2
      rcases List.mem_cons.mp hy with rfl | hy
      · unfold elE
        rw [e1]
        simp only [h2.1, Bool.true_and, decide_eq_true_eq]
        omega
      · exact ih q e2 h2.2 (by omega) y hy
  unfold elE at h
  have e : toPy (.tup ys) = (toPys ys).map .tuple := by unfold toPy; rfl
  rw [e] at h
  cases q : toPys ys with
  | none => rw [q] at h; cases h
  | some ps =>
    rw [q] at h
    simp only [Option.map, Bool.and_eq_true, decide_eq_true_eq] at h
    exact key ys ps q h.1 (by have : PyData.depthAll ps + 1 ≤ 60 := h.2; omega)
structure RowsOk (rows : D) : Prop where
  ty : ty0 rows = true
  el : ∀ xs, seqD rows = some xs → (∀ x ∈ xs, elE x = true) ∧ xs.length ≤ 4096
theorem isR_some {d : D} {ns : List Int} (h : isR d = some ns) : d = tD ns ∧ 1 ≤ ns.length ∧ ns.length ≤ 8 ∧ incr ns = true ∧ (diffs ns).Nodup ∧ ∀ n ∈ ns, 0 ≤ n ∧ n ≤ 60 := by
  unfold isR at h
  cases e : rowI 8 60 d with
  | none => rw [e] at h; cases h
  | some ms =>
    rw [e] at h
    simp only at h
    by_cases q : ms.head? = some 0 ∧ (diffs ms).Nodup
    · rw [if_pos q] at h
      cases h
      obtain ⟨h1, h2, h3, h4, h5⟩ := rowI_some e
      exact ⟨h1, h2, h3, h4, q.2, h5⟩
    · rw [if_neg q] at h; cases h
def ksOf : List D → Option (List (List Int))
  | [] => some []
  | d :: r => match isR d, ksOf r with
    | some k, some q => some (k :: q)
    | _, _ => none
theorem ksOf_all : ∀ xs : List D, (ksOf xs).isSome = xs.all fun d => (isR d).isSome
  | [] => rfl
  | d :: r => by
    have e : ksOf (d :: r) = (match isR d, ksOf r with
      | some k, some q => some (k :: q)
      | _, _ => none) := rfl
    rw [List.all_cons, ← ksOf_all r, e]
    cases isR d <;> cases ksOf r <;> rfl
theorem ksOf_some : ∀ {xs : List D} {ks : List (List Int)}, ksOf xs = some ks → xs = ks.map tD ∧ ∀ k ∈ ks, isR (tD k) = some k
  | [], ks, h => by cases h; exact ⟨rfl, fun _ h => by cases h⟩
  | d :: r, ks, h => by
    unfold ksOf at h
    cases e1 : isR d with
    | none => rw [e1] at h; cases h
    | some k =>
      cases e2 : ksOf r with
      | none => rw [e1, e2] at h; cases h
      | some q =>
        rw [e1, e2] at h
        cases h
        obtain ⟨h1, h2⟩ := ksOf_some e2
        have hd := (isR_some e1).1
        refine ⟨by rw [List.map_cons, ← h1, ← hd], fun j hj => ?_⟩
        rcases List.mem_cons.mp hj with rfl | hj
        · rw [← hd]; exact e1
        · exact h2 j hj
def smallB (many most : Int) (k : List Int) : Bool := decide ((k.length : Int) < many) && decide (lastI k ≤ most)
def fullB (most : Int) (ks : List (List Int)) (k : List Int) : Bool := (longI k most).all fun j => decide (j ∈ ks)
def barB (many most : Int) (rows : D) : Bool := match seqD rows with
  | none => false
  | some xs => match ksOf xs with
    | none => false
    | some ks => decide ks.Nodup && (decide ([0] ∈ ks) && ks.all (smallB many most)) && ks.all (fullB most ks)
theorem all_tD (f : List Int → Bool) (g : D → Bool) (ks : List (List Int)) (h : ∀ k ∈ ks, g (tD k) = f k) : (ks.map tD).all g = ks.all f := by
  rw [List.all_map]
  induction ks with
  | nil => rfl
  | cons k r ih =>
    rw [List.all_cons, List.all_cons, ih fun j hj => h j (List.mem_cons_of_mem _ hj)]
    congr 1
    exact h k List.mem_cons_self
abbrev sl6 (many most : Int) (rows : D) (a b c : S) : List S := [.v (.int many), .v (.int most), .v rows, a, b, c]
theorem listed_of {rows : D} {xs : List D} (h : seqD rows = some xs) : ty0 rows = true := by
  cases rows <;> first | rfl | cases h
theorem last_bd {k : List Int} (h : isR (tD k) = some k) : 1 ≤ k.length ∧ k.length ≤ 8 ∧ 0 ≤ lastI k ∧ lastI k ≤ 60 := by
  obtain ⟨_, h1, h2, _, _, h5⟩ := isR_some h
  have := h5 _ (last_mem h1)
  exact ⟨h1, h2, this.1, this.2⟩
theorem rngI_len' {lo hi : Int} (h1 : 0 ≤ lo) (h2 : hi ≤ 2000) : (rngI lo hi).length ≤ 2000 := by rw [rngI_len]; omega
theorem longI_len {k : List Int} {L : Int} (h1 : 0 ≤ lastI k) (h2 : L ≤ 1000) : (longI k L).length ≤ 2000 := by
  unfold longI
  rw [List.length_map]
  exact Nat.le_trans (List.length_filter_le _ _) (rngI_len' (by omega) (by omega))
theorem hasK_ded {ks : List (List Int)} {k : List Int} {es : List D} : inD (tD k) (.dT ((ks.map fun k => k.map Sum.inl).foldl putKs []) es) = some (decide (k ∈ ks)) := by
  show (tkeyOf (tD k)).map (fun j => hasK _ j) = _
  rw [tkey_tD]
  show some (hasK _ _) = some _
  congr 1
  have e : k.map (Sum.inl : Int → L2.Key) ∈ (ks.map fun k => k.map (Sum.inl : Int → L2.Key)).foldl putKs [] ↔ k ∈ ks := by
    rw [fold_mem]
    constructor
    · rintro (h | h)
      · cases h
      · obtain ⟨j, hj, e⟩ := List.mem_map.mp h
        rw [← mapinl_inj e]
        exact hj
    · exact fun h => .inr (List.mem_map.mpr ⟨k, h, rfl⟩)
  by_cases q : k ∈ ks
  · rw [decide_eq_true q]
    exact hasK_iff.mpr (e.mpr q)
  · rw [decide_eq_false q]
    rw [← Bool.not_eq_true]
    exact fun z => q (e.mp (hasK_iff.mp z))
theorem addX_tD (k : List Int) (m : Int) (h : k.length ≤ 8) : addX (tD k) (.tup [.int m]) = some (tD (k ++ [m])) := by
  have z : addX (tD k) (.tup [.int m]) = (match (if (k.map D.int).length + 1 ≤ sizeLine then some (D.tup (k.map D.int ++ [D.int m])) else none) with
    | some z => some z
    | none => (addN (tD k) (.tup [.int m])).map MO.toD) := rfl
  rw [z, if_pos (by rw [List.length_map]; exact Nat.le_trans (Nat.succ_le_succ h) (by decide))]
  unfold tD
  rw [List.map_append] <;> rfl
abbrev P4 (c : List Int) (i s z : Int) : MO := .lst [.lst (c.map .int), .int i, .int s, .int z]
def PotOk (p : MO) : Prop := ∃ c i s z, p = P4 c i s z ∧ (∀ x ∈ c, 0 ≤ x) ∧ c.length ≤ 63 ∧ 0 ≤ i ∧ 0 ≤ s ∧ s < 2147483647 ∧ 0 ≤ z
theorem mod_ok {a b : Int} (h : 0 < b) : modD (.int a) (.int b) = some (.int (a.fmod b)) := by
  show (if b ≠ 0 then some (D.int (a.fmod b)) else none) = _
  rw [if_pos (by omega)]
theorem fdiv_ok {a b : Int} (h : 0 < b) (h2 : b < 1000000000) : fdivD (.int a) (.int b) = some (.int (a.fdiv b)) := by
  show (if b ≠ 0 ∧ b.natAbs < 1073741824 then some (D.int (a.fdiv b)) else none) = _
  rw [if_pos ⟨by omega, by omega⟩]
theorem mul_ok {a b : Int} (h : (-(2 ^ 64) < a ∧ a < 2 ^ 64) ∨ (-(2 ^ 64) < b ∧ b < 2 ^ 64)) : mulD (.int a) (.int b) = some (.int (a * b)) := by
  show (if mulOk a b = true then some (D.int (a * b)) else none) = _
  rw [if_pos]
  unfold mulOk
  rw [Bool.or_eq_true, Bool.and_eq_true, Bool.and_eq_true]
  simp only [decide_eq_true_eq]
  exact h
abbrev drEnd : SM := cSeq (cSetI 0 (cOp2 modD (cCB intD1 (cCons (cOp2 addX (cOp2 addX (cOp2 mulD (cIxO 0 (cC (.int 2))) (cC (.int 48271))) (cVar 3)) (cC (.int 12345))) cNil)) (cC (.int 2147483647))) (cC (.int 2)))
  (cRet (cOp2 modD (cCB intD1 (cCons (cOp2 addX (cOp2 fdivD (cOp2 mulD (cIxO 0 (cC (.int 2))) (cIxO 0 (cC (.int 2)))) (cC (.int 64))) (cOp2 fdivD (cIxO 0 (cC (.int 2))) (cC (.int 7)))) cNil)) (cVar 1)))
theorem set1 {c : List Int} {i s z x : Int} {me : EM} {r : List S} (h : me (.o (P4 c i s z) :: r) = .ok (.int x) (.o (P4 c i s z) :: r)) : cSetI 0 me (cC (.int 1)) (.o (P4 c i s z) :: r) = .nx (.o (P4 c x s z) :: r) := by unfold cSetI; rw [h]; rfl
theorem set2 {c : List Int} {i s z x : Int} {me : EM} {r : List S} (h : me (.o (P4 c i s z) :: r) = .ok (.int x) (.o (P4 c i s z) :: r)) : cSetI 0 me (cC (.int 2)) (.o (P4 c i s z) :: r) = .nx (.o (P4 c i x z) :: r) := by unfold cSetI; rw [h]; rfl
theorem set3 {c : List Int} {i s z x : Int} {me : EM} {r : List S} (h : me (.o (P4 c i s z) :: r) = .ok (.int x) (.o (P4 c i s z) :: r)) : cSetI 0 me (cC (.int 3)) (.o (P4 c i s z) :: r) = .nx (.o (P4 c i s x) :: r) := by unfold cSetI; rw [h]; rfl
theorem end_at {c : List Int} {i s z many cell : Int} {a : S} (h : 0 < many) (h0 : 0 ≤ s) (hs : s < 2147483647) : ∃ r s', drEnd [.o (P4 c i s z), .v (.int many), a, .v (.int cell)] = .rt (.int r) [.o (P4 c i s' z), .v (.int many), a, .v (.int cell)] ∧ 0 ≤ r ∧ r < many ∧ 0 ≤ s' ∧ s' < 2147483647 := by
  have e1 : cOp2 modD (cCB intD1 (cCons (cOp2 addX (cOp2 addX (cOp2 mulD (cIxO 0 (cC (.int 2))) (cC (.int 48271))) (cVar 3)) (cC (.int 12345))) cNil)) (cC (.int 2147483647)) [.o (P4 c i s z), .v (.int many), a, .v (.int cell)] =
      .ok (.int ((s * 48271 + cell + 12345).fmod 2147483647)) [.o (P4 c i s z), .v (.int many), a, .v (.int cell)] :=
    op2_ok (cb_ok (cons_ok (op2_ok (op2_ok (op2_ok (d := .int s) (y := .int 48271) rfl rfl (mul_ok (.inr ⟨by decide, by decide⟩))) rfl rfl) rfl rfl) (mr := cNil) rfl) rfl) rfl (mod_ok (by decide))
  have g1 : 0 ≤ (s * 48271 + cell + 12345).fmod 2147483647 := Int.fmod_nonneg_of_pos _ (by decide)
  have g2 : (s * 48271 + cell + 12345).fmod 2147483647 < 2147483647 := Int.fmod_lt_of_pos _ (by decide)
  generalize (s * 48271 + cell + 12345).fmod 2147483647 = s' at e1 g1 g2
  have e2 : cOp2 modD (cCB intD1 (cCons (cOp2 addX (cOp2 fdivD (cOp2 mulD (cIxO 0 (cC (.int 2))) (cIxO 0 (cC (.int 2)))) (cC (.int 64))) (cOp2 fdivD (cIxO 0 (cC (.int 2))) (cC (.int 7)))) cNil)) (cVar 1) [.o (P4 c i s' z), .v (.int many), a, .v (.int cell)] =
      .ok (.int (((s' * s').fdiv 64 + s'.fdiv 7).fmod many)) [.o (P4 c i s' z), .v (.int many), a, .v (.int cell)] :=
    op2_ok (cb_ok (cons_ok (op2_ok (op2_ok (op2_ok (d := .int s') (y := .int s') rfl rfl (mul_ok (.inl ⟨by omega, by omega⟩))) rfl (fdiv_ok (by decide) (by decide))) (op2_ok (d := .int s') rfl rfl (fdiv_ok (by decide) (by decide))) rfl) (mr := cNil) rfl) rfl) rfl (mod_ok h)
  refine ⟨_, s', (seq_nx (set2 e1)).trans (ret_ok e2), Int.fmod_nonneg_of_pos _ h, Int.fmod_lt_of_pos _ h, g1, g2⟩
theorem draw_at {p : MO} {many : Int} (hp : PotOk p) (h : 1 ≤ many) (h2 : many < 1000000) : ∃ r p', f_law_draw p [.int many] = some (.int r, p') ∧ PotOk p' ∧ 0 ≤ r ∧ r < many := by
  obtain ⟨c, i, s, z, rfl, hc, hl, hi, hs, hs2, hz⟩ := hp
  unfold f_law_draw
  have t0 : cTest (cOp2 (cmpD fun i j => decide (i < j)) (cVar 1) (cC (.int 2))) [.o (P4 c i s z), .v (.int many), .no, .no] = .ok (decide (many < 2)) [.o (P4 c i s z), .v (.int many), .no, .no] := test_ok (op2_ok rfl rfl rfl)
  by_cases q0 : many < 2
  · rw [decide_eq_true q0] at t0
    exact ⟨0, P4 c i s z, runB_rt (seq_rt ((ifs_t t0).trans rfl)) rfl, ⟨c, i, s, z, rfl, hc, hl, hi, hs, hs2, hz⟩, by omega, by omega⟩
  rw [decide_eq_false q0] at t0
  have t1 : cTest (cOp2 (cmpD fun i j => decide (j < i)) (cIxO 0 (cC (.int 3))) (cC (.int 0))) [.o (P4 c i s z), .v (.int many), .no, .no] = .ok (decide (0 < z)) [.o (P4 c i s z), .v (.int many), .no, .no] := test_ok (op2_ok (d := .int z) rfl rfl rfl)
  by_cases q1 : 0 < z
  · rw [decide_eq_true q1] at t1
    have e1 : cOp2 modD (cCB intD1 (cCons (cIxO 0 (cC (.int 3))) cNil)) (cVar 1) [.o (P4 c i s z), .v (.int many), .no, .no] = .ok (.int (z.fmod many)) [.o (P4 c i s z), .v (.int many), .no, .no] := op2_ok (cb_ok (cons_ok (d := .int z) rfl (mr := cNil) rfl) rfl) rfl (mod_ok (by omega))
    have e2 : cOp2 fdivD (cIxO 0 (cC (.int 3))) (cVar 1) [.o (P4 c i s z), .v (.int many), .v (.int (z.fmod many)), .no] = .ok (.int (z.fdiv many)) [.o (P4 c i s z), .v (.int many), .v (.int (z.fmod many)), .no] := op2_ok (d := .int z) rfl rfl (fdiv_ok (by omega) (by omega))
    refine ⟨z.fmod many, P4 c i s (z.fdiv many), runB_rt (s := [.o (P4 c i s (z.fdiv many)), .v (.int many), .v (.int (z.fmod many)), .no]) ((seq_nx (ifs_f t0)).trans (seq_rt ((ifs_t t1).trans ((seq_nx (asg_ok e1 (by show 2 < 4; omega))).trans ((seq_nx (set3 e2)).trans (ret_ok rfl)))))) rfl, ⟨c, i, s, _, rfl, hc, hl, hi, hs, hs2, Int.fdiv_nonneg (by omega) (by omega)⟩, Int.fmod_nonneg_of_pos _ (by omega), Int.fmod_lt_of_pos _ (by omega)⟩
  rw [decide_eq_false q1] at t1
  have l1 : lenD [.lst (c.map .int)] = some (.int (c.length : Nat)) := by unfold lenD; simp only [List.length_map]
  have t2 : cTest (cOp2 (cmpD fun i j => decide (i < j)) (cIxO 0 (cC (.int 1))) (cCB lenD (cCons (cIxO 0 (cC (.int 0))) cNil))) [.o (P4 c i s z), .v (.int many), .no, .v (.int 0)] = .ok (decide (i < (c.length : Nat))) [.o (P4 c i s z), .v (.int many), .no, .v (.int 0)] := test_ok (op2_ok (d := .int i) rfl (cb_ok (cons_ok (d := .lst (c.map .int)) rfl (mr := cNil) rfl) l1) rfl)
  by_cases q2 : i < (c.length : Nat)
  · rw [decide_eq_true q2] at t2
    have ex : c[i.toNat]? = some c[i.toNat] := List.getElem?_eq_getElem (by omega)
    have cn := hc c[i.toNat] (List.getElem_mem _)
    generalize c[i.toNat] = x at ex cn
    have ix : idxD (.lst (c.map .int)) (.int i) = some (.int x) := by
      have z := atI_nat (xs := c.map D.int) (i := i.toNat) (x := .int x) (by rw [List.getElem?_map, ex]; rfl)
      rw [show ((i.toNat : Nat) : Int) = i by omega] at z
      exact z
    have a1 : cAsg (cOp2 idxD (cIxO 0 (cC (.int 0))) (cIxO 0 (cC (.int 1)))) (mName 3) [.o (P4 c i s z), .v (.int many), .no, .v (.int 0)] = .nx [.o (P4 c i s z), .v (.int many), .no, .v (.int x)] := asg_ok (op2_ok (d := .lst (c.map .int)) (y := .int i) rfl rfl ix) (by show 3 < 4; omega)
    have a2 : cSetI 0 (cOp2 addX (cIxO 0 (cC (.int 1))) (cC (.int 1))) (cC (.int 1)) [.o (P4 c i s z), .v (.int many), .no, .v (.int x)] = .nx [.o (P4 c (i + 1) s z), .v (.int many), .no, .v (.int x)] := set1 (op2_ok (d := .int i) rfl rfl rfl)
    have t3 : cTest (cOp2 (cmpD fun i j => decide (j ≤ i)) (cVar 3) (cOp2 powD (cC (.int 10)) (cC (.int 18)))) [.o (P4 c (i + 1) s z), .v (.int many), .no, .v (.int x)] = .ok (decide ((10 : Int) ^ 18 ≤ x)) [.o (P4 c (i + 1) s z), .v (.int many), .no, .v (.int x)] := test_ok (op2_ok rfl (op2_ok rfl rfl (z := .int (10 ^ 18)) rfl) rfl)
    by_cases q3 : (10 : Int) ^ 18 ≤ x
    · rw [decide_eq_true q3] at t3
      have e2 : cOp2 fdivD (cVar 3) (cVar 1) [.o (P4 c (i + 1) s z), .v (.int many), .no, .v (.int x)] = .ok (.int (x.fdiv many)) [.o (P4 c (i + 1) s z), .v (.int many), .no, .v (.int x)] := op2_ok (d := .int x) rfl rfl (fdiv_ok (by omega) (by omega))
      have e3 : cOp2 modD (cCB intD1 (cCons (cVar 3) cNil)) (cVar 1) [.o (P4 c (i + 1) s (x.fdiv many)), .v (.int many), .no, .v (.int x)] = .ok (.int (x.fmod many)) [.o (P4 c (i + 1) s (x.fdiv many)), .v (.int many), .no, .v (.int x)] := op2_ok (cb_ok (cons_ok (d := .int x) rfl (mr := cNil) rfl) rfl) rfl (mod_ok (by omega))
      refine ⟨x.fmod many, P4 c (i + 1) s (x.fdiv many), runB_rt (s := [.o (P4 c (i + 1) s (x.fdiv many)), .v (.int many), .no, .v (.int x)]) ((seq_nx (ifs_f t0)).trans ((seq_nx ((ifs_f t1).trans rfl)).trans ((seq_nx (asg_ok rfl (by show 3 < 4; omega))).trans (seq_rt ((ifs_t t2).trans ((seq_nx a1).trans ((seq_nx a2).trans ((ifs_t t3).trans ((seq_nx (set3 e2)).trans (ret_ok e3)))))))))) rfl, ⟨c, i + 1, s, _, rfl, hc, hl, by omega, hs, hs2, Int.fdiv_nonneg (by omega) (by omega)⟩, Int.fmod_nonneg_of_pos _ (by omega), Int.fmod_lt_of_pos _ (by omega)⟩
    · rw [decide_eq_false q3] at t3
      obtain ⟨r, s', en, r1, r2, s1, s2⟩ := end_at (c := c) (i := i + 1) (s := s) (z := z) (many := many) (cell := x) (a := .no) (by omega) hs hs2
      refine ⟨r, P4 c (i + 1) s' z, runB_rt (s := [.o (P4 c (i + 1) s' z), .v (.int many), .no, .v (.int x)]) ((seq_nx (ifs_f t0)).trans ((seq_nx ((ifs_f t1).trans rfl)).trans ((seq_nx (asg_ok rfl (by show 3 < 4; omega))).trans ((seq_nx ((ifs_t t2).trans ((seq_nx a1).trans ((seq_nx a2).trans ((ifs_f t3).trans rfl))))).trans en)))) rfl, ⟨c, i + 1, s', z, rfl, hc, hl, by omega, s1, s2, hz⟩, r1, r2⟩
  · rw [decide_eq_false q2] at t2
    obtain ⟨r, s', en, r1, r2, s1, s2⟩ := end_at (c := c) (i := i) (s := s) (z := z) (many := many) (cell := 0) (a := .no) (by omega) hs hs2
    refine ⟨r, P4 c i s' z, runB_rt (s := [.o (P4 c i s' z), .v (.int many), .no, .v (.int 0)]) ((seq_nx (ifs_f t0)).trans ((seq_nx ((ifs_f t1).trans rfl)).trans ((seq_nx (asg_ok rfl (by show 3 < 4; omega))).trans ((seq_nx ((ifs_f t2).trans rfl)).trans en)))) rfl, ⟨c, i, s', z, rfl, hc, hl, hi, s1, s2, hz⟩, r1, r2⟩
theorem pick_at {p : MO} {row : D} {xs : List D} (hp : PotOk p) (hs : seqD row = some xs) (h1 : 1 ≤ xs.length) (h2 : xs.length < 1000000) : ∃ x ∈ xs, ∃ p', f_law_pick p [row] = some (x, p') ∧ PotOk p' := by
  obtain ⟨r, p', e, ok, r1, r2⟩ := draw_at hp (many := (xs.length : Nat)) (by omega) (by omega)
  have l1 : lenD [row] = some (.int (xs.length : Nat)) := by
    cases row with
    | lst ys => cases hs; rfl
    | tup ys => cases hs; rfl
    | _ => cases hs
  have hx : xs[r.toNat]? = some xs[r.toNat] := List.getElem?_eq_getElem (by omega)
  have hm : xs[r.toNat] ∈ xs := List.getElem_mem _
  generalize xs[r.toNat] = x at hx hm
  have ix : idxD row (.int r) = some x := by
    have z := atI_nat hx
    rw [show ((r.toNat : Nat) : Int) = r by omega] at z
    cases row with
    | lst ys => cases hs; exact z
    | tup ys => cases hs; exact z
    | _ => cases hs
  refine ⟨x, hm, p', ?_, ok⟩
  unfold f_law_pick
  exact runB_rt (ret_ok (op2_ok rfl (callB_ok (n := 1) (m0 := p) (m1 := p) (s := [.o p, .v row]) (ds := [.int (xs.length : Nat)]) rfl (cons_ok (cb_ok (f := lenD) (cons_ok (m := cVar 1) rfl (mr := cNil) rfl) l1) rfl) rfl rfl e) ix)) rfl
/-- data of some depth -/
def el (n : Nat) (d : D) : Bool := match toPy d with
  | some p => PyData.canLay0 p && decide (PyData.depth p ≤ n)
  | none => false
theorem el_elE {n : Nat} {d : D} (h : el n d = true) (hn : n ≤ 60) : elE d = true := by
  unfold el at h
  unfold elE
  cases e : toPy d with
  | none => rw [e] at h; cases h
  | some p =>
    rw [e] at h
    simp only [Bool.and_eq_true, decide_eq_true_eq] at h ⊢
    exact ⟨h.1, by omega⟩
theorem el_mono {n m : Nat} {d : D} (h : el n d = true) (hn : n ≤ m) : el m d = true := by
  unfold el at h ⊢
  cases e : toPy d with
  | none => rw [e] at h; cases h
  | some p =>
    rw [e] at h
    simp only [Bool.and_eq_true, decide_eq_true_eq] at h ⊢
    exact ⟨h.1, by omega⟩
theorem toPys_el {n : Nat} : ∀ {ds : List D}, (∀ d ∈ ds, el n d = true) → ∃ ps, toPys ds = some ps ∧ PyData.canLayAll0 ps = true ∧ PyData.depthAll ps ≤ n
  | [], _ => ⟨[], rfl, rfl, Nat.zero_le _⟩
  | d :: r, h => by
    obtain ⟨ps, h1, h2, h3⟩ := toPys_el fun x hx => h x (List.mem_cons_of_mem _ hx)
    have hd := h d List.mem_cons_self
    unfold el at hd
    cases e : toPy d with
    | none => rw [e] at hd; cases hd
    | some p =>
      rw [e] at hd
      simp only [Bool.and_eq_true, decide_eq_true_eq] at hd
      refine ⟨p :: ps, ?_, ?_, ?_⟩
      · unfold toPys
        rw [e, h1]
      · show (PyData.canLay0 p && PyData.canLayAll0 ps) = true
        rw [hd.1, h2]; rfl
      · show max (PyData.depth p) (PyData.depthAll ps) ≤ n
        omega
theorem el_tup {n : Nat} {ds : List D} (h : ∀ d ∈ ds, el n d = true) : el (n + 1) (.tup ds) = true := by
  obtain ⟨ps, h1, h2, h3⟩ := toPys_el h
  unfold el
  have e : toPy (.tup ds) = some (.tuple ps) := by unfold toPy; rw [h1] <;> rfl
  rw [e]
  show (PyData.canLayAll0 ps && decide (PyData.depthAll ps + 1 ≤ n + 1)) = true
  rw [h2, decide_eq_true (by omega)]; rfl
theorem el_lst {n : Nat} {ds : List D} (h : ∀ d ∈ ds, el n d = true) : el (n + 1) (.lst ds) = true := by
  obtain ⟨ps, h1, h2, h3⟩ := toPys_el h
  unfold el
  have e : toPy (.lst ds) = some (.list ps) := by unfold toPy; rw [h1] <;> rfl
  rw [e]
  show (PyData.canLayAll0 ps && decide (PyData.depthAll ps + 1 ≤ n + 1)) = true
  rw [h2, decide_eq_true (by omega)]; rfl
theorem el_int (i : Int) : el 0 (.int i) = true := rfl
theorem char_lt (c : Char) : c.toNat < 0x110000 := by
  rcases c.valid with h | h
  · have : c.toNat < 0xd800 := h
    omega
  · exact h.2
theorem strOk_of (s : String) : PyData.strOk (Str.ofString s) = true := by
  rw [Str.ofString_eq_toList]
  unfold PyData.strOk
  rw [List.all_toArray, List.all_map, List.all_eq_true]
  intro c _
  exact decide_eq_true (char_lt c)
theorem el_str (s : String) : el 0 (.str (Str.ofString s)) = true := by
  show (PyData.strOk (Str.ofString s) && decide (0 ≤ 0)) = true
  rw [strOk_of]; rfl
theorem el_tD (k : List Int) : el 1 (tD k) = true := el_tup fun d hd => by
  obtain ⟨i, _, rfl⟩ := List.mem_map.mp hd
  rfl
/-- what a law's odd thing may be -/
def oddOk (n : Nat) (d : D) : Prop := el n d = true ∨ d = .dK [] []
theorem cut_take (xs : List D) (k : Nat) (h : k ≤ xs.length) : cutD xs none (some (k : Int)) = xs.take k := by
  unfold cutD
  have e : HT.sIx xs.length xs.length (some (k : Int)) = min k xs.length := HT.sIx_nat xs.length xs.length k
  rw [e, HT.sIx_none, List.drop_zero, Nat.sub_zero, Nat.min_eq_left h]
theorem addX_lst {a b : List D} (h : a.length + b.length ≤ sizeLine) : addX (.lst a) (.lst b) = some (.lst (a ++ b)) := by
  show (match (if a.length + b.length ≤ sizeLine then some (D.lst (a ++ b)) else none) with
    | some z => some z
    | none => _) = _
  rw [if_pos h]
theorem addX_tup {a b : List D} (h : a.length + b.length ≤ sizeLine) : addX (.tup a) (.tup b) = some (.tup (a ++ b)) := by
  show (match (if a.length + b.length ≤ sizeLine then some (D.tup (a ++ b)) else none) with
    | some z => some z
    | none => _) = _
  rw [if_pos h]
def mkS : Bool → List D → D
  | true, xs => .lst xs
  | false, xs => .tup xs
theorem mem_bent {xs : List D} {y d : D} {k : Nat} (h : d ∈ xs.take k ++ [y] ++ xs.drop (k + 1)) : d ∈ xs ∨ d = y := by
  rcases List.mem_append.mp h with h | h
  · rcases List.mem_append.mp h with h | h
    · exact .inl (List.mem_of_mem_take h)
    · exact .inr (List.mem_singleton.mp h)
  · exact .inl (List.mem_of_mem_drop h)
abbrev mixE : EM := cMeth 2 paF (cCons (cCallB 0 (fun m ds => if ds.length = 1 then f_law_draw m ds else none) (cCons (cPkL 2 lenD) cNil)) cNil)
theorem mixed_go {rw_ : D} : ∀ (ds left acc : List D) (p : MO), left.length = ds.length → PotOk p → acc.length + ds.length ≤ 4096 →
    ∃ out p' left', lcR [3] (mName 3) cYes mixE ds acc [.o p, .v rw_, .o (.lst left), .no] = .ok (.lst (acc ++ out)) [.o p', .v rw_, .o (.lst left'), .no] ∧ PotOk p' ∧ out.length = ds.length ∧ ∀ d ∈ out, d ∈ left
  | [], left, acc, p, hl, hp, hz => ⟨[], p, left, by rw [List.append_nil]; rfl, hp, rfl, fun d h => by cases h⟩
  | e :: r, left, acc, p, hl, hp, hz => by
    rw [List.length_cons] at hl hz
    obtain ⟨a, p1, d1, ok1, a1, a2⟩ := draw_at hp (many := (left.length : Nat)) (by omega) (by omega)
    have hx : left[a.toNat]? = some left[a.toNat] := List.getElem?_eq_getElem (by omega)
    have hm : left[a.toNat] ∈ left := List.getElem_mem _
    generalize left[a.toNat] = x at hx hm
    have ix : L2.ixN left.length a = some a.toNat := by
      unfold L2.ixN
      rw [if_pos a1, if_pos a2]
    have pf : paF (.lst left) [.int a] = some (x, .lst (left.eraseIdx a.toNat)) := by
      unfold paF
      simp only [ix, hx]
      rw [if_pos ⟨by omega, by omega⟩]
    have c1 : cCallB 0 (fun m ds => if ds.length = 1 then f_law_draw m ds else none) (cCons (cPkL 2 lenD) cNil) [.o p, .v rw_, .o (.lst left), .v e] = .ok (.int a) [.o p1, .v rw_, .o (.lst left), .v e] :=
      callB_ok (q := 0) (n := 1) (m0 := p) (m1 := p) (s := [.o p, .v rw_, .o (.lst left), .v e]) (ds := [.int (left.length : Nat)]) rfl rfl rfl rfl d1
    have c2 : mixE [.o p, .v rw_, .o (.lst left), .v e] = .ok x [.o p1, .v rw_, .o (.lst (left.eraseIdx a.toNat)), .v e] :=
      meth_ok (q := 2) (s := [.o p1, .v rw_, .o (.lst left), .v e]) (m1 := .lst left) rfl (cons_ok c1 (mr := cNil) rfl) rfl pf
    obtain ⟨out, p', left', ih, ok', ol, om⟩ := mixed_go (rw_ := rw_) r (left.eraseIdx a.toNat) (acc ++ [x]) p1 (by rw [List.length_eraseIdx]; split <;> omega) ok1 (by rw [List.length_append, List.length_singleton]; omega)
    refine ⟨x :: out, p', left', ?_, ok', by rw [List.length_cons, List.length_cons, ol], fun d hd => ?_⟩
    · have e1 : lcR [3] (mName 3) cYes mixE (e :: r) acc [.o p, .v rw_, .o (.lst left), .no] = (noxR (mixE [.o p, .v rw_, .o (.lst left), .v e])).bind fun y s2 => if acc.length < sizeLine then lcR [3] (mName 3) cYes mixE r (acc ++ [y]) (wipeS s2 [3]) else .bad := rfl
      rw [e1, c2]
      simp only [noxR, ER.bind]
      rw [if_pos (Nat.lt_of_lt_of_le (by omega) sl_4096)]
      rw [show acc ++ x :: out = (acc ++ [x]) ++ out by rw [List.append_assoc]; rfl]
      exact ih
    · rcases List.mem_cons.mp hd with rfl | hd
      · exact hm
      · exact List.mem_of_mem_eraseIdx (om d hd)
def isT : Option D → Bool
  | some (.bl true) => true
  | _ => false
theorem isT_eq {o : Option D} (h : isT o = true) : o = some (.bl true) := by
  unfold isT at h
  split at h
  · rfl
  · cases h
theorem tupsI_map : ∀ (ks : List (List Int)), (∀ k ∈ ks, k ≠ []) → tupsI (ks.map tD) = some ks
  | [], _ => rfl
  | k :: r, h => by
    have ih := tupsI_map r fun j hj => h j (List.mem_cons_of_mem _ hj)
    have hk := h k List.mem_cons_self
    rw [List.map_cons]
    unfold tupsI
    rw [ih, show tupI (tD k) = some k from intsD_map k]
    cases k with
    | nil => exact absurd rfl hk
    | cons a b => rfl
theorem sort_at {ks : List (List Int)} (h1 : 1 ≤ ks.length) (h : ∀ k ∈ ks, k ≠ []) : sortD [.lst (ks.map tD)] = some (.lst ((srtS HT.lexLt ks).map tD)) := by
  have e : intsD (ks.map tD) = none := by
    cases ks with
    | nil => simp at h1
    | cons k r => rfl
  unfold sortD
  simp only [e, tupsI_map ks h]
def absI (i : Int) : Int := if i < 0 then -i else i
theorem pot_at {ns : List Int} (hl : ns.length ≤ 63) : f_law_pot [.ext ns] = some (P4 (ns.map absI) 0 20011 0) ∧ PotOk (P4 (ns.map absI) 0 20011 0) := by
  refine ⟨?_, ns.map absI, 0, 20011, 0, rfl, fun x hx => ?_, by rw [List.length_map]; exact hl, by decide, by decide, by decide, by decide⟩
  · have e1 : slD (.ext ns) none (some 63) = some (.lst (ns.map .int)) := by
      show some (D.lst (cutD (ns.map .int) none (some 63))) = _
      have q : cutD (ns.map D.int) none (some 63) = ns.map D.int := by
        unfold cutD
        have e : HT.sIx (ns.map D.int).length (ns.map D.int).length (some 63) = min 63 (ns.map D.int).length := HT.sIx_nat _ _ 63
        rw [e, HT.sIx_none, List.drop_zero, Nat.sub_zero, List.length_map, Nat.min_eq_right hl]
        exact List.take_of_length_le (by rw [List.length_map]; exact Nat.le_refl _)
      rw [q]
    have e2 : cSl (cVar 0) cNoP (cP (cC (.int 63))) [.v (.ext ns), .no] = .ok (.lst (ns.map .int)) [.v (.ext ns), .no] := by
      have z : cSl (cVar 0) cNoP (cP (cC (.int 63))) [.v (.ext ns), .no] = ofO (slD (.ext ns) none (some 63)) [.v (.ext ns), .no] := rfl
      rw [z, e1]; rfl
    have c1 : cLc [1] (cSeqI (cSl (cVar 0) cNoP (cP (cC (.int 63))))) (mName 1) cYes (cCB absD (cCons (cVar 1) cNil)) [.v (.ext ns), .no] = .ok (.lst ((ns.map D.int).map fun d => match d with | .int i => D.int (absI i) | _ => .non)) [.v (.ext ns), .no] :=
      lc_ok (s := [.v (.ext ns), .no]) (seqi_ok e2 rfl) (lcR_all (fun d => match d with | .int i => D.int (absI i) | _ => .non) (ns.map .int) rfl (Nat.lt_succ_self 1) (fun d hd => by
        obtain ⟨i, _, rfl⟩ := List.mem_map.mp hd
        exact cb_ok (f := absD) (cons_ok (m := cVar 1) rfl (mr := cNil) rfl) rfl) (by rw [List.length_map]; exact Nat.le_trans hl (by decide)))
    have e3 : ((ns.map D.int).map fun d => match d with | .int i => D.int (absI i) | _ => .non) = (ns.map absI).map D.int := by rw [List.map_map, List.map_map]; rfl
    rw [e3] at c1
    have c2 : m_law_pot [.v (.ext ns), .no] = .ok (P4 (ns.map absI) 0 20011 0) [.v (.ext ns), .no] := by
      unfold m_law_pot cLst
      rw [cons_ok (fz_ok c1) (mr := cCons (cC (.int 0)) (cCons (cC (.int 20011)) (cCons (cC (.int 0)) cNil))) (ds := [.int 0, .int 20011, .int 0]) rfl]
      rfl
    show (match m_law_pot [.v (.ext ns), .no] with | .ok m _ => some m | _ => none) = _
    rw [c2]
  · obtain ⟨i, _, rfl⟩ := List.mem_map.mp hx
    unfold absI
    split <;> omega
end Ke.W
set_option linter.all false
set_option autoImplicit false
set_option maxRecDepth 100000
set_option maxHeartbeats 2000000

/-! Ke1: the plain law. -/
namespace Ke.W
open DL PySem L2
def things : List D := [.non, .bl true, .int 0, .int (-3), .int (10 ^ 39), .str "", .str "node", .str "a b", .tup [], .tup [.int 1, .str "x"], .lst [], .lst [.non], .dK [] [], .dK [.inr "a"] [.tup [.int 0]]]
theorem thing_at {p : MO} (hp : PotOk p) : ∃ x ∈ things, ∃ p', f_law_thing p [] = some (x, p') ∧ PotOk p' := by
  obtain ⟨x, hx, p', e, ok⟩ := pick_at hp (row := .lst things) (xs := things) rfl (by decide) (by decide)
  refine ⟨x, hx, p', ?_, ok⟩
  have pw : powD (.int 10) (.int 39) = some (.int (10 ^ 39)) := rfl
  have sz : ∀ (m : MO) sl, szK 14 m sl = .ok m sl := fun _ _ => rfl
  have e : f_law_pick p [.lst [.non, .bl true, .int 0, .int (-3), .int (10 ^ 39), .str "", .str "node", .str "a b", .tup [], .tup [.int 1, .str "x"], .lst [], .lst [.non], .dK [] [], .dK [.inr "a"] [.tup [.int 0]]]] = some (x, p') := e
  have d1 : ∀ sl, cDispT "a" 0 sl = .ok (.dK [.inr "a"] [.tup [.int 0]]) sl := fun _ => rfl
  have d2 : ∀ sl, cFz cDNew sl = .ok (.dK [] []) sl := fun _ => rfl
  unfold f_law_thing
  refine runB_rt (s := [.o p']) ?_ rfl
  unfold m_law_thing
  show m_law_thing [.o p] = _
  unfold m_law_thing
  simp only [↓DL.MSa, ↓DL.MSb, ↓DL.MSc, ↓DL.MSd, ↓DL.MSx, DL.MSe, DL.MSf, DL.MSg, DL.MSt, DL.MSo, Bool.or_true, Bool.or_false, Bool.true_or, Bool.false_or, ifK_t, ifK_f, Bool.not_true, Bool.not_false, decide_true, decide_false, Bool.and_true, Bool.true_and, Bool.and_false, Bool.false_and, List.cons_append, List.nil_append, List.append_nil, List.length_cons, List.length_nil, Nat.reduceAdd, Nat.reduceSub, Nat.reduceEqDiff, ne_eq, not_false_eq_true, not_true_eq_false, Nat.reduceLT, DL.MSy, e, pw, d1, d2, sz]

section
variable (bn bt bw ge nc nr nl tm : Addr)
abbrev Cs : List Addr := [bn, bt, bw, nc, nr, nl, tm]
abbrev Fs : List Str := ["value", "line", "what", "most"]
def rowsD (a b : D) : List D := [.tup [.exv bn ["value"] [a], .str "value"], .tup [.exv bt ["what", "line"] [b, a], .str "line what"], .tup [.exv bw ["what"] [a], .str "what"], .tup [.exv nc [] [], .str ""], .tup [.exv nr [] [], .str ""], .tup [.exv nl [] [], .str ""], .tup [.exv tm ["most"] [a], .str "most"]]
theorem rows_at (a b : D) : f_law_rows bn bt bw nc nr nl tm [a, b] = some (.lst (rowsD bn bt bw nc nr nl tm a b)) := by
  kernel_rfl
variable {bn bt bw ge nc nr nl tm}
def kindsD (C : Addr) : List D := (Cs bn bt bw nc nr nl tm).map fun T => .bl (decide (C = T))
theorem isV_at {C T : Addr} {ns : List Str} {ds : List D} {sl : List S} {m : EM} (h : C ∈ ge :: Cs bn bt bw nc nr nl tm) (hT : T ∈ Cs bn bt bw nc nr nl tm) (hm : m sl = .ok (.exv C ns ds) sl) : cIsV ge (Cs bn bt bw nc nr nl tm) T m sl = .ok (.bl (decide (C = T))) sl := by
  unfold cIsV
  rw [hm]
  exact if_pos ⟨h, hT⟩
theorem isVg_at {C : Addr} {ns : List Str} {ds : List D} {sl : List S} {m : EM} (h : C ∈ ge :: Cs bn bt bw nc nr nl tm) (hm : m sl = .ok (.exv C ns ds) sl) : cIsVg ge (Cs bn bt bw nc nr nl tm) m sl = .ok (.bl true) sl := by
  unfold cIsVg
  rw [hm]
  exact if_pos h
theorem kinds_at {C : Addr} {ns : List Str} {ds : List D} (h : C ∈ ge :: Cs bn bt bw nc nr nl tm) : f_law_kinds bn bt bw ge nc nr nl tm [.exv C ns ds] = some (.lst (kindsD (bn := bn) (bt := bt) (bw := bw) (nc := nc) (nr := nr) (nl := nl) (tm := tm) C)) := by
  have i1 : ∀ f, cIsV ge [bn, bt, bw, nc, nr, nl, tm] bn (cVar 0) [.v (.exv C ns ds), f] = .ok (.bl (decide (C = bn))) [.v (.exv C ns ds), f] := fun f => isV_at h (by simp) rfl
  have i2 : ∀ f, cIsV ge [bn, bt, bw, nc, nr, nl, tm] bt (cVar 0) [.v (.exv C ns ds), f] = .ok (.bl (decide (C = bt))) [.v (.exv C ns ds), f] := fun f => isV_at h (by simp) rfl
  have i3 : ∀ f, cIsV ge [bn, bt, bw, nc, nr, nl, tm] bw (cVar 0) [.v (.exv C ns ds), f] = .ok (.bl (decide (C = bw))) [.v (.exv C ns ds), f] := fun f => isV_at h (by simp) rfl
  have i4 : ∀ f, cIsV ge [bn, bt, bw, nc, nr, nl, tm] nc (cVar 0) [.v (.exv C ns ds), f] = .ok (.bl (decide (C = nc))) [.v (.exv C ns ds), f] := fun f => isV_at h (by simp) rfl
  have i5 : ∀ f, cIsV ge [bn, bt, bw, nc, nr, nl, tm] nr (cVar 0) [.v (.exv C ns ds), f] = .ok (.bl (decide (C = nr))) [.v (.exv C ns ds), f] := fun f => isV_at h (by simp) rfl
  have i6 : ∀ f, cIsV ge [bn, bt, bw, nc, nr, nl, tm] nl (cVar 0) [.v (.exv C ns ds), f] = .ok (.bl (decide (C = nl))) [.v (.exv C ns ds), f] := fun f => isV_at h (by simp) rfl
  have i7 : ∀ f, cIsV ge [bn, bt, bw, nc, nr, nl, tm] tm (cVar 0) [.v (.exv C ns ds), f] = .ok (.bl (decide (C = tm))) [.v (.exv C ns ds), f] := fun f => isV_at h (by simp) rfl
  have run : ∀ s d, m_law_kinds bn bt bw ge nc nr nl tm [.v (.exv C ns ds), .no] = .rt d s → f_law_kinds bn bt bw ge nc nr nl tm [.exv C ns ds] = some d := fun s d e => runP_rt e
  have a1 := addX_lst (a := [.bl (decide (C = bn)), .bl (decide (C = bt)), .bl (decide (C = bw))]) (b := [.bl (decide (C = nc)), .bl (decide (C = nr)), .bl (decide (C = nl))]) (show (6 : Nat) ≤ sizeLine by decide)
  have a2 := addX_lst (a := [.bl (decide (C = bn)), .bl (decide (C = bt)), .bl (decide (C = bw)), .bl (decide (C = nc)), .bl (decide (C = nr)), .bl (decide (C = nl))]) (b := [.bl (decide (C = tm))]) (show (7 : Nat) ≤ sizeLine by decide)
  refine run [.v (.exv C ns ds), .v (.lst [.bl (decide (C = bn)), .bl (decide (C = bt)), .bl (decide (C = bw)), .bl (decide (C = nc)), .bl (decide (C = nr)), .bl (decide (C = nl))])] _ ?_
  unfold m_law_kinds kindsD
  simp only [↓DL.MSa, ↓DL.MSb, ↓DL.MSc, ↓DL.MSd, ↓DL.MSx, DL.MSe, DL.MSf, DL.MSg, DL.MSt, DL.MSo, Bool.or_true, Bool.or_false, Bool.true_or, Bool.false_or, ifK_t, ifK_f, Bool.not_true, Bool.not_false, decide_true, decide_false, Bool.and_true, Bool.true_and, Bool.and_false, Bool.false_and, List.cons_append, List.nil_append, List.append_nil, List.length_cons, List.length_nil, Nat.reduceAdd, Nat.reduceSub, Nat.reduceEqDiff, ne_eq, not_false_eq_true, not_true_eq_false, Nat.reduceLT, DL.MSy, i1, i2, i3, i4, i5, i6, i7, a1, a2, List.map_cons, List.map_nil]
end
end Ke.W
set_option linter.all false
set_option autoImplicit false
set_option maxRecDepth 100000
set_option maxHeartbeats 2000000

/-! Ke2: what is told of an exception. -/
namespace Ke.W
open DL PySem L2
theorem for_step {g : D → List S → Option (List S)} {b : SM} {d : D} {r : List D} {sl s1 s2 : List S} (h1 : g d sl = some s1) (h2 : b s1 = .nx s2) : forR g b (d :: r) sl = forR g b r s2 := by
  show (match g d sl with
    | none => SR.bad
    | some s => match b s with
      | .nx s' => forR g b r s'
      | .ct s' => forR g b r s'
      | .bk s' => .nx s'
      | q => q) = _
  rw [h1]
  simp only [h2]
section
variable {bn bt bw ge nc nr nl tm : Addr} {C : Addr} {ns : List Str} {ds : List D}
theorem xvF_at {f : Str} {d : D} {sl : List S} {m : EM} (hC : C ∈ Cs bn bt bw nc nr nl tm) (hf : f ∈ Fs) (hm : m sl = .ok (.exv C ns ds) sl) (l : lookD ns ds f = some d) : cXvF (Cs bn bt bw nc nr nl tm) Fs f m sl = .ok d sl := by
  unfold cXvF
  rw [hm]
  show (if C ∈ Cs bn bt bw nc nr nl tm ∧ f ∈ Fs then ofO (lookD ns ds f) sl else .bad) = _
  rw [if_pos ⟨hC, hf⟩, l] <;> rfl
abbrev TS (C : Addr) (ns : List Str) (ds : List D) (w : Str) (acc : List D) (z : S) : List S := [.v (.exv C ns ds), .v (.str w), .o (.lst acc), z]
theorem tb_at {w wd : Str} {acc : List D} {d : D} (hC : C ∈ Cs bn bt bw nc nr nl tm) (hw : wd ∈ Fs) (l : lookD ns ds wd = some d) (hz : acc.length ≤ 10) :
    law_told_of_b0 bn bt bw ge nc nr nl tm (TS C ns ds w acc (.v (.str wd))) = .nx (TS C ns ds w (acc ++ [d]) (.v (.str wd))) := by
  have ap : apF (.lst acc) [d] = some (.non, .lst (acc ++ [d])) := if_pos (Nat.lt_of_le_of_lt hz (by decide))
  have x : cXvF [bn, bt, bw, nc, nr, nl, tm] ["value", "line", "what", "most"] wd (cVar 0) (TS C ns ds w acc (.v (.str wd))) = .ok d (TS C ns ds w acc (.v (.str wd))) := xvF_at hC hw rfl l
  simp only [List.mem_cons, List.not_mem_nil, or_false] at hw
  rcases hw with rfl | rfl | rfl | rfl
  · have e1 : eqO (.str "value") (.str "value") = some (.bl true) := by kernel_rfl
    simp only [↓DL.MSa, ↓DL.MSb, ↓DL.MSc, ↓DL.MSd, ↓DL.MSx, DL.MSe, DL.MSf, DL.MSg, DL.MSt, DL.MSo, Bool.or_true, Bool.or_false, Bool.true_or, Bool.false_or, ifK_t, ifK_f, Bool.not_true, Bool.not_false, decide_true, decide_false, Bool.and_true, Bool.true_and, Bool.and_false, Bool.false_and, List.cons_append, List.nil_append, List.append_nil, List.length_cons, List.length_nil, Nat.reduceAdd, Nat.reduceSub, Nat.reduceEqDiff, ne_eq, not_false_eq_true, not_true_eq_false, Nat.reduceLT, DL.MSy, e1, x, ap]
  · have e1 : eqO (.str "line") (.str "value") = some (.bl false) := by kernel_rfl
    have e2 : eqO (.str "line") (.str "what") = some (.bl false) := by kernel_rfl
    have e3 : eqO (.str "line") (.str "line") = some (.bl true) := by kernel_rfl
    simp only [↓DL.MSa, ↓DL.MSb, ↓DL.MSc, ↓DL.MSd, ↓DL.MSx, DL.MSe, DL.MSf, DL.MSg, DL.MSt, DL.MSo, Bool.or_true, Bool.or_false, Bool.true_or, Bool.false_or, ifK_t, ifK_f, Bool.not_true, Bool.not_false, decide_true, decide_false, Bool.and_true, Bool.true_and, Bool.and_false, Bool.false_and, List.cons_append, List.nil_append, List.append_nil, List.length_cons, List.length_nil, Nat.reduceAdd, Nat.reduceSub, Nat.reduceEqDiff, ne_eq, not_false_eq_true, not_true_eq_false, Nat.reduceLT, DL.MSy, e1, e2, e3, x, ap]
  · have e1 : eqO (.str "what") (.str "value") = some (.bl false) := by kernel_rfl
    have e2 : eqO (.str "what") (.str "what") = some (.bl true) := by kernel_rfl
    simp only [↓DL.MSa, ↓DL.MSb, ↓DL.MSc, ↓DL.MSd, ↓DL.MSx, DL.MSe, DL.MSf, DL.MSg, DL.MSt, DL.MSo, Bool.or_true, Bool.or_false, Bool.true_or, Bool.false_or, ifK_t, ifK_f, Bool.not_true, Bool.not_false, decide_true, decide_false, Bool.and_true, Bool.true_and, Bool.and_false, Bool.false_and, List.cons_append, List.nil_append, List.append_nil, List.length_cons, List.length_nil, Nat.reduceAdd, Nat.reduceSub, Nat.reduceEqDiff, ne_eq, not_false_eq_true, not_true_eq_false, Nat.reduceLT, DL.MSy, e1, e2, x, ap]
  · have e1 : eqO (.str "most") (.str "value") = some (.bl false) := by kernel_rfl
    have e2 : eqO (.str "most") (.str "what") = some (.bl false) := by kernel_rfl
    have e3 : eqO (.str "most") (.str "line") = some (.bl false) := by kernel_rfl
    have e4 : eqO (.str "most") (.str "most") = some (.bl true) := by kernel_rfl
    simp only [↓DL.MSa, ↓DL.MSb, ↓DL.MSc, ↓DL.MSd, ↓DL.MSx, DL.MSe, DL.MSf, DL.MSg, DL.MSt, DL.MSo, Bool.or_true, Bool.or_false, Bool.true_or, Bool.false_or, ifK_t, ifK_f, Bool.not_true, Bool.not_false, decide_true, decide_false, Bool.and_true, Bool.true_and, Bool.and_false, Bool.false_and, List.cons_append, List.nil_append, List.append_nil, List.length_cons, List.length_nil, Nat.reduceAdd, Nat.reduceSub, Nat.reduceEqDiff, ne_eq, not_false_eq_true, not_true_eq_false, Nat.reduceLT, DL.MSy, e1, e2, e3, e4, x, ap]
theorem told_go {w : Str} (hC : C ∈ Cs bn bt bw nc nr nl tm) : ∀ (wds : List Str) (due acc : List D) (z : S), (∀ wd ∈ wds, wd ∈ Fs) → wds.map (lookD ns ds) = due.map some → acc.length + wds.length ≤ 10 →
    ∃ z', forR (mName 3) (law_told_of_b0 bn bt bw ge nc nr nl tm) (wds.map D.str) (TS C ns ds w acc z) = .nx (TS C ns ds w (acc ++ due) z')
  | [], due, acc, z, hw, hd, hz => by
    cases due with
    | nil => exact ⟨z, by rw [List.append_nil]; rfl⟩
    | cons _ _ => cases hd
  | wd :: wds, due, acc, z, hw, hd, hz => by
    cases due with
    | nil => cases hd
    | cons d due =>
      rw [List.map_cons, List.map_cons] at hd
      injection hd with h1 h2
      rw [List.length_cons] at hz
      obtain ⟨z', e⟩ := told_go (w := w) hC wds due (acc ++ [d]) (.v (.str wd)) (fun x hx => hw x (List.mem_cons_of_mem _ hx)) h2 (by rw [List.length_append, List.length_singleton]; omega)
      refine ⟨z', ?_⟩
      rw [List.append_assoc] at e
      rw [List.map_cons]
      exact (for_step (s1 := TS C ns ds w acc (.v (.str wd))) rfl (tb_at hC (hw wd List.mem_cons_self) h1 (by omega))).trans e
theorem told_at {w : Str} {wds : List Str} {due : List D} (hC : C ∈ Cs bn bt bw nc nr nl tm) (sp : splitF w [.str " "] = some (.lst (wds.map D.str))) (hw : ∀ wd ∈ wds, wd ∈ Fs) (hd : wds.map (lookD ns ds) = due.map some) (hz : wds.length ≤ 10) :
    f_law_told_of bn bt bw ge nc nr nl tm [.exv C ns ds, .str w] = some (.lst due) := by
  obtain ⟨z', e⟩ := told_go (ge := ge) (w := w) hC wds due [] .no hw hd (by rw [List.length_nil, Nat.zero_add]; exact hz)
  have run : ∀ s d, m_law_told_of bn bt bw ge nc nr nl tm [.v (.exv C ns ds), .v (.str w), .no, .no] = .rt d s → f_law_told_of bn bt bw ge nc nr nl tm [.exv C ns ds, .str w] = some d := fun s d e => runP_rt e
  refine run [.v (.exv C ns ds), .v (.str w), .v (.lst due), z'] _ ?_
  have e : forR (mName 3) (law_told_of_b0 bn bt bw ge nc nr nl tm) (wds.map D.str) [.v (.exv C ns ds), .v (.str w), .o (.lst []), .no] = .nx [.v (.exv C ns ds), .v (.str w), .o (.lst due), z'] := e
  unfold m_law_told_of
  simp only [↓DL.MSa, ↓DL.MSb, ↓DL.MSc, ↓DL.MSd, ↓DL.MSx, DL.MSe, DL.MSf, DL.MSg, DL.MSt, DL.MSo, Bool.or_true, Bool.or_false, Bool.true_or, Bool.false_or, ifK_t, ifK_f, Bool.not_true, Bool.not_false, decide_true, decide_false, Bool.and_true, Bool.true_and, Bool.and_false, Bool.false_and, List.cons_append, List.nil_append, List.append_nil, List.length_cons, List.length_nil, Nat.reduceAdd, Nat.reduceSub, Nat.reduceEqDiff, ne_eq, not_false_eq_true, not_true_eq_false, Nat.reduceLT, DL.MSy, sp, DL.seqD_lst, e]
theorem told_nil : f_law_told_of bn bt bw ge nc nr nl tm [.exv C ns ds, .str ""] = some (.lst []) := by
  have sp : splitF "" [.str " "] = some (.lst [.str ""]) := by kernel_rfl
  have e1 : eqO (.str "") (.str "value") = some (.bl false) := by kernel_rfl
  have e2 : eqO (.str "") (.str "what") = some (.bl false) := by kernel_rfl
  have e3 : eqO (.str "") (.str "line") = some (.bl false) := by kernel_rfl
  have e4 : eqO (.str "") (.str "most") = some (.bl false) := by kernel_rfl
  have b : law_told_of_b0 bn bt bw ge nc nr nl tm (TS C ns ds "" [] (.v (.str ""))) = .nx (TS C ns ds "" [] (.v (.str ""))) := by
    simp only [↓DL.MSa, ↓DL.MSb, ↓DL.MSc, ↓DL.MSd, ↓DL.MSx, DL.MSe, DL.MSf, DL.MSg, DL.MSt, DL.MSo, Bool.or_true, Bool.or_false, Bool.true_or, Bool.false_or, ifK_t, ifK_f, Bool.not_true, Bool.not_false, decide_true, decide_false, Bool.and_true, Bool.true_and, Bool.and_false, Bool.false_and, List.cons_append, List.nil_append, List.append_nil, List.length_cons, List.length_nil, Nat.reduceAdd, Nat.reduceSub, Nat.reduceEqDiff, ne_eq, not_false_eq_true, not_true_eq_false, Nat.reduceLT, DL.MSy, e1, e2, e3, e4]
  have e : forR (mName 3) (law_told_of_b0 bn bt bw ge nc nr nl tm) [.str ""] [.v (.exv C ns ds), .v (.str ""), .o (.lst []), .no] = .nx [.v (.exv C ns ds), .v (.str ""), .o (.lst []), .v (.str "")] := for_step (r := []) rfl b
  have run : ∀ s d, m_law_told_of bn bt bw ge nc nr nl tm [.v (.exv C ns ds), .v (.str ""), .no, .no] = .rt d s → f_law_told_of bn bt bw ge nc nr nl tm [.exv C ns ds, .str ""] = some d := fun s d e => runP_rt e
  refine run [.v (.exv C ns ds), .v (.str ""), .v (.lst []), .v (.str "")] _ ?_
  unfold m_law_told_of
  simp only [↓DL.MSa, ↓DL.MSb, ↓DL.MSc, ↓DL.MSd, ↓DL.MSx, DL.MSe, DL.MSf, DL.MSg, DL.MSt, DL.MSo, Bool.or_true, Bool.or_false, Bool.true_or, Bool.false_or, ifK_t, ifK_f, Bool.not_true, Bool.not_false, decide_true, decide_false, Bool.and_true, Bool.true_and, Bool.and_false, Bool.false_and, List.cons_append, List.nil_append, List.append_nil, List.length_cons, List.length_nil, Nat.reduceAdd, Nat.reduceSub, Nat.reduceEqDiff, ne_eq, not_false_eq_true, not_true_eq_false, Nat.reduceLT, DL.MSy, sp, DL.seqD_lst, e]
end
end Ke.W
set_option linter.all false
set_option autoImplicit false
set_option maxRecDepth 100000
set_option maxHeartbeats 2000000

/-! Ke3: one turn of the law. -/
namespace Ke.W
open DL PySem L2
def sh (xs : List D) : Bool := match (toPqs xs).bind showL with
  | some s => PyData.strOk s
  | none => false
theorem sh0 : sh [] = true := by kernel_rfl
theorem sh1 : (things.all fun a => sh [a]) = true := by kernel_rfl
theorem sh2 : (things.all fun a => things.all fun b => sh [a, b]) = true := by kernel_rfl
theorem neO_str {s : Str} (h : PyData.strOk s = true) : neO (.str s) (.str s) = some (.bl false) := by
  have z0 : PyData.canLay0 (.str s) = true := h
  have z1 : SeqAt.shaped (.str s) = true := by
    unfold SeqAt.shaped
    rw [z0] <;> rfl
  have z : PyData.eqv (.str s) (.str s) = true := by
    have z : PyData.eqv (.str s) (.str s) = (s == s) := by first | rfl | simp [PyData.eqv]
    rw [z, beq_self_eq_true]
  have e : eqD (.str s) (.str s) = some true := by
    show (if (SeqAt.shaped (.str s) && SeqAt.shaped (.str s)) = true then some (PyData.eqv (.str s) (.str s)) else none) = _
    rw [z1, z] <;> rfl
  unfold neO
  rw [e] <;> rfl
theorem sh_at {xs : List D} (h : sh xs = true) : ∃ s, reprL [.lst xs] = some (.str s) ∧ neO (.str s) (.str s) = some (.bl false) := by
  have e : reprL [.lst xs] = ((toPqs xs).bind showL).map D.str := rfl
  unfold sh at h
  cases q : (toPqs xs).bind showL with
  | none => rw [q] at h; cases h
  | some s =>
    rw [q] at h
    exact ⟨s, by rw [e, q]; rfl, neO_str h⟩
section
variable {bn bt bw ge nc nr nl tm : Addr}
abbrev LB (e : S) (p : MO) (a b c : D) (rows later : List D) (at_ row er wo du k al : S) : List S := [e, .o p, .v a, .v b, .v c, .v (.lst rows), .v (.lst later), at_, row, er, wo, du, k, al]
abbrev b0 (cBadNumber cBadText cBadWeb cGapError cNoCaterpillar cNoRing cNoRuler cTooMany : Addr) : SM := (cAsg (cVar 8) (mGTup 2 (mGCons (mName 9) (mGCons (mName 10) mGNil))))
abbrev b1 (cBadNumber cBadText cBadWeb cGapError cNoCaterpillar cNoRing cNoRuler cTooMany : Addr) : SM := (cAsg (cIfE (cTest (cOp2 neO (cVar 10) (cC (.str "")))) (cSl (cFz (cLst (cCons (cVar 2) (cCons (cVar 3) cNil)))) cNoP (cP (cCB lenD (cCons (cMT splitF (cVar 10) (cCons (cC (.str " ")) cNil)) cNil)))) (cFz (cLst cNil))) (mName 11))
abbrev b2 (cBadNumber cBadText cBadWeb cGapError cNoCaterpillar cNoRing cNoRuler cTooMany : Addr) : SM := (cIfS (cOr (cNot (cTest (cIsVg cGapError [cBadNumber, cBadText, cBadWeb, cNoCaterpillar, cNoRing, cNoRuler, cTooMany] (cVar 9)))) (cNot (cTest (cIsVg cGapError [cBadNumber, cBadText, cBadWeb, cNoCaterpillar, cNoRing, cNoRuler, cTooMany] (cVar 9))))) (cRet (cC (.bl false))) cNext)
abbrev b3 (cBadNumber cBadText cBadWeb cGapError cNoCaterpillar cNoRing cNoRuler cTooMany : Addr) : SM := (cIfS (cTest (cOp2 neO (cCall (fun ds => if ds.length = 1 then (f_law_kinds cBadNumber cBadText cBadWeb cGapError cNoCaterpillar cNoRing cNoRuler cTooMany) ds else none) (cCons (cVar 9) cNil)) (cFz (cLc [12] (cRng1 (cCons (cCB lenD (cCons (cVar 5) cNil)) cNil)) (mName 12) cYes (law_e0 cBadNumber cBadText cBadWeb cGapError cNoCaterpillar cNoRing cNoRuler cTooMany))))) (cRet (cC (.bl false))) cNext)
abbrev b4 (cBadNumber cBadText cBadWeb cGapError cNoCaterpillar cNoRing cNoRuler cTooMany : Addr) : SM := (cIfS (cTest (cOp2 neO (cCB reprL (cCons (cCall (fun ds => if ds.length = 2 then (f_law_told_of cBadNumber cBadText cBadWeb cGapError cNoCaterpillar cNoRing cNoRuler cTooMany) ds else none) (cCons (cVar 9) (cCons (cVar 10) cNil))) cNil)) (cCB reprL (cCons (cVar 11) cNil)))) (cRet (cC (.bl false))) cNext)
abbrev b5 (cBadNumber cBadText cBadWeb cGapError cNoCaterpillar cNoRing cNoRuler cTooMany : Addr) : SM := (cIfS (cTest (cOp2 neO (cCB reprL (cCons (cCall (fun ds => if ds.length = 2 then (f_law_told_of cBadNumber cBadText cBadWeb cGapError cNoCaterpillar cNoRing cNoRuler cTooMany) ds else none) (cCons (cOp2 idxD (cOp2 idxD (cVar 6) (cVar 7)) (cC (.int 0))) (cCons (cVar 10) cNil))) cNil)) (cCB reprL (cCons (cSl (cFz (cLst (cCons (cVar 4) (cCons (cVar 2) cNil)))) cNoP (cP (cCB lenD (cCons (cVar 11) cNil)))) cNil)))) (cRet (cC (.bl false))) cNext)
abbrev kd (C : Addr) : List D := kindsD (bn := bn) (bt := bt) (bw := bw) (nc := nc) (nr := nr) (nl := nl) (tm := tm) C
/-- the list [k == at for k in range(7)] -/
def ats (i : Nat) : List D := (List.range 7).map fun k => .bl (k == i)
theorem turn_at {e : S} {p : MO} {a b c : D} {rows later : List D} {i : Nat} {C : Addr} {ns : List Str} {ds ds2 due due2 : List D} {w : Str} {er wo du al : S}
    (hC : C ∈ Cs bn bt bw nc nr nl tm)
    (hdu : ∀ er : S, b1 bn bt bw ge nc nr nl tm (LB e p a b c rows later (.v (.int i)) (.v (.tup [.exv C ns ds, .str w])) er (.v (.str w)) du .no al) = .nx (LB e p a b c rows later (.v (.int i)) (.v (.tup [.exv C ns ds, .str w])) er (.v (.str w)) (.v (.lst due)) .no al))
    (hr7 : rows.length = 7)
    (lc : ∀ er wo : S, lcR [12] (mName 12) cYes (law_e0 bn bt bw ge nc nr nl tm) (rngD 0 7) [] (LB e p a b c rows later (.v (.int i)) (.v (.tup [.exv C ns ds, .str w])) er wo (.v (.lst due)) .no al) = .ok (.lst (ats i)) (LB e p a b c rows later (.v (.int i)) (.v (.tup [.exv C ns ds, .str w])) er wo (.v (.lst due)) .no al))
    (kk : neO (.lst (kd (bn := bn) (bt := bt) (bw := bw) (nc := nc) (nr := nr) (nl := nl) (tm := tm) C)) (.lst (ats i)) = some (.bl false))
    (told : f_law_told_of bn bt bw ge nc nr nl tm [.exv C ns ds, .str w] = some (.lst due))
    (ix : idxD (.lst later) (.int i) = some (.tup [.exv C ns ds2, .str w]))
    (told2 : f_law_told_of bn bt bw ge nc nr nl tm [.exv C ns ds2, .str w] = some (.lst due2))
    (sl : slD (.lst [c, a]) none (some (due.length : Nat)) = some (.lst due2)) (h1 : sh due = true) (h2 : sh due2 = true) :
    ∃ er', law_b1 bn bt bw ge nc nr nl tm (LB e p a b c rows later (.v (.int i)) (.v (.tup [.exv C ns ds, .str w])) er wo du .no al) = .nx (LB e p a b c rows later (.v (.int i)) (.v (.tup [.exv C ns ds, .str w])) er' (.v (.str w)) (.v (.lst due)) .no al) := by
  obtain ⟨s1, r1, q1⟩ := sh_at h1
  obtain ⟨s2, r2, q2⟩ := sh_at h2
  have hCg : C ∈ ge :: Cs bn bt bw nc nr nl tm := List.mem_cons_of_mem _ hC
  refine ⟨.v (.exv C ns ds), ?_⟩
  have S0 : b0 bn bt bw ge nc nr nl tm (LB e p a b c rows later (.v (.int i)) (.v (.tup [.exv C ns ds, .str w])) er wo du .no al) = .nx (LB e p a b c rows later (.v (.int i)) (.v (.tup [.exv C ns ds, .str w])) (.v (.exv C ns ds)) (.v (.str w)) du .no al) := by
    rfl
  have S1 := hdu (.v (.exv C ns ds))
  have g := isVg_at (bn := bn) (bt := bt) (bw := bw) (ge := ge) (nc := nc) (nr := nr) (nl := nl) (tm := tm) (C := C) (ns := ns) (ds := ds) (sl := LB e p a b c rows later (.v (.int i)) (.v (.tup [.exv C ns ds, .str w])) (.v (.exv C ns ds)) (.v (.str w)) (.v (.lst due)) .no al) (m := cVar 9) hCg rfl
  have g : cIsVg ge [bn, bt, bw, nc, nr, nl, tm] (cVar 9) (LB e p a b c rows later (.v (.int i)) (.v (.tup [.exv C ns ds, .str w])) (.v (.exv C ns ds)) (.v (.str w)) (.v (.lst due)) .no al) = .ok (.bl true) (LB e p a b c rows later (.v (.int i)) (.v (.tup [.exv C ns ds, .str w])) (.v (.exv C ns ds)) (.v (.str w)) (.v (.lst due)) .no al) := g
  have S2 : b2 bn bt bw ge nc nr nl tm (LB e p a b c rows later (.v (.int i)) (.v (.tup [.exv C ns ds, .str w])) (.v (.exv C ns ds)) (.v (.str w)) (.v (.lst due)) .no al) = .nx (LB e p a b c rows later (.v (.int i)) (.v (.tup [.exv C ns ds, .str w])) (.v (.exv C ns ds)) (.v (.str w)) (.v (.lst due)) .no al) := by
    simp only [↓DL.MSa, ↓DL.MSb, ↓DL.MSc, ↓DL.MSd, ↓DL.MSx, DL.MSe, DL.MSf, DL.MSg, DL.MSt, DL.MSo, Bool.or_true, Bool.or_false, Bool.true_or, Bool.false_or, ifK_t, ifK_f, Bool.not_true, Bool.not_false, decide_true, decide_false, Bool.and_true, Bool.true_and, Bool.and_false, Bool.false_and, List.cons_append, List.nil_append, List.append_nil, List.length_cons, List.length_nil, Nat.reduceAdd, Nat.reduceSub, Nat.reduceEqDiff, ne_eq, not_false_eq_true, not_true_eq_false, Nat.reduceLT, DL.MSy, g]
  have kn := kinds_at (ns := ns) (ds := ds) hCg
  have l7 : lenD [.lst rows] = some (.int 7) := by
    show some (D.int ((rows.length : Nat) : Int)) = _
    rw [hr7] <;> rfl
  have r7 : rngB 7 = true := rfl
  have lc := lc (.v (.exv C ns ds)) (.v (.str w))
  have S3 : b3 bn bt bw ge nc nr nl tm (LB e p a b c rows later (.v (.int i)) (.v (.tup [.exv C ns ds, .str w])) (.v (.exv C ns ds)) (.v (.str w)) (.v (.lst due)) .no al) = .nx (LB e p a b c rows later (.v (.int i)) (.v (.tup [.exv C ns ds, .str w])) (.v (.exv C ns ds)) (.v (.str w)) (.v (.lst due)) .no al) := by
    simp only [↓DL.MSa, ↓DL.MSb, ↓DL.MSc, ↓DL.MSd, ↓DL.MSx, DL.MSe, DL.MSf, DL.MSg, DL.MSt, DL.MSo, Bool.or_true, Bool.or_false, Bool.true_or, Bool.false_or, ifK_t, ifK_f, Bool.not_true, Bool.not_false, decide_true, decide_false, Bool.and_true, Bool.true_and, Bool.and_false, Bool.false_and, List.cons_append, List.nil_append, List.append_nil, List.length_cons, List.length_nil, Nat.reduceAdd, Nat.reduceSub, Nat.reduceEqDiff, ne_eq, not_false_eq_true, not_true_eq_false, Nat.reduceLT, DL.MSy, kn, l7, r7, lc, kk]
  have S4 : b4 bn bt bw ge nc nr nl tm (LB e p a b c rows later (.v (.int i)) (.v (.tup [.exv C ns ds, .str w])) (.v (.exv C ns ds)) (.v (.str w)) (.v (.lst due)) .no al) = .nx (LB e p a b c rows later (.v (.int i)) (.v (.tup [.exv C ns ds, .str w])) (.v (.exv C ns ds)) (.v (.str w)) (.v (.lst due)) .no al) := by
    simp only [↓DL.MSa, ↓DL.MSb, ↓DL.MSc, ↓DL.MSd, ↓DL.MSx, DL.MSe, DL.MSf, DL.MSg, DL.MSt, DL.MSo, Bool.or_true, Bool.or_false, Bool.true_or, Bool.false_or, ifK_t, ifK_f, Bool.not_true, Bool.not_false, decide_true, decide_false, Bool.and_true, Bool.true_and, Bool.and_false, Bool.false_and, List.cons_append, List.nil_append, List.append_nil, List.length_cons, List.length_nil, Nat.reduceAdd, Nat.reduceSub, Nat.reduceEqDiff, ne_eq, not_false_eq_true, not_true_eq_false, Nat.reduceLT, DL.MSy, told, r1, q1]
  have i0 : idxD (.tup [.exv C ns ds2, .str w]) (.int 0) = some (.exv C ns ds2) := rfl
  have ld : lenD [.lst due] = some (.int (due.length : Nat)) := rfl
  have S5 : b5 bn bt bw ge nc nr nl tm (LB e p a b c rows later (.v (.int i)) (.v (.tup [.exv C ns ds, .str w])) (.v (.exv C ns ds)) (.v (.str w)) (.v (.lst due)) .no al) = .nx (LB e p a b c rows later (.v (.int i)) (.v (.tup [.exv C ns ds, .str w])) (.v (.exv C ns ds)) (.v (.str w)) (.v (.lst due)) .no al) := by
    simp only [↓DL.MSa, ↓DL.MSb, ↓DL.MSc, ↓DL.MSd, ↓DL.MSx, DL.MSe, DL.MSf, DL.MSg, DL.MSt, DL.MSo, Bool.or_true, Bool.or_false, Bool.true_or, Bool.false_or, ifK_t, ifK_f, Bool.not_true, Bool.not_false, decide_true, decide_false, Bool.and_true, Bool.true_and, Bool.and_false, Bool.false_and, List.cons_append, List.nil_append, List.append_nil, List.length_cons, List.length_nil, Nat.reduceAdd, Nat.reduceSub, Nat.reduceEqDiff, ne_eq, not_false_eq_true, not_true_eq_false, Nat.reduceLT, DL.MSy, ix, i0, told2, ld, sl, r2, q2]
  exact (seq_nx S0).trans ((seq_nx S1).trans ((seq_nx S2).trans ((seq_nx S3).trans ((seq_nx S4).trans S5))))
end
end Ke.W
set_option linter.all false
set_option autoImplicit false
set_option maxRecDepth 100000
set_option maxHeartbeats 2000000

/-! Ke4: the law. -/
namespace Ke.W
open DL PySem L2
section
variable {bn bt bw ge nc nr nl tm : Addr}
theorem kd_all (nd : (ge :: Cs bn bt bw nc nr nl tm).Nodup) : kd (bn := bn) (bt := bt) (bw := bw) (nc := nc) (nr := nr) (nl := nl) (tm := tm) bn = ats 0 ∧ kd (bn := bn) (bt := bt) (bw := bw) (nc := nc) (nr := nr) (nl := nl) (tm := tm) bt = ats 1 ∧ kd (bn := bn) (bt := bt) (bw := bw) (nc := nc) (nr := nr) (nl := nl) (tm := tm) bw = ats 2 ∧
    kd (bn := bn) (bt := bt) (bw := bw) (nc := nc) (nr := nr) (nl := nl) (tm := tm) nc = ats 3 ∧ kd (bn := bn) (bt := bt) (bw := bw) (nc := nc) (nr := nr) (nl := nl) (tm := tm) nr = ats 4 ∧ kd (bn := bn) (bt := bt) (bw := bw) (nc := nc) (nr := nr) (nl := nl) (tm := tm) nl = ats 5 ∧ kd (bn := bn) (bt := bt) (bw := bw) (nc := nc) (nr := nr) (nl := nl) (tm := tm) tm = ats 6 ∧
    kd (bn := bn) (bt := bt) (bw := bw) (nc := nc) (nr := nr) (nl := nl) (tm := tm) ge = ats 7 := by
  simp only [List.nodup_cons, List.mem_cons, List.not_mem_nil, or_false, not_or, not_false_eq_true, List.nodup_nil, and_true, true_and] at nd
  obtain ⟨⟨a1, a2, a3, a4, a5, a6, a7⟩, ⟨b1, b2, b3, b4, b5, b6⟩, ⟨c1, c2, c3, c4, c5⟩, ⟨d1, d2, d3, d4⟩, ⟨e1, e2, e3⟩, ⟨f1, f2⟩, g1⟩ := nd
  have F : ∀ {x y : Addr}, ¬ x = y → decide (x = y) = false := fun h => decide_eq_false h
  have G : ∀ {x y : Addr}, ¬ x = y → decide (y = x) = false := fun h => decide_eq_false fun z => h z.symm
  have T : ∀ {x : Addr}, decide (x = x) = true := fun {x} => decide_eq_true rfl
  unfold kd kindsD
  simp only [List.map_cons, List.map_nil, T, F a1, F a2, F a3, F a4, F a5, F a6, F a7, F b1, F b2, F b3, F b4, F b5, F b6, F c1, F c2, F c3, F c4, F c5, F d1, F d2, F d3, F d4, F e1, F e2, F e3, F f1, F f2, F g1,
    G b1, G b2, G b3, G b4, G b5, G b6, G c1, G c2, G c3, G c4, G c5, G d1, G d2, G d3, G d4, G e1, G e2, G e3, G f1, G f2, G g1]
  exact ⟨rfl, rfl, rfl, rfl, rfl, rfl, rfl, rfl⟩
theorem ats_ne : neO (.lst (ats 0)) (.lst (ats 0)) = some (.bl false) ∧ neO (.lst (ats 1)) (.lst (ats 1)) = some (.bl false) ∧ neO (.lst (ats 2)) (.lst (ats 2)) = some (.bl false) ∧ neO (.lst (ats 3)) (.lst (ats 3)) = some (.bl false) ∧
    neO (.lst (ats 4)) (.lst (ats 4)) = some (.bl false) ∧ neO (.lst (ats 5)) (.lst (ats 5)) = some (.bl false) ∧ neO (.lst (ats 6)) (.lst (ats 6)) = some (.bl false) := by
  refine ⟨?_, ?_, ?_, ?_, ?_, ?_, ?_⟩ <;> kernel_rfl
theorem sp1 : splitF "value" [.str " "] = some (.lst (([("value" : Str)]).map D.str)) := by kernel_rfl
theorem sp2 : splitF "line what" [.str " "] = some (.lst (([("line" : Str), "what"]).map D.str)) := by kernel_rfl
theorem sp3 : splitF "what" [.str " "] = some (.lst (([("what" : Str)]).map D.str)) := by kernel_rfl
theorem sp4 : splitF "most" [.str " "] = some (.lst (([("most" : Str)]).map D.str)) := by kernel_rfl
theorem lk1 (f : Str) (h : (f == f) = true) (a : D) : lookD [f] [a] f = some a := by
  unfold lookD
  rw [h] <;> rfl
theorem lk2 (a b : D) : ([("line" : Str), "what"]).map (lookD ["what", "line"] [b, a]) = ([a, b] : List D).map some := by kernel_rfl
variable {e : S} {p : MO} {a b c : D} {er wo du : S}
abbrev RO (bn bt bw nc nr nl tm : Addr) (a b : D) : List D := rowsD bn bt bw nc nr nl tm a b
abbrev LC (bn bt bw nc nr nl tm : Addr) (e : S) (p : MO) (a b c : D) (at_ row er wo du : S) : List S := LB e p a b c (RO bn bt bw nc nr nl tm a b) (RO bn bt bw nc nr nl tm c a) at_ row er wo du .no .no
theorem turns (nd : (ge :: Cs bn bt bw nc nr nl tm).Nodup) (ha : a ∈ things) (hb : b ∈ things) (hc : c ∈ things) : ∀ (i : Nat) (row : D), (RO bn bt bw nc nr nl tm a b)[i]? = some row → ∀ er wo du : S,
    ∃ er' wo' du', law_b1 bn bt bw ge nc nr nl tm (LC bn bt bw nc nr nl tm e p a b c (.v (.int i)) (.v row) er wo du) = .nx (LC bn bt bw nc nr nl tm e p a b c (.v (.int i)) (.v row) er' wo' du') := by
  obtain ⟨k0, k1, k2, k3, k4, k5, k6, _⟩ := kd_all nd
  obtain ⟨n0, n1, n2, n3, n4, n5, n6⟩ := ats_ne
  have fv : ∀ wd ∈ [("value" : Str)], wd ∈ Fs := by simp
  have fl : ∀ wd ∈ [("line" : Str), "what"], wd ∈ Fs := by simp
  have fw : ∀ wd ∈ [("what" : Str)], wd ∈ Fs := by simp
  have fm : ∀ wd ∈ [("most" : Str)], wd ∈ Fs := by simp
  have shA := List.all_eq_true.mp sh1 a ha
  have shC := List.all_eq_true.mp sh1 c hc
  have shAB := List.all_eq_true.mp (List.all_eq_true.mp sh2 a ha) b hb
  have shCA := List.all_eq_true.mp (List.all_eq_true.mp sh2 c hc) a ha
  have s0 : slD (.lst [c, a]) none (some (0 : Nat)) = some (.lst []) := rfl
  have s1 : slD (.lst [c, a]) none (some (1 : Nat)) = some (.lst [c]) := rfl
  have s2 : slD (.lst [c, a]) none (some (2 : Nat)) = some (.lst [c, a]) := rfl
  intro i row hi er wo du
  match i, hi with
  | 0, hi =>
    cases hi
    obtain ⟨er', z⟩ := turn_at (bn := bn) (bt := bt) (bw := bw) (ge := ge) (nc := nc) (nr := nr) (nl := nl) (tm := tm) (e := e) (p := p) (a := a) (b := b) (c := c) (rows := RO bn bt bw nc nr nl tm a b) (later := RO bn bt bw nc nr nl tm c a) (i := 0) (C := bn) (ns := ["value"]) (ds := [a]) (ds2 := [c]) (due := [a]) (due2 := [c]) (w := "value") (er := er) (wo := wo) (du := du) (al := .no)
      (by simp) (fun _ => by kernel_rfl) rfl (fun _ _ => by kernel_rfl) (by rw [k0]; exact n0) (told_at (by simp) sp1 fv (by kernel_rfl) (by decide)) rfl (told_at (by simp) sp1 fv (by kernel_rfl) (by decide)) s1 shA shC
    exact ⟨_, _, _, z⟩
  | 1, hi =>
    cases hi
    obtain ⟨er', z⟩ := turn_at (bn := bn) (bt := bt) (bw := bw) (ge := ge) (nc := nc) (nr := nr) (nl := nl) (tm := tm) (e := e) (p := p) (a := a) (b := b) (c := c) (rows := RO bn bt bw nc nr nl tm a b) (later := RO bn bt bw nc nr nl tm c a) (i := 1) (C := bt) (ns := ["what", "line"]) (ds := [b, a]) (ds2 := [a, c]) (due := [a, b]) (due2 := [c, a]) (w := "line what") (er := er) (wo := wo) (du := du) (al := .no)
      (by simp) (fun _ => by kernel_rfl) rfl (fun _ _ => by kernel_rfl) (by rw [k1]; exact n1) (told_at (by simp) sp2 fl (lk2 a b) (by decide)) rfl (told_at (by simp) sp2 fl (lk2 c a) (by decide)) s2 shAB shCA
    exact ⟨_, _, _, z⟩
  | 2, hi =>
    cases hi
    obtain ⟨er', z⟩ := turn_at (bn := bn) (bt := bt) (bw := bw) (ge := ge) (nc := nc) (nr := nr) (nl := nl) (tm := tm) (e := e) (p := p) (a := a) (b := b) (c := c) (rows := RO bn bt bw nc nr nl tm a b) (later := RO bn bt bw nc nr nl tm c a) (i := 2) (C := bw) (ns := ["what"]) (ds := [a]) (ds2 := [c]) (due := [a]) (due2 := [c]) (w := "what") (er := er) (wo := wo) (du := du) (al := .no)
      (by simp) (fun _ => by kernel_rfl) rfl (fun _ _ => by kernel_rfl) (by rw [k2]; exact n2) (told_at (by simp) sp3 fw (by kernel_rfl) (by decide)) rfl (told_at (by simp) sp3 fw (by kernel_rfl) (by decide)) s1 shA shC
    exact ⟨_, _, _, z⟩
  | 3, hi =>
    cases hi
    obtain ⟨er', z⟩ := turn_at (bn := bn) (bt := bt) (bw := bw) (ge := ge) (nc := nc) (nr := nr) (nl := nl) (tm := tm) (e := e) (p := p) (a := a) (b := b) (c := c) (rows := RO bn bt bw nc nr nl tm a b) (later := RO bn bt bw nc nr nl tm c a) (i := 3) (C := nc) (ns := []) (ds := []) (ds2 := []) (due := []) (due2 := []) (w := "") (er := er) (wo := wo) (du := du) (al := .no)
      (by simp) (fun _ => by kernel_rfl) rfl (fun _ _ => by kernel_rfl) (by rw [k3]; exact n3) told_nil rfl told_nil s0 sh0 sh0
    exact ⟨_, _, _, z⟩
  | 4, hi =>
    cases hi
    obtain ⟨er', z⟩ := turn_at (bn := bn) (bt := bt) (bw := bw) (ge := ge) (nc := nc) (nr := nr) (nl := nl) (tm := tm) (e := e) (p := p) (a := a) (b := b) (c := c) (rows := RO bn bt bw nc nr nl tm a b) (later := RO bn bt bw nc nr nl tm c a) (i := 4) (C := nr) (ns := []) (ds := []) (ds2 := []) (due := []) (due2 := []) (w := "") (er := er) (wo := wo) (du := du) (al := .no)
      (by simp) (fun _ => by kernel_rfl) rfl (fun _ _ => by kernel_rfl) (by rw [k4]; exact n4) told_nil rfl told_nil s0 sh0 sh0
    exact ⟨_, _, _, z⟩
  | 5, hi =>
    cases hi
    obtain ⟨er', z⟩ := turn_at (bn := bn) (bt := bt) (bw := bw) (ge := ge) (nc := nc) (nr := nr) (nl := nl) (tm := tm) (e := e) (p := p) (a := a) (b := b) (c := c) (rows := RO bn bt bw nc nr nl tm a b) (later := RO bn bt bw nc nr nl tm c a) (i := 5) (C := nl) (ns := []) (ds := []) (ds2 := []) (due := []) (due2 := []) (w := "") (er := er) (wo := wo) (du := du) (al := .no)
      (by simp) (fun _ => by kernel_rfl) rfl (fun _ _ => by kernel_rfl) (by rw [k5]; exact n5) told_nil rfl told_nil s0 sh0 sh0
    exact ⟨_, _, _, z⟩
  | 6, hi =>
    cases hi
    obtain ⟨er', z⟩ := turn_at (bn := bn) (bt := bt) (bw := bw) (ge := ge) (nc := nc) (nr := nr) (nl := nl) (tm := tm) (e := e) (p := p) (a := a) (b := b) (c := c) (rows := RO bn bt bw nc nr nl tm a b) (later := RO bn bt bw nc nr nl tm c a) (i := 6) (C := tm) (ns := ["most"]) (ds := [a]) (ds2 := [c]) (due := [a]) (due2 := [c]) (w := "most") (er := er) (wo := wo) (du := du) (al := .no)
      (by simp) (fun _ => by kernel_rfl) rfl (fun _ _ => by kernel_rfl) (by rw [k6]; exact n6) (told_at (by simp) sp4 fm (by kernel_rfl) (by decide)) rfl (told_at (by simp) sp4 fm (by kernel_rfl) (by decide)) s1 shA shC
    exact ⟨_, _, _, z⟩
  | i + 7, hi => cases hi
end
end Ke.W
set_option linter.all false
set_option autoImplicit false
set_option maxRecDepth 100000
set_option maxHeartbeats 2000000

namespace Ke
open DL PySem L2
theorem law_true (cBadNumber cBadText cBadWeb cGapError cNoCaterpillar cNoRing cNoRuler cTooMany : Addr) (nd : [cGapError, cBadNumber, cBadText, cBadWeb, cNoCaterpillar, cNoRing, cNoRuler, cTooMany].Nodup) (ns : List Int) (hl : ns.length ≤ 63) :
    f_law cBadNumber cBadText cBadWeb cGapError cNoCaterpillar cNoRing cNoRuler cTooMany [.ext ns] = some (.bl true) := by
  obtain ⟨e1, ok⟩ := W.pot_at hl
  obtain ⟨a, ha, p1, e2, ok1⟩ := W.thing_at ok
  obtain ⟨b, hb, p2, e3, ok2⟩ := W.thing_at ok1
  obtain ⟨c, hc, p3, e4, ok3⟩ := W.thing_at ok2
  have rs := W.rows_at cBadNumber cBadText cBadWeb cNoCaterpillar cNoRing cNoRuler cTooMany a b
  have rs2 := W.rows_at cBadNumber cBadText cBadWeb cNoCaterpillar cNoRing cNoRuler cTooMany c a
  obtain ⟨_, _, _, _, _, _, _, kg⟩ := W.kd_all nd
  obtain ⟨s2, e5, r_, w_, x_, y_, z_, rfl⟩ := for_inv (g := mGTup 2 (mGCons (mName 7) (mGCons (mName 8) mGNil))) (b := law_b1 cBadNumber cBadText cBadWeb cGapError cNoCaterpillar cNoRing cNoRuler cTooMany)
    (fun _ s => ∃ r w x y z, s = W.LC cBadNumber cBadText cBadWeb cNoCaterpillar cNoRing cNoRuler cTooMany (.v (.ext ns)) p3 a b c r w x y z) (enuD 0 (W.RO cBadNumber cBadText cBadWeb cNoCaterpillar cNoRing cNoRuler cTooMany a b)) 0 (W.LC cBadNumber cBadText cBadWeb cNoCaterpillar cNoRing cNoRuler cTooMany (.v (.ext ns)) p3 a b c .no .no .no .no .no) ⟨_, _, _, _, _, rfl⟩ fun i d s hi hs => by
    obtain ⟨r, w, x, y, z, rfl⟩ := hs
    obtain ⟨row, hr, rfl⟩ : ∃ row, (W.RO cBadNumber cBadText cBadWeb cNoCaterpillar cNoRing cNoRuler cTooMany a b)[i]? = some row ∧ d = .tup [.int (i : Nat), row] := by
      match i, hi with
      | 0, hi => cases hi; exact ⟨_, rfl, rfl⟩
      | 1, hi => cases hi; exact ⟨_, rfl, rfl⟩
      | 2, hi => cases hi; exact ⟨_, rfl, rfl⟩
      | 3, hi => cases hi; exact ⟨_, rfl, rfl⟩
      | 4, hi => cases hi; exact ⟨_, rfl, rfl⟩
      | 5, hi => cases hi; exact ⟨_, rfl, rfl⟩
      | 6, hi => cases hi; exact ⟨_, rfl, rfl⟩
      | i + 7, hi => cases hi
    obtain ⟨er', wo', du', t⟩ := W.turns (ge := cGapError) (e := .v (.ext ns)) (p := p3) nd ha hb hc i row hr x y z
    exact ⟨W.LC cBadNumber cBadText cBadWeb cNoCaterpillar cNoRing cNoRuler cTooMany (.v (.ext ns)) p3 a b c (.v (.int (i : Nat))) (.v row) x y z, _, rfl, .inl t, _, _, _, _, _, rfl⟩
  have run : ∀ s, m_law cBadNumber cBadText cBadWeb cGapError cNoCaterpillar cNoRing cNoRuler cTooMany [.v (.ext ns), .no, .no, .no, .no, .no, .no, .no, .no, .no, .no, .no, .no, .no] = .rt (.bl true) s → f_law cBadNumber cBadText cBadWeb cGapError cNoCaterpillar cNoRing cNoRuler cTooMany [.ext ns] = some (.bl true) := fun s e => runP_rt e
  have e5 : forR (mGTup 2 (mGCons (mName 7) (mGCons (mName 8) mGNil))) (law_b1 cBadNumber cBadText cBadWeb cGapError cNoCaterpillar cNoRing cNoRuler cTooMany) (enuD 0 (W.rowsD cBadNumber cBadText cBadWeb cNoCaterpillar cNoRing cNoRuler cTooMany a b))
      [.v (.ext ns), .o p3, .v a, .v b, .v c, .v (.lst (W.rowsD cBadNumber cBadText cBadWeb cNoCaterpillar cNoRing cNoRuler cTooMany a b)), .v (.lst (W.rowsD cBadNumber cBadText cBadWeb cNoCaterpillar cNoRing cNoRuler cTooMany c a)), .no, .no, .no, .no, .no, .no, .no]
      = .nx [.v (.ext ns), .o p3, .v a, .v b, .v c, .v (.lst (W.rowsD cBadNumber cBadText cBadWeb cNoCaterpillar cNoRing cNoRuler cTooMany a b)), .v (.lst (W.rowsD cBadNumber cBadText cBadWeb cNoCaterpillar cNoRing cNoRuler cTooMany c a)), r_, w_, x_, y_, z_, .no, .no] := e5
  have kn := W.kinds_at (bn := cBadNumber) (bt := cBadText) (bw := cBadWeb) (ge := cGapError) (nc := cNoCaterpillar) (nr := cNoRing) (nl := cNoRuler) (tm := cTooMany) (C := cGapError) (ns := []) (ds := []) List.mem_cons_self
  have kn : f_law_kinds cBadNumber cBadText cBadWeb cGapError cNoCaterpillar cNoRing cNoRuler cTooMany [.exv cGapError [] []] = some (.lst (W.kd (bn := cBadNumber) (bt := cBadText) (bw := cBadWeb) (nc := cNoCaterpillar) (nr := cNoRing) (nl := cNoRuler) (tm := cTooMany) cGapError)) := kn
  rw [kg] at kn
  have nin : ninO (.bl true) (.lst (W.ats 7)) = some (.bl true) := by kernel_rfl
  have xv : ∀ sl : List S, cXv0 cGapError sl = .ok (.exv cGapError [] []) sl := fun _ => rfl
  have g := fun (sl : List S) (h : cVar 13 sl = .ok (.exv cGapError [] []) sl) => W.isVg_at (bn := cBadNumber) (bt := cBadText) (bw := cBadWeb) (ge := cGapError) (nc := cNoCaterpillar) (nr := cNoRing) (nl := cNoRuler) (tm := cTooMany) (C := cGapError) (ns := []) (ds := []) (sl := sl) (m := cVar 13) List.mem_cons_self h
  have g := g [.v (.ext ns), .o p3, .v a, .v b, .v c, .v (.lst (W.rowsD cBadNumber cBadText cBadWeb cNoCaterpillar cNoRing cNoRuler cTooMany a b)), .v (.lst (W.rowsD cBadNumber cBadText cBadWeb cNoCaterpillar cNoRing cNoRuler cTooMany c a)), r_, w_, x_, y_, z_, .no, .v (.exv cGapError [] [])] rfl
  have g : cIsVg cGapError [cBadNumber, cBadText, cBadWeb, cNoCaterpillar, cNoRing, cNoRuler, cTooMany] (cVar 13) [.v (.ext ns), .o p3, .v a, .v b, .v c, .v (.lst (W.rowsD cBadNumber cBadText cBadWeb cNoCaterpillar cNoRing cNoRuler cTooMany a b)), .v (.lst (W.rowsD cBadNumber cBadText cBadWeb cNoCaterpillar cNoRing cNoRuler cTooMany c a)), r_, w_, x_, y_, z_, .no, .v (.exv cGapError [] [])] = _ := g
  refine run [.v (.ext ns), .o p3, .v a, .v b, .v c, .v (.lst (W.rowsD cBadNumber cBadText cBadWeb cNoCaterpillar cNoRing cNoRuler cTooMany a b)), .v (.lst (W.rowsD cBadNumber cBadText cBadWeb cNoCaterpillar cNoRing cNoRuler cTooMany c a)), r_, w_, x_, y_, z_, .no, .v (.exv cGapError [] [])] ?_
  have en : ∀ sl : List S, (DL.seqD (.lst (W.rowsD cBadNumber cBadText cBadWeb cNoCaterpillar cNoRing cNoRuler cTooMany a b))) = some (W.rowsD cBadNumber cBadText cBadWeb cNoCaterpillar cNoRing cNoRuler cTooMany a b) := fun _ => rfl
  have en := en []
  unfold m_law
  simp only [↓DL.MSa, ↓DL.MSb, ↓DL.MSc, ↓DL.MSd, ↓DL.MSx, DL.MSe, DL.MSf, DL.MSg, DL.MSt, DL.MSo, Bool.or_true, Bool.or_false, Bool.true_or, Bool.false_or, ifK_t, ifK_f, Bool.not_true, Bool.not_false, decide_true, decide_false, Bool.and_true, Bool.true_and, Bool.and_false, Bool.false_and, List.cons_append, List.nil_append, List.append_nil, List.length_cons, List.length_nil, Nat.reduceAdd, Nat.reduceSub, Nat.reduceEqDiff, ne_eq, not_false_eq_true, not_true_eq_false, Nat.reduceLT, DL.MSy, e1, e2, e3, e4, rs, rs2, en, e5, xv, g, kn, nin]
end Ke
set_option linter.all false
set_option maxRecDepth 100000
set_option maxHeartbeats 0
namespace Ke
open PySem PySem.Spec PyProof.Rows L2 DL
def d_law_pot : He.DefD := ⟨("_law_pot", none), "_law_pot", "_law_pot", defArgs s_law_pot, defBody s_law_pot, defScope s_law_pot, [], []⟩
def d_law_draw : He.DefD := ⟨("_law_draw", none), "_law_draw", "_law_draw", defArgs s_law_draw, defBody s_law_draw, defScope s_law_draw, [], []⟩
def d_law_pick : He.DefD := ⟨("_law_pick", none), "_law_pick", "_law_pick", defArgs s_law_pick, defBody s_law_pick, defScope s_law_pick, [], []⟩
def d_law_thing : He.DefD := ⟨("_law_thing", none), "_law_thing", "_law_thing", defArgs s_law_thing, defBody s_law_thing, defScope s_law_thing, [], []⟩
def d_law_kinds : He.DefD := ⟨("_law_kinds", none), "_law_kinds", "_law_kinds", defArgs s_law_kinds, defBody s_law_kinds, defScope s_law_kinds, [], []⟩
def d_law_rows : He.DefD := ⟨("_law_rows", none), "_law_rows", "_law_rows", defArgs s_law_rows, defBody s_law_rows, defScope s_law_rows, [], []⟩
def d_law_told_of : He.DefD := ⟨("_law_told_of", none), "_law_told_of", "_law_told_of", defArgs s_law_told_of, defBody s_law_told_of, defScope s_law_told_of, [], []⟩
def d_law : He.DefD := ⟨("law", none), "law", "law", defArgs s_law, defBody s_law, defScope s_law, [], []⟩
def fn : List He.DefD := [d_law_pot, d_law_draw, d_law_pick, d_law_thing, d_law_kinds, d_law_rows, d_law_told_of, d_law]
def fa : List He.Fa := ([.glo "_law_pot", .glo "_law_draw", .glo "_law_pick", .glo "_law_thing", .glo "_law_kinds", .glo "_law_rows", .glo "_law_told_of", .glo "law", .free "len", .free "abs", .free "int", .free "range", .free "isinstance", .free "enumerate", .free "repr", .free "super", .free "ValueError", .glo "BadNumber", .exm "BadNumber" "BadNumber" true, .exm "BadNumber" "BadText" false, .exm "BadNumber" "BadWeb" false, .exm "BadNumber" "NoCaterpillar" false, .exm "BadNumber" "NoRing" false, .exm "BadNumber" "NoRuler" false, .exm "BadNumber" "TooMany" false, .glo "BadText", .exm "BadText" "BadNumber" false, .exm "BadText" "BadText" true, .exm "BadText" "BadWeb" false, .exm "BadText" "NoCaterpillar" false] : List He.Fa) ++ ([.exm "BadText" "NoRing" false, .exm "BadText" "NoRuler" false, .exm "BadText" "TooMany" false, .glo "BadWeb", .exm "BadWeb" "BadNumber" false, .exm "BadWeb" "BadText" false, .exm "BadWeb" "BadWeb" true, .exm "BadWeb" "NoCaterpillar" false, .exm "BadWeb" "NoRing" false, .exm "BadWeb" "NoRuler" false, .exm "BadWeb" "TooMany" false, .glo "NoCaterpillar", .exm "NoCaterpillar" "BadNumber" false, .exm "NoCaterpillar" "BadText" false, .exm "NoCaterpillar" "BadWeb" false, .exm "NoCaterpillar" "NoCaterpillar" true, .exm "NoCaterpillar" "NoRing" false, .exm "NoCaterpillar" "NoRuler" false, .exm "NoCaterpillar" "TooMany" false, .glo "NoRing", .exm "NoRing" "BadNumber" false, .exm "NoRing" "BadText" false, .exm "NoRing" "BadWeb" false, .exm "NoRing" "NoCaterpillar" false, .exm "NoRing" "NoRing" true, .exm "NoRing" "NoRuler" false, .exm "NoRing" "TooMany" false, .glo "NoRuler", .exm "NoRuler" "BadNumber" false, .exm "NoRuler" "BadText" false] : List He.Fa) ++ ([.exm "NoRuler" "BadWeb" false, .exm "NoRuler" "NoCaterpillar" false, .exm "NoRuler" "NoRing" false, .exm "NoRuler" "NoRuler" true, .exm "NoRuler" "TooMany" false, .glo "TooMany", .exm "TooMany" "BadNumber" false, .exm "TooMany" "BadText" false, .exm "TooMany" "BadWeb" false, .exm "TooMany" "NoCaterpillar" false, .exm "TooMany" "NoRing" false, .exm "TooMany" "NoRuler" false, .exm "TooMany" "TooMany" true, .glo "GapError", .exc "GapError"] : List He.Fa)
abbrev R : PySem.W.OpenRow := PySem.W.OpenLaw.row PySem.Challenge.rw_gaplabels_k00_errors_alone
def i_BadNumber : DL.IniD := ⟨"BadNumber", "BadNumber.__init__", defArgs (inC 2 0), defBody (inC 2 0), defScope (inC 2 0), ["value"]⟩
def i_BadText : DL.IniD := ⟨"BadText", "BadText.__init__", defArgs (inC 3 0), defBody (inC 3 0), defScope (inC 3 0), ["line", "what"]⟩
def i_BadWeb : DL.IniD := ⟨"BadWeb", "BadWeb.__init__", defArgs (inC 4 0), defBody (inC 4 0), defScope (inC 4 0), ["what"]⟩
def i_NoCaterpillar : DL.IniD := ⟨"NoCaterpillar", "NoCaterpillar.__init__", defArgs (inC 7 0), defBody (inC 7 0), defScope (inC 7 0), []⟩
def i_NoRing : DL.IniD := ⟨"NoRing", "NoRing.__init__", defArgs (inC 6 0), defBody (inC 6 0), defScope (inC 6 0), []⟩
def i_NoRuler : DL.IniD := ⟨"NoRuler", "NoRuler.__init__", defArgs (inC 5 0), defBody (inC 5 0), defScope (inC 5 0), []⟩
def i_TooMany : DL.IniD := ⟨"TooMany", "TooMany.__init__", defArgs (inC 8 0), defBody (inC 8 0), defScope (inC 8 0), ["most"]⟩
def ini : List DL.IniD := [i_BadNumber, i_BadText, i_BadWeb, i_NoCaterpillar, i_NoRing, i_NoRuler, i_TooMany]
def ex (K : PySem.W.Frag) : Bool := (K.lookup sysModules).isSome && DL.xvB K (He.ga K "GapError") [He.ga K "BadNumber", He.ga K "BadText", He.ga K "BadWeb", He.ga K "NoCaterpillar", He.ga K "NoRing", He.ga K "NoRuler", He.ga K "TooMany"] ["value", "line", "what", "most"]
abbrev file : Str := (PySem.Challenge.rw_gaplabels_k00_errors_alone).prog.main.file
abbrev hk : PySem.W.Hook := DL.hookY 6 fa fn [] ex file ini
def ob (s : PySem.W.SharedT) : DL.AlY := DL.obsY 6 fa fn [] ex file ini (HandSHeadRun.getT s)
theorem ob_eq (s : PySem.W.SharedT) : ob s = hk.obs s.abs := DL.obsY_eq (HandSHeadRun.getT_eq s)
abbrev loose : List Str := ["GapError", "BadNumber", "BadText", "BadWeb", "NoRuler", "NoRing", "NoCaterpillar", "TooMany", "_law_pot", "_law_draw", "_law_pick", "_law_thing", "_law_kinds", "_law_rows", "_law_told_of"]
theorem run (w : World) : HandSHeadRun.RunEq R (PySem.W.view R.prog [17]) hk ob 4000 loose w := by
  intro os
  kernel_rfl
theorem facts {P : Program} {w : World} {K : PySem.W.Frag} {h : Heap} {mg : Str → Option Value} {f : Addr} (X : K.In h) (G : h.Ns mainGlobals mg) (hfa : mg ("law" : Str) = some (.ref f)) (c : He.SaysD fa fn K) (ce : ex K = true) (cI : ∀ (k : Nat) (d : DL.IniD), ini[k]? = some d → ∃ cc cda fd, DL.IniOk K P d cc cda fd) (htop : (P.main.scope.names.lookup ("super" : Str)).isSome = false) :
    ∃ fd : FuncData, (∀ (s : Shared) (v : Value), BindsTo s fd ⟨[v], []⟩ [("script", v)]) ∧ ∀ base : Heap, K.In base → base.Ns mainGlobals mg → FnOkC P w K mg base CX0 4 f fd ["script"] (spP K 1 (f_law (He.ga K "BadNumber") (He.ga K "BadText") (He.ga K "BadWeb") (He.ga K "GapError") (He.ga K "NoCaterpillar") (He.ga K "NoRing") (He.ga K "NoRuler") (He.ga K "TooMany"))) := by
  obtain ⟨fd_law_pot, F_law_pot⟩ := c.def_ 0 (d := d_law_pot) rfl
  have g_law_pot := He.glo_ok X G (c.fact 0 (f := .glo "_law_pot") rfl)
  obtain ⟨fd_law_draw, F_law_draw⟩ := c.def_ 1 (d := d_law_draw) rfl
  have g_law_draw := He.glo_ok X G (c.fact 1 (f := .glo "_law_draw") rfl)
  obtain ⟨fd_law_pick, F_law_pick⟩ := c.def_ 2 (d := d_law_pick) rfl
  have g_law_pick := He.glo_ok X G (c.fact 2 (f := .glo "_law_pick") rfl)
  obtain ⟨fd_law_thing, F_law_thing⟩ := c.def_ 3 (d := d_law_thing) rfl
  have g_law_thing := He.glo_ok X G (c.fact 3 (f := .glo "_law_thing") rfl)
  obtain ⟨fd_law_kinds, F_law_kinds⟩ := c.def_ 4 (d := d_law_kinds) rfl
  have g_law_kinds := He.glo_ok X G (c.fact 4 (f := .glo "_law_kinds") rfl)
  obtain ⟨fd_law_rows, F_law_rows⟩ := c.def_ 5 (d := d_law_rows) rfl
  have g_law_rows := He.glo_ok X G (c.fact 5 (f := .glo "_law_rows") rfl)
  obtain ⟨fd_law_told_of, F_law_told_of⟩ := c.def_ 6 (d := d_law_told_of) rfl
  have g_law_told_of := He.glo_ok X G (c.fact 6 (f := .glo "_law_told_of") rfl)
  obtain ⟨fd_law, F_law⟩ := c.def_ 7 (d := d_law) rfl
  have g_law := He.glo_ok X G (c.fact 7 (f := .glo "law") rfl)
  have Gm0 : Gm mg := ⟨He.free_ok X G (c.fact 8 (f := .free "len") rfl), He.free_ok X G (c.fact 9 (f := .free "abs") rfl), He.free_ok X G (c.fact 10 (f := .free "int") rfl), He.free_ok X G (c.fact 11 (f := .free "range") rfl), He.free_ok X G (c.fact 12 (f := .free "isinstance") rfl), He.free_ok X G (c.fact 13 (f := .free "enumerate") rfl), He.free_ok X G (c.fact 14 (f := .free "repr") rfl), He.free_ok X G (c.fact 15 (f := .free "super") rfl), He.free_ok X G (c.fact 16 (f := .free "ValueError") rfl)⟩
  obtain ⟨cc_BadNumber, cda_BadNumber, fdi_BadNumber, I_BadNumber⟩ := cI 0 i_BadNumber rfl
  have ga_BadNumber := He.glo_ok X G (c.fact 17 (f := .glo "BadNumber") rfl)
  obtain ⟨cc_BadText, cda_BadText, fdi_BadText, I_BadText⟩ := cI 1 i_BadText rfl
  have ga_BadText := He.glo_ok X G (c.fact 25 (f := .glo "BadText") rfl)
  obtain ⟨cc_BadWeb, cda_BadWeb, fdi_BadWeb, I_BadWeb⟩ := cI 2 i_BadWeb rfl
  have ga_BadWeb := He.glo_ok X G (c.fact 33 (f := .glo "BadWeb") rfl)
  obtain ⟨cc_NoCaterpillar, cda_NoCaterpillar, fdi_NoCaterpillar, I_NoCaterpillar⟩ := cI 3 i_NoCaterpillar rfl
  have ga_NoCaterpillar := He.glo_ok X G (c.fact 41 (f := .glo "NoCaterpillar") rfl)
  obtain ⟨cc_NoRing, cda_NoRing, fdi_NoRing, I_NoRing⟩ := cI 4 i_NoRing rfl
  have ga_NoRing := He.glo_ok X G (c.fact 49 (f := .glo "NoRing") rfl)
  obtain ⟨cc_NoRuler, cda_NoRuler, fdi_NoRuler, I_NoRuler⟩ := cI 5 i_NoRuler rfl
  have ga_NoRuler := He.glo_ok X G (c.fact 57 (f := .glo "NoRuler") rfl)
  obtain ⟨cc_TooMany, cda_TooMany, fdi_TooMany, I_TooMany⟩ := cI 6 i_TooMany rfl
  have ga_TooMany := He.glo_ok X G (c.fact 65 (f := .glo "TooMany") rfl)
  haveI : DL.XcOk K [He.ga K "BadNumber", He.ga K "BadText", He.ga K "BadWeb", He.ga K "NoCaterpillar", He.ga K "NoRing", He.ga K "NoRuler", He.ga K "TooMany"] (He.ga K "BadNumber") := ⟨fun C2 hC => by
    simp only [List.mem_cons, List.not_mem_nil, or_false] at hC
    rcases hC with rfl | rfl | rfl | rfl | rfl | rfl | rfl
    · exact (by rw [decide_eq_true rfl]; exact He.exm_ok (c.fact 18 (f := .exm "BadNumber" "BadNumber" true) rfl))
    · exact (DL.xm_ne (He.exm_ok (c.fact 18 (f := .exm "BadNumber" "BadNumber" true) rfl)) (He.exm_ok (c.fact 26 (f := .exm "BadText" "BadNumber" false) rfl)))
    · exact (DL.xm_ne (He.exm_ok (c.fact 18 (f := .exm "BadNumber" "BadNumber" true) rfl)) (He.exm_ok (c.fact 34 (f := .exm "BadWeb" "BadNumber" false) rfl)))
    · exact (DL.xm_ne (He.exm_ok (c.fact 18 (f := .exm "BadNumber" "BadNumber" true) rfl)) (He.exm_ok (c.fact 42 (f := .exm "NoCaterpillar" "BadNumber" false) rfl)))
    · exact (DL.xm_ne (He.exm_ok (c.fact 18 (f := .exm "BadNumber" "BadNumber" true) rfl)) (He.exm_ok (c.fact 50 (f := .exm "NoRing" "BadNumber" false) rfl)))
    · exact (DL.xm_ne (He.exm_ok (c.fact 18 (f := .exm "BadNumber" "BadNumber" true) rfl)) (He.exm_ok (c.fact 58 (f := .exm "NoRuler" "BadNumber" false) rfl)))
    · exact (DL.xm_ne (He.exm_ok (c.fact 18 (f := .exm "BadNumber" "BadNumber" true) rfl)) (He.exm_ok (c.fact 66 (f := .exm "TooMany" "BadNumber" false) rfl)))⟩
  haveI : DL.XcOk K [He.ga K "BadNumber", He.ga K "BadText", He.ga K "BadWeb", He.ga K "NoCaterpillar", He.ga K "NoRing", He.ga K "NoRuler", He.ga K "TooMany"] (He.ga K "BadText") := ⟨fun C2 hC => by
    simp only [List.mem_cons, List.not_mem_nil, or_false] at hC
    rcases hC with rfl | rfl | rfl | rfl | rfl | rfl | rfl
    · exact (DL.xm_ne (He.exm_ok (c.fact 27 (f := .exm "BadText" "BadText" true) rfl)) (He.exm_ok (c.fact 19 (f := .exm "BadNumber" "BadText" false) rfl)))
    · exact (by rw [decide_eq_true rfl]; exact He.exm_ok (c.fact 27 (f := .exm "BadText" "BadText" true) rfl))
    · exact (DL.xm_ne (He.exm_ok (c.fact 27 (f := .exm "BadText" "BadText" true) rfl)) (He.exm_ok (c.fact 35 (f := .exm "BadWeb" "BadText" false) rfl)))
    · exact (DL.xm_ne (He.exm_ok (c.fact 27 (f := .exm "BadText" "BadText" true) rfl)) (He.exm_ok (c.fact 43 (f := .exm "NoCaterpillar" "BadText" false) rfl)))
    · exact (DL.xm_ne (He.exm_ok (c.fact 27 (f := .exm "BadText" "BadText" true) rfl)) (He.exm_ok (c.fact 51 (f := .exm "NoRing" "BadText" false) rfl)))
    · exact (DL.xm_ne (He.exm_ok (c.fact 27 (f := .exm "BadText" "BadText" true) rfl)) (He.exm_ok (c.fact 59 (f := .exm "NoRuler" "BadText" false) rfl)))
    · exact (DL.xm_ne (He.exm_ok (c.fact 27 (f := .exm "BadText" "BadText" true) rfl)) (He.exm_ok (c.fact 67 (f := .exm "TooMany" "BadText" false) rfl)))⟩
  haveI : DL.XcOk K [He.ga K "BadNumber", He.ga K "BadText", He.ga K "BadWeb", He.ga K "NoCaterpillar", He.ga K "NoRing", He.ga K "NoRuler", He.ga K "TooMany"] (He.ga K "BadWeb") := ⟨fun C2 hC => by
    simp only [List.mem_cons, List.not_mem_nil, or_false] at hC
    rcases hC with rfl | rfl | rfl | rfl | rfl | rfl | rfl
    · exact (DL.xm_ne (He.exm_ok (c.fact 36 (f := .exm "BadWeb" "BadWeb" true) rfl)) (He.exm_ok (c.fact 20 (f := .exm "BadNumber" "BadWeb" false) rfl)))
    · exact (DL.xm_ne (He.exm_ok (c.fact 36 (f := .exm "BadWeb" "BadWeb" true) rfl)) (He.exm_ok (c.fact 28 (f := .exm "BadText" "BadWeb" false) rfl)))
    · exact (by rw [decide_eq_true rfl]; exact He.exm_ok (c.fact 36 (f := .exm "BadWeb" "BadWeb" true) rfl))
    · exact (DL.xm_ne (He.exm_ok (c.fact 36 (f := .exm "BadWeb" "BadWeb" true) rfl)) (He.exm_ok (c.fact 44 (f := .exm "NoCaterpillar" "BadWeb" false) rfl)))
    · exact (DL.xm_ne (He.exm_ok (c.fact 36 (f := .exm "BadWeb" "BadWeb" true) rfl)) (He.exm_ok (c.fact 52 (f := .exm "NoRing" "BadWeb" false) rfl)))
    · exact (DL.xm_ne (He.exm_ok (c.fact 36 (f := .exm "BadWeb" "BadWeb" true) rfl)) (He.exm_ok (c.fact 60 (f := .exm "NoRuler" "BadWeb" false) rfl)))
    · exact (DL.xm_ne (He.exm_ok (c.fact 36 (f := .exm "BadWeb" "BadWeb" true) rfl)) (He.exm_ok (c.fact 68 (f := .exm "TooMany" "BadWeb" false) rfl)))⟩
  haveI : DL.XcOk K [He.ga K "BadNumber", He.ga K "BadText", He.ga K "BadWeb", He.ga K "NoCaterpillar", He.ga K "NoRing", He.ga K "NoRuler", He.ga K "TooMany"] (He.ga K "NoCaterpillar") := ⟨fun C2 hC => by
    simp only [List.mem_cons, List.not_mem_nil, or_false] at hC
    rcases hC with rfl | rfl | rfl | rfl | rfl | rfl | rfl
    · exact (DL.xm_ne (He.exm_ok (c.fact 45 (f := .exm "NoCaterpillar" "NoCaterpillar" true) rfl)) (He.exm_ok (c.fact 21 (f := .exm "BadNumber" "NoCaterpillar" false) rfl)))
    · exact (DL.xm_ne (He.exm_ok (c.fact 45 (f := .exm "NoCaterpillar" "NoCaterpillar" true) rfl)) (He.exm_ok (c.fact 29 (f := .exm "BadText" "NoCaterpillar" false) rfl)))
    · exact (DL.xm_ne (He.exm_ok (c.fact 45 (f := .exm "NoCaterpillar" "NoCaterpillar" true) rfl)) (He.exm_ok (c.fact 37 (f := .exm "BadWeb" "NoCaterpillar" false) rfl)))
    · exact (by rw [decide_eq_true rfl]; exact He.exm_ok (c.fact 45 (f := .exm "NoCaterpillar" "NoCaterpillar" true) rfl))
    · exact (DL.xm_ne (He.exm_ok (c.fact 45 (f := .exm "NoCaterpillar" "NoCaterpillar" true) rfl)) (He.exm_ok (c.fact 53 (f := .exm "NoRing" "NoCaterpillar" false) rfl)))
    · exact (DL.xm_ne (He.exm_ok (c.fact 45 (f := .exm "NoCaterpillar" "NoCaterpillar" true) rfl)) (He.exm_ok (c.fact 61 (f := .exm "NoRuler" "NoCaterpillar" false) rfl)))
    · exact (DL.xm_ne (He.exm_ok (c.fact 45 (f := .exm "NoCaterpillar" "NoCaterpillar" true) rfl)) (He.exm_ok (c.fact 69 (f := .exm "TooMany" "NoCaterpillar" false) rfl)))⟩
  haveI : DL.XcOk K [He.ga K "BadNumber", He.ga K "BadText", He.ga K "BadWeb", He.ga K "NoCaterpillar", He.ga K "NoRing", He.ga K "NoRuler", He.ga K "TooMany"] (He.ga K "NoRing") := ⟨fun C2 hC => by
    simp only [List.mem_cons, List.not_mem_nil, or_false] at hC
    rcases hC with rfl | rfl | rfl | rfl | rfl | rfl | rfl
    · exact (DL.xm_ne (He.exm_ok (c.fact 54 (f := .exm "NoRing" "NoRing" true) rfl)) (He.exm_ok (c.fact 22 (f := .exm "BadNumber" "NoRing" false) rfl)))
    · exact (DL.xm_ne (He.exm_ok (c.fact 54 (f := .exm "NoRing" "NoRing" true) rfl)) (He.exm_ok (c.fact 30 (f := .exm "BadText" "NoRing" false) rfl)))
    · exact (DL.xm_ne (He.exm_ok (c.fact 54 (f := .exm "NoRing" "NoRing" true) rfl)) (He.exm_ok (c.fact 38 (f := .exm "BadWeb" "NoRing" false) rfl)))
    · exact (DL.xm_ne (He.exm_ok (c.fact 54 (f := .exm "NoRing" "NoRing" true) rfl)) (He.exm_ok (c.fact 46 (f := .exm "NoCaterpillar" "NoRing" false) rfl)))
    · exact (by rw [decide_eq_true rfl]; exact He.exm_ok (c.fact 54 (f := .exm "NoRing" "NoRing" true) rfl))
    · exact (DL.xm_ne (He.exm_ok (c.fact 54 (f := .exm "NoRing" "NoRing" true) rfl)) (He.exm_ok (c.fact 62 (f := .exm "NoRuler" "NoRing" false) rfl)))
    · exact (DL.xm_ne (He.exm_ok (c.fact 54 (f := .exm "NoRing" "NoRing" true) rfl)) (He.exm_ok (c.fact 70 (f := .exm "TooMany" "NoRing" false) rfl)))⟩
  haveI : DL.XcOk K [He.ga K "BadNumber", He.ga K "BadText", He.ga K "BadWeb", He.ga K "NoCaterpillar", He.ga K "NoRing", He.ga K "NoRuler", He.ga K "TooMany"] (He.ga K "NoRuler") := ⟨fun C2 hC => by
    simp only [List.mem_cons, List.not_mem_nil, or_false] at hC
    rcases hC with rfl | rfl | rfl | rfl | rfl | rfl | rfl
    · exact (DL.xm_ne (He.exm_ok (c.fact 63 (f := .exm "NoRuler" "NoRuler" true) rfl)) (He.exm_ok (c.fact 23 (f := .exm "BadNumber" "NoRuler" false) rfl)))
    · exact (DL.xm_ne (He.exm_ok (c.fact 63 (f := .exm "NoRuler" "NoRuler" true) rfl)) (He.exm_ok (c.fact 31 (f := .exm "BadText" "NoRuler" false) rfl)))
    · exact (DL.xm_ne (He.exm_ok (c.fact 63 (f := .exm "NoRuler" "NoRuler" true) rfl)) (He.exm_ok (c.fact 39 (f := .exm "BadWeb" "NoRuler" false) rfl)))
    · exact (DL.xm_ne (He.exm_ok (c.fact 63 (f := .exm "NoRuler" "NoRuler" true) rfl)) (He.exm_ok (c.fact 47 (f := .exm "NoCaterpillar" "NoRuler" false) rfl)))
    · exact (DL.xm_ne (He.exm_ok (c.fact 63 (f := .exm "NoRuler" "NoRuler" true) rfl)) (He.exm_ok (c.fact 55 (f := .exm "NoRing" "NoRuler" false) rfl)))
    · exact (by rw [decide_eq_true rfl]; exact He.exm_ok (c.fact 63 (f := .exm "NoRuler" "NoRuler" true) rfl))
    · exact (DL.xm_ne (He.exm_ok (c.fact 63 (f := .exm "NoRuler" "NoRuler" true) rfl)) (He.exm_ok (c.fact 71 (f := .exm "TooMany" "NoRuler" false) rfl)))⟩
  haveI : DL.XcOk K [He.ga K "BadNumber", He.ga K "BadText", He.ga K "BadWeb", He.ga K "NoCaterpillar", He.ga K "NoRing", He.ga K "NoRuler", He.ga K "TooMany"] (He.ga K "TooMany") := ⟨fun C2 hC => by
    simp only [List.mem_cons, List.not_mem_nil, or_false] at hC
    rcases hC with rfl | rfl | rfl | rfl | rfl | rfl | rfl
    · exact (DL.xm_ne (He.exm_ok (c.fact 72 (f := .exm "TooMany" "TooMany" true) rfl)) (He.exm_ok (c.fact 24 (f := .exm "BadNumber" "TooMany" false) rfl)))
    · exact (DL.xm_ne (He.exm_ok (c.fact 72 (f := .exm "TooMany" "TooMany" true) rfl)) (He.exm_ok (c.fact 32 (f := .exm "BadText" "TooMany" false) rfl)))
    · exact (DL.xm_ne (He.exm_ok (c.fact 72 (f := .exm "TooMany" "TooMany" true) rfl)) (He.exm_ok (c.fact 40 (f := .exm "BadWeb" "TooMany" false) rfl)))
    · exact (DL.xm_ne (He.exm_ok (c.fact 72 (f := .exm "TooMany" "TooMany" true) rfl)) (He.exm_ok (c.fact 48 (f := .exm "NoCaterpillar" "TooMany" false) rfl)))
    · exact (DL.xm_ne (He.exm_ok (c.fact 72 (f := .exm "TooMany" "TooMany" true) rfl)) (He.exm_ok (c.fact 56 (f := .exm "NoRing" "TooMany" false) rfl)))
    · exact (DL.xm_ne (He.exm_ok (c.fact 72 (f := .exm "TooMany" "TooMany" true) rfl)) (He.exm_ok (c.fact 64 (f := .exm "NoRuler" "TooMany" false) rfl)))
    · exact (by rw [decide_eq_true rfl]; exact He.exm_ok (c.fact 72 (f := .exm "TooMany" "TooMany" true) rfl))⟩
  have ga_GapError := He.glo_ok X G (c.fact 73 (f := .glo "GapError") rfl)
  have gx_ := He.exc_ok (c.fact 74 (f := .exc "GapError") rfl)
  have gx_GapError := And.intro gx_.1 gx_.2.1
  obtain ⟨hS, cx⟩ := Bool.and_eq_true_iff.mp ce
  haveI := DL.xvB_ok cx
  cases hfa.symm.trans g_law
  have b := FunD.bindsA (ps := ["script"]) F_law fun _ _ _ _ _ _ us hl => match us, hl with | [_], _ => rfl
  refine ⟨fd_law, fun s v => b s [v] rfl, fun base _ _ => ?_⟩
  have E_BadNumber : DL.Xn P w K mg base 1 "BadNumber" (He.ga K "BadNumber") ["value"] (DL.spI (He.ga K "BadNumber") ["value"]) := DL.Xn.of1 (d := i_BadNumber) I_BadNumber ga_BadNumber Gm0.b_super rfl rfl (NdefX.nscope_by (by decide +kernel)) rfl htop rfl rfl (by decide) (by decide) (fun _ => rfl) (fun _ => ⟨_, rfl⟩) (fun _ _ _ _ _ _ _ us hl => match us, hl with | [_, _], _ => rfl)
  have E_BadText : DL.Xn P w K mg base 1 "BadText" (He.ga K "BadText") ["line", "what"] (DL.spI (He.ga K "BadText") ["line", "what"]) := DL.Xn.of2 (d := i_BadText) I_BadText ga_BadText Gm0.b_super rfl rfl (NdefX.nscope_by (by decide +kernel)) rfl htop rfl rfl (by decide) (by decide) (by decide) (by decide) (fun _ => rfl) (fun _ => rfl) (fun _ => ⟨_, rfl⟩) (fun _ _ _ _ _ _ _ us hl => match us, hl with | [_, _, _], _ => rfl)
  have E_BadWeb : DL.Xn P w K mg base 1 "BadWeb" (He.ga K "BadWeb") ["what"] (DL.spI (He.ga K "BadWeb") ["what"]) := DL.Xn.of1 (d := i_BadWeb) I_BadWeb ga_BadWeb Gm0.b_super rfl rfl (NdefX.nscope_by (by decide +kernel)) rfl htop rfl rfl (by decide) (by decide) (fun _ => rfl) (fun _ => ⟨_, rfl⟩) (fun _ _ _ _ _ _ _ us hl => match us, hl with | [_, _], _ => rfl)
  have E_NoCaterpillar : DL.Xn P w K mg base 1 "NoCaterpillar" (He.ga K "NoCaterpillar") [] (DL.spI0 (He.ga K "NoCaterpillar")) := DL.Xn.of0 (d := i_NoCaterpillar) I_NoCaterpillar ga_NoCaterpillar Gm0.b_super rfl rfl (NdefX.nscope_by (by decide +kernel)) rfl htop rfl rfl (fun _ => ⟨_, rfl⟩) (fun _ _ _ _ _ _ _ us hl => match us, hl with | [_], _ => rfl)
  have E_NoRing : DL.Xn P w K mg base 1 "NoRing" (He.ga K "NoRing") [] (DL.spI0 (He.ga K "NoRing")) := DL.Xn.of0 (d := i_NoRing) I_NoRing ga_NoRing Gm0.b_super rfl rfl (NdefX.nscope_by (by decide +kernel)) rfl htop rfl rfl (fun _ => ⟨_, rfl⟩) (fun _ _ _ _ _ _ _ us hl => match us, hl with | [_], _ => rfl)
  have E_NoRuler : DL.Xn P w K mg base 1 "NoRuler" (He.ga K "NoRuler") [] (DL.spI0 (He.ga K "NoRuler")) := DL.Xn.of0 (d := i_NoRuler) I_NoRuler ga_NoRuler Gm0.b_super rfl rfl (NdefX.nscope_by (by decide +kernel)) rfl htop rfl rfl (fun _ => ⟨_, rfl⟩) (fun _ _ _ _ _ _ _ us hl => match us, hl with | [_], _ => rfl)
  have E_TooMany : DL.Xn P w K mg base 1 "TooMany" (He.ga K "TooMany") ["most"] (DL.spI (He.ga K "TooMany") ["most"]) := DL.Xn.of1 (d := i_TooMany) I_TooMany ga_TooMany Gm0.b_super rfl rfl (NdefX.nscope_by (by decide +kernel)) rfl htop rfl rfl (by decide) (by decide) (fun _ => rfl) (fun _ => ⟨_, rfl⟩) (fun _ _ _ _ _ _ _ us hl => match us, hl with | [_, _], _ => rfl)
  have G_law_pot : Dn P w K mg base 1 "_law_pot" ["script"] (spN K 1 f_law_pot) := Dn.mk F_law_pot g_law_pot (ok_law_pot F_law_pot Gm0 ) fun _ _ _ _ _ _ us hl => match us, hl with | [_], _ => rfl
  have G_law_draw : Dn P w K mg base 1 "_law_draw" ["pot", "many"] (spB K 1 f_law_draw) := Dn.mk F_law_draw g_law_draw (ok_law_draw F_law_draw Gm0 ) fun _ _ _ _ _ _ us hl => match us, hl with | [_, _], _ => rfl
  have G_law_pick : Dn P w K mg base 2 "_law_pick" ["pot", "row"] (spB K 1 f_law_pick) := Dn.mk F_law_pick g_law_pick (ok_law_pick F_law_pick Gm0 G_law_draw) fun _ _ _ _ _ _ us hl => match us, hl with | [_, _], _ => rfl
  have G_law_thing : Dn P w K mg base 3 "_law_thing" ["pot"] (spB K 0 f_law_thing) := Dn.mk F_law_thing g_law_thing (ok_law_thing F_law_thing Gm0 G_law_pick) fun _ _ _ _ _ _ us hl => match us, hl with | [_], _ => rfl
  have G_law_kinds : Dn P w K mg base 3 "_law_kinds" ["error"] (spP K 1 (f_law_kinds (He.ga K "BadNumber") (He.ga K "BadText") (He.ga K "BadWeb") (He.ga K "GapError") (He.ga K "NoCaterpillar") (He.ga K "NoRing") (He.ga K "NoRuler") (He.ga K "TooMany"))) := Dn.mk F_law_kinds g_law_kinds (ok_law_kinds F_law_kinds Gm0 E_BadWeb E_BadText E_BadNumber E_NoRuler E_NoRing E_NoCaterpillar E_TooMany) fun _ _ _ _ _ _ us hl => match us, hl with | [_], _ => rfl
  have G_law_rows : Dn P w K mg base 3 "_law_rows" ["a", "b"] (spP K 2 (f_law_rows (He.ga K "BadNumber") (He.ga K "BadText") (He.ga K "BadWeb") (He.ga K "NoCaterpillar") (He.ga K "NoRing") (He.ga K "NoRuler") (He.ga K "TooMany"))) := Dn.mk F_law_rows g_law_rows (ok_law_rows F_law_rows Gm0 E_BadWeb E_BadText E_BadNumber E_TooMany E_NoRuler E_NoRing E_NoCaterpillar) fun _ _ _ _ _ _ us hl => match us, hl with | [_, _], _ => rfl
  have G_law_told_of : Dn P w K mg base 1 "_law_told_of" ["error", "words"] (spP K 2 (f_law_told_of (He.ga K "BadNumber") (He.ga K "BadText") (He.ga K "BadWeb") (He.ga K "GapError") (He.ga K "NoCaterpillar") (He.ga K "NoRing") (He.ga K "NoRuler") (He.ga K "TooMany"))) := Dn.mk F_law_told_of g_law_told_of (ok_law_told_of F_law_told_of Gm0 ) fun _ _ _ _ _ _ us hl => match us, hl with | [_, _], _ => rfl
  exact ok_law F_law Gm0 hS G_law_pot G_law_thing G_law_rows ga_GapError G_law_kinds G_law_told_of gx_GapError
end Ke
open PySem PySem.W PySem.Calls PyProof.Rows
theorem PySem.Challenge.cw_gaplabels_k00_errors_alone_holds : PySem.Challenge.rw_gaplabels_k00_errors_alone.Holds := by
  w_on; o_law
  refine HandSHeadRun.head_any (r := OpenLaw.row PySem.Challenge.rw_gaplabels_k00_errors_alone) (q := view (OpenLaw.row PySem.Challenge.rw_gaplabels_k00_errors_alone).prog [17]) (H := Ke.hk) (ob := Ke.ob) (M := 4000) (loose := Ke.loose) (d := HandSHeadRun.topDef (OpenLaw.row PySem.Challenge.rw_gaplabels_k00_errors_alone).prog 17) (kwd := []) Ke.ob_eq
    (by kernel_rfl) (fun s => by kernel_rfl) Ke.run (by kernel_rfl) (by kernel_rfl) (by kernel_rfl) (by rfl) (by first | assumption | decide +kernel) (by decide +kernel) ⟨rfl, rfl, rfl, rfl, rfl, by decide +kernel⟩ ?hw ?hc
  case hw => w_witness2
  case hc =>
    refine DL.walk_ofC (l := PySem.Challenge.rw_gaplabels_k00_errors_alone) (n := 63) (k := 4) (x := "script") (CX := L2.CX0) rfl (by decide) (by kernel_rfl) ⟨rfl, by decide, by decide⟩ ?F (fun _ _ _ _ z => z)
    intro w mg fa h Y G hmg0
    obtain ⟨K, KX, c⟩ := Y
    have ce := c.x.more
    have cI := fun (k : Nat) (d : DL.IniD) (hd : Ke.ini[k]? = some d) => c.ini (P := (PySem.Challenge.rw_gaplabels_k00_errors_alone).prog) k hd
    have c := c.x.t.d
    have hmg : mg ("law" : PySem.Str) = some (.ref fa) := by
      have e : (HandSHeadRun.topDef (OpenLaw.row PySem.Challenge.rw_gaplabels_k00_errors_alone).prog 17).name = ("law" : PySem.Str) := by kernel_rfl
      rw [← e]
      exact hmg0
    obtain ⟨fd, hb, hF⟩ := Ke.facts (P := (PySem.Challenge.rw_gaplabels_k00_errors_alone).prog) (w := w) KX G hmg c ce cI (by decide +kernel)
    exact ⟨K, fd, DL.spP K 1 (Ke.f_law (He.ga K "BadNumber") (He.ga K "BadText") (He.ga K "BadWeb") (He.ga K "GapError") (He.ga K "NoCaterpillar") (He.ga K "NoRing") (He.ga K "NoRuler") (He.ga K "TooMany")), KX, hb, fun H a ns hl _ hS => DL.lawEnter (fun p hp => absurd hp List.not_mem_nil) hS (Ke.law_true (He.ga K "BadNumber") (He.ga K "BadText") (He.ga K "BadWeb") (He.ga K "GapError") (He.ga K "NoCaterpillar") (He.ga K "NoRing") (He.ga K "NoRuler") (He.ga K "TooMany") (DL.xvB_nd (Bool.and_eq_true_iff.mp ce).2) ns hl), hF⟩
